import PyProof.Rows.All
import Wide.All
import OpenK.AllK
import Wide.FinOn
import HandS.ForMost
import HandS.Exc
import HandS.TryMany
import HandS.Wide
import HandS.IsInst
import HandS.TupAny
import HandS.TupMul
import HandS.Flow
import HandS.Rev
import HandS.RevRange
import HandS.Zip
import HandS.CallSlots
import HandS.WordsExc
import HandS.Deep
import HandS.ExcInit
import HandS.ExcField
import HandS.ClsMeth
import HandS.Defaults
import HandS.RaiseMore
import PyProof.P3Eq
import KE.KTupSum
import KE.GoesEnum
import PyProof.WalksMore
import HandS.Strs
import HandS.ExcIs
import HandS.Style
import HandS.MakeKw
import HandS.HotCalls
import PySem.Challenge.RW_rankwords_k16_whole_counts_completed_and
set_option Elab.async false
set_option linter.all false
set_option maxRecDepth 100000
set_option maxHeartbeats 1000000
/-! VM 1: plain data, how it lies in the heap, environments with ownership -/
namespace VM
open PySem PySem.Spec PyProof.Rows L2

inductive D where
  | non | bl (b : Bool) | int (i : Int) | str (s : Str) | scr (ns : List Int)
  | ty (n : String) | cl (c : Nat)
  | lst (xs : List D) | tup (xs : List D) | ins (c : Nat) (ns : List Str) (xs : List D)
  | dic (ks : List (List Int)) (xs : List D)
  | tupf (xs : List D)
instance : Inhabited D := ⟨.non⟩
/-- flat: holds no object -/
def D.flat : D → Bool
  | .non | .bl _ | .int _ | .str _ | .ty _ | .cl _ => true
  | _ => false

structure Ct where
  K : PySem.W.Frag
  cm : Nat → Addr

/-- a dict whose keys are tuples of ints -/
def kvT (ks : List (List Int)) (vs : List V) : List (List Key × V) := (ks.map fun k => k.map Sum.inl).zip vs
def Ex (H H' : Hp) : Prop := ∀ a o, H a = some o → H' a = some o
theorem Ex.refl (H : Hp) : Ex H H := fun _ _ h => h
theorem Ex.trans {H H1 H2 : Hp} (a : Ex H H1) (b : Ex H1 H2) : Ex H H2 := fun x o h => b x o (a x o h)
theorem Ex.new {H : Hp} {p : Addr} {o : HO} (h : H p = none) : Ex H (upd H p o) := fun a u e => by
  rw [upd_ne (ne_of_none e h)]; exact e
theorem Ex.mut {H H' : Hp} {p : Addr} {o : HO} (e : Ex H H') (h : H p = none) : Ex H (upd H' p o) := fun a u ha => by
  rw [upd_ne (ne_of_none ha h)]; exact e a u ha
theorem Ex.back {H H' : Hp} {p : Addr} (e : Ex H H') (h : H' p = none) : H p = none := by
  cases h1 : H p with
  | none => rfl
  | some o => rw [e p o h1] at h; cases h
theorem Ex.updB {H H' : Hp} {p : Addr} {o : HO} (e : Ex H H') (h : H' p = some o) : Ex (upd H p o) H' := fun a u ha => by
  by_cases q : a = p
  · subst q; rw [upd_same] at ha; cases ha; exact h
  · rw [upd_ne q] at ha; exact e a u ha
theorem ex_rd {H H' : Hp} {a : Addr} {u : HO} (e : Ex H H') (h : Rd H a u) : Rd H' a u := by
  rcases h with h | ⟨o, h⟩
  · exact Or.inl (e a _ h)
  · exact Or.inr ⟨o, e a _ h⟩
theorem ex_l {K : PySem.W.Frag} {H H' : Hp} {a : Addr} {xs : List V} (e : Ex H H') (h : SqL K H a xs) : SqL K H' a xs := by
  rcases h with h | h
  · exact Or.inl (ex_rd e h)
  · exact Or.inr h

mutual
/-- v stands for d in H -/
def Rp (C : Ct) (H : Hp) : D → V → Prop
  | .non, v => v = .non
  | .bl b, v => v = .bl b
  | .int i, v => v = .int i
  | .str s, v => v = .str s
  | .ty n, v => v = .ty n
  | .cl c, v => v = .ref (C.cm c)
  | .scr ns, v => ∃ a, v = .ref a ∧ SqL C.K H a (ns.map V.int)
  | .lst xs, v => ∃ a vs, v = .ref a ∧ H a = some (.lst vs) ∧ RpL C H xs vs
  | .tup xs, v => ∃ a vs, v = .ref a ∧ H a = some (.tup vs) ∧ RpL C H xs vs
  | .ins c ns xs, v => ∃ a dx vs, v = .ref a ∧ H a = some (.ins (C.cm c) dx (ns.zip vs)) ∧ H dx = some (.own a) ∧ ns.length = vs.length ∧ RpL C H xs vs
  | .dic ks xs, v => ∃ a vs, v = .ref a ∧ H a = some (.dT (kvT ks vs)) ∧ ks.length = vs.length ∧ RpL C H xs vs
  | .tupf xs, v => ∃ a o vs, v = .ref a ∧ H a = some (.frz o (.tup vs)) ∧ o.cls = .type "tuple" ∧ o.dict = none ∧ RpL C H xs vs
def RpL (C : Ct) (H : Hp) : List D → List V → Prop
  | [], vs => vs = []
  | d :: ds, vs => ∃ v r, vs = v :: r ∧ Rp C H d v ∧ RpL C H ds r
end
section
variable {C : Ct} {H H' : Hp}
mutual
theorem Rp.mono (e : Ex H H') : ∀ {d : D} {v : V}, Rp C H d v → Rp C H' d v
  | .non, _, h => h
  | .bl _, _, h => h
  | .int _, _, h => h
  | .str _, _, h => h
  | .ty _, _, h => h
  | .cl _, _, h => h
  | .scr ns, v, h => by
    unfold Rp at h ⊢
    obtain ⟨a, rfl, h⟩ := h
    exact ⟨a, rfl, ex_l e h⟩
  | .lst xs, v, h => by
    unfold Rp at h ⊢
    obtain ⟨a, vs, rfl, h1, h2⟩ := h
    exact ⟨a, vs, rfl, e _ _ h1, RpL.mono e h2⟩
  | .tup xs, v, h => by
    unfold Rp at h ⊢
    obtain ⟨a, vs, rfl, h1, h2⟩ := h
    exact ⟨a, vs, rfl, e _ _ h1, RpL.mono e h2⟩
  | .ins c ns xs, v, h => by
    unfold Rp at h ⊢
    obtain ⟨a, dx, vs, rfl, h1, h2, h3, h4⟩ := h
    exact ⟨a, dx, vs, rfl, e _ _ h1, e _ _ h2, h3, RpL.mono e h4⟩
  | .dic ks xs, v, h => by
    unfold Rp at h ⊢
    obtain ⟨a, vs, rfl, h1, h3, h4⟩ := h
    exact ⟨a, vs, rfl, e _ _ h1, h3, RpL.mono e h4⟩
  | .tupf xs, v, h => by
    unfold Rp at h ⊢
    obtain ⟨a, o, vs, rfl, h1, h3, h5, h4⟩ := h
    exact ⟨a, o, vs, rfl, e _ _ h1, h3, h5, RpL.mono e h4⟩
theorem RpL.mono (e : Ex H H') : ∀ {ds : List D} {vs : List V}, RpL C H ds vs → RpL C H' ds vs
  | [], _, h => by unfold RpL at h ⊢; exact h
  | d :: ds, vs, h => by
    unfold RpL at h ⊢
    obtain ⟨v, r, rfl, h1, h2⟩ := h
    exact ⟨v, r, rfl, Rp.mono e h1, RpL.mono e h2⟩
end
theorem RpL.nil : RpL C H [] [] := by unfold RpL; rfl
theorem RpL.cons {d : D} {v : V} {ds : List D} {vs : List V} (h : Rp C H d v) (t : RpL C H ds vs) : RpL C H (d :: ds) (v :: vs) := by
  unfold RpL; exact ⟨v, vs, rfl, h, t⟩
theorem RpL.len : ∀ {ds : List D} {vs : List V}, RpL C H ds vs → ds.length = vs.length
  | [], _, h => by unfold RpL at h; subst h; rfl
  | d :: ds, vs, h => by
    unfold RpL at h
    obtain ⟨v, r, rfl, h1, h2⟩ := h
    simp [RpL.len h2]
theorem RpL.get : ∀ {ds : List D} {vs : List V} {i : Nat} {d : D}, RpL C H ds vs → ds[i]? = some d → ∃ v, vs[i]? = some v ∧ Rp C H d v
  | [], _, _, _, _, e => by simp at e
  | d :: ds, vs, i, x, h, e => by
    unfold RpL at h
    obtain ⟨v, r, rfl, h1, h2⟩ := h
    cases i with
    | zero => simp at e; subst e; exact ⟨v, rfl, h1⟩
    | succ i => simpa using RpL.get h2 (by simpa using e)
theorem RpL.getV : ∀ {ds : List D} {vs : List V} {i : Nat} {v : V}, RpL C H ds vs → vs[i]? = some v → ∃ d, ds[i]? = some d ∧ Rp C H d v
  | [], _, _, _, h, e => by unfold RpL at h; subst h; simp at e
  | d :: ds, vs, i, x, h, e => by
    unfold RpL at h
    obtain ⟨v, r, rfl, h1, h2⟩ := h
    cases i with
    | zero => simp at e; subst e; exact ⟨d, rfl, h1⟩
    | succ i => simpa using RpL.getV h2 (by simpa using e)
theorem RpL.append : ∀ {ds es : List D} {vs ws : List V}, RpL C H ds vs → RpL C H es ws → RpL C H (ds ++ es) (vs ++ ws)
  | [], _, _, _, h, t => by unfold RpL at h; subst h; exact t
  | d :: ds, _, _, _, h, t => by
    unfold RpL at h
    obtain ⟨v, r, rfl, h1, h2⟩ := h
    exact RpL.cons h1 (RpL.append h2 t)
theorem RpL.set : ∀ {ds : List D} {vs : List V} {i : Nat} {d : D} {v : V}, RpL C H ds vs → Rp C H d v → RpL C H (ds.set i d) (vs.set i v)
  | [], _, _, _, _, h, _ => by unfold RpL at h; subst h; exact RpL.nil
  | d :: ds, vs, i, x, y, h, q => by
    unfold RpL at h
    obtain ⟨v, r, rfl, h1, h2⟩ := h
    cases i with
    | zero => exact RpL.cons q h2
    | succ i => exact RpL.cons h1 (RpL.set h2 q)
theorem RpL.take : ∀ {ds : List D} {vs : List V} (n : Nat), RpL C H ds vs → RpL C H (ds.take n) (vs.take n)
  | [], _, _, h => by unfold RpL at h; subst h; simp; exact RpL.nil
  | d :: ds, vs, n, h => by
    unfold RpL at h
    obtain ⟨v, r, rfl, h1, h2⟩ := h
    cases n with
    | zero => exact RpL.nil
    | succ n => exact RpL.cons h1 (RpL.take n h2)
theorem RpL.drop : ∀ {ds : List D} {vs : List V} (n : Nat), RpL C H ds vs → RpL C H (ds.drop n) (vs.drop n)
  | [], _, _, h => by unfold RpL at h; subst h; simp; exact RpL.nil
  | d :: ds, vs, n, h => by
    have h' := h
    unfold RpL at h'
    obtain ⟨v, r, rfl, h1, h2⟩ := h'
    cases n with
    | zero => exact h
    | succ n => exact RpL.drop n h2
theorem RpL.reverse : ∀ {ds : List D} {vs : List V}, RpL C H ds vs → RpL C H ds.reverse vs.reverse
  | [], _, h => by unfold RpL at h; subst h; exact RpL.nil
  | d :: ds, vs, h => by
    unfold RpL at h
    obtain ⟨v, r, rfl, h1, h2⟩ := h
    rw [List.reverse_cons, List.reverse_cons]
    exact RpL.append (RpL.reverse h2) (RpL.cons h1 RpL.nil)
theorem RpL.inv {d : D} {ds : List D} {vs : List V} (h : RpL C H (d :: ds) vs) : ∃ v r, vs = v :: r ∧ Rp C H d v ∧ RpL C H ds r := by
  unfold RpL at h; exact h
end

/-! ### objects owned by a slot: known to no one else -/
/-- at a stands d, its inner things in Hk; G, what others may rely on, does not know it -/
def OwA (C : Ct) (G Hk H : Hp) (a : Addr) : D → Prop
  | .lst xs => G a = none ∧ ∃ vs, H a = some (.lst vs) ∧ RpL C Hk xs vs
  | .ins c ns xs => G a = none ∧ ∃ dx vs, H a = some (.ins (C.cm c) dx (ns.zip vs)) ∧ H dx = some (.own a) ∧ ns.length = vs.length ∧ RpL C Hk xs vs ∧ G dx = none
  | .dic ks xs => G a = none ∧ ∃ vs, H a = some (.dT (kvT ks vs)) ∧ ks.length = vs.length ∧ RpL C Hk xs vs
  | _ => False
section
variable {C : Ct} {G Hk Hk' H H' : Hp} {a b : Addr} {d : D} {o : HO}
theorem OwA.kmono (e : Ex Hk Hk') (h : OwA C G Hk H a d) : OwA C G Hk' H a d := by
  cases d with
  | lst xs => obtain ⟨g, vs, h1, h2⟩ := h; exact ⟨g, vs, h1, h2.mono e⟩
  | ins c ns xs => obtain ⟨g, dx, vs, h1, h2, h3, h4, h5⟩ := h; exact ⟨g, dx, vs, h1, h2, h3, h4.mono e, h5⟩
  | dic ks xs => obtain ⟨g, vs, h1, h2, h3⟩ := h; exact ⟨g, vs, h1, h2, h3.mono e⟩
  | _ => exact h.elim
theorem OwA.hmono (e : Ex H H') (h : OwA C G Hk H a d) : OwA C G Hk H' a d := by
  cases d with
  | lst xs => obtain ⟨g, vs, h1, h2⟩ := h; exact ⟨g, vs, e _ _ h1, h2⟩
  | ins c ns xs => obtain ⟨g, dx, vs, h1, h2, h3, h4, h5⟩ := h; exact ⟨g, dx, vs, e _ _ h1, e _ _ h2, h3, h4, h5⟩
  | dic ks xs => obtain ⟨g, vs, h1, h2, h3⟩ := h; exact ⟨g, vs, e _ _ h1, h2, h3⟩
  | _ => exact h.elim
theorem OwA.gmono {G' : Hp} (e : Ex G' G) (h : OwA C G Hk H a d) : OwA C G' Hk H a d := by
  cases d with
  | lst xs => obtain ⟨g, vs, h1, h2⟩ := h; exact ⟨e.back g, vs, h1, h2⟩
  | ins c ns xs => obtain ⟨g, dx, vs, h1, h2, h3, h4, h5⟩ := h; exact ⟨e.back g, dx, vs, h1, h2, h3, h4, e.back h5⟩
  | dic ks xs => obtain ⟨g, vs, h1, h2, h3⟩ := h; exact ⟨e.back g, vs, h1, h2, h3⟩
  | _ => exact h.elim
theorem OwA.g (h : OwA C G Hk H a d) : G a = none := by
  cases d with
  | lst xs => exact h.1
  | ins c ns xs => exact h.1
  | dic ks xs => exact h.1
  | _ => exact h.elim
/-- an owned object is a list or an instance -/
def isOw : HO → Prop
  | .lst _ => True
  | .ins _ _ _ => True
  | .dT _ => True
  | _ => False
theorem OwA.at (h : OwA C G Hk H a d) : ∃ o, H a = some o ∧ isOw o := by
  cases d with
  | lst xs => obtain ⟨g, vs, h1, h2⟩ := h; exact ⟨_, h1, trivial⟩
  | ins c ns xs => obtain ⟨g, dx, vs, h1, h2, h3, h4, h5⟩ := h; exact ⟨_, h1, trivial⟩
  | dic ks xs => obtain ⟨g, vs, h1, h2, h3⟩ := h; exact ⟨_, h1, trivial⟩
  | _ => exact h.elim
/-- another owned object changes -/
theorem OwA.other (h : OwA C G Hk H a d) (hb : ∃ u, H b = some u ∧ isOw u) (ne : a ≠ b) : OwA C G Hk (upd H b o) a d := by
  cases d with
  | lst xs => obtain ⟨g, vs, h1, h2⟩ := h; exact ⟨g, vs, by rw [upd_ne ne]; exact h1, h2⟩
  | ins c ns xs =>
    obtain ⟨g, dx, vs, h1, h2, h3, h4, h5⟩ := h
    refine ⟨g, dx, vs, by rw [upd_ne ne]; exact h1, ?_, h3, h4, h5⟩
    obtain ⟨u, hu, iu⟩ := hb
    have : dx ≠ b := fun e => by subst e; rw [h2] at hu; cases hu; exact iu
    rw [upd_ne this]; exact h2
  | dic ks xs => obtain ⟨g, vs, h1, h2, h3⟩ := h; exact ⟨g, vs, by rw [upd_ne ne]; exact h1, h2, h3⟩
  | _ => exact h.elim
end

/-- v stands for d, its inner things in Hk, itself in H: shared or owned -/
def Pk (C : Ct) (Hk H : Hp) (d : D) (v : V) : Prop := Rp C Hk d v ∨ ∃ a G, v = .ref a ∧ OwA C G Hk H a d
section
variable {C : Ct} {Hk H : Hp}
theorem Pk.lst {xs : List D} {v : V} (e : Ex Hk H) (h : Pk C Hk H (.lst xs) v) : ∃ a vs, v = .ref a ∧ H a = some (.lst vs) ∧ RpL C Hk xs vs := by
  rcases h with h | ⟨a, G, rfl, g, vs, h1, h2⟩
  · unfold Rp at h
    obtain ⟨a, vs, rfl, h1, h2⟩ := h
    exact ⟨a, vs, rfl, e _ _ h1, h2⟩
  · exact ⟨a, vs, rfl, h1, h2⟩
theorem Pk.tup {xs : List D} {v : V} (e : Ex Hk H) (h : Pk C Hk H (.tup xs) v) : ∃ a vs, v = .ref a ∧ H a = some (.tup vs) ∧ RpL C Hk xs vs ∧ Rp C Hk (.tup xs) v := by
  rcases h with h | ⟨a, G, rfl, h⟩
  · have h' := h
    unfold Rp at h
    obtain ⟨a, vs, rfl, h1, h2⟩ := h
    exact ⟨a, vs, rfl, e _ _ h1, h2, h'⟩
  · exact h.elim
theorem Pk.ins {c : Nat} {ns : List Str} {xs : List D} {v : V} (e : Ex Hk H) (h : Pk C Hk H (.ins c ns xs) v) :
    ∃ a dx vs, v = .ref a ∧ H a = some (.ins (C.cm c) dx (ns.zip vs)) ∧ H dx = some (.own a) ∧ ns.length = vs.length ∧ RpL C Hk xs vs := by
  rcases h with h | ⟨a, G, rfl, g, dx, vs, h1, h2, h3, h4, h5⟩
  · unfold Rp at h
    obtain ⟨a, dx, vs, rfl, h1, h2, h3, h4⟩ := h
    exact ⟨a, dx, vs, rfl, e _ _ h1, e _ _ h2, h3, h4⟩
  · exact ⟨a, dx, vs, rfl, h1, h2, h3, h4⟩
theorem Pk.dic {ks : List (List Int)} {xs : List D} {v : V} (e : Ex Hk H) (h : Pk C Hk H (.dic ks xs) v) : ∃ a vs, v = .ref a ∧ H a = some (.dT (kvT ks vs)) ∧ ks.length = vs.length ∧ RpL C Hk xs vs := by
  rcases h with h | ⟨a, G, rfl, g, vs, h1, h2, h3⟩
  · unfold Rp at h
    obtain ⟨a, vs, rfl, h1, h2, h3⟩ := h
    exact ⟨a, vs, rfl, e _ _ h1, h2, h3⟩
  · exact ⟨a, vs, rfl, h1, h2, h3⟩
theorem Pk.tupf {xs : List D} {v : V} (e : Ex Hk H) (h : Pk C Hk H (.tupf xs) v) : ∃ a o vs, v = .ref a ∧ H a = some (.frz o (.tup vs)) ∧ o.cls = .type "tuple" ∧ o.dict = none ∧ RpL C Hk xs vs := by
  rcases h with h | ⟨a, G, rfl, h⟩
  · unfold Rp at h
    obtain ⟨a, o, vs, rfl, h1, h2, h3, h4⟩ := h
    exact ⟨a, o, vs, rfl, e _ _ h1, h2, h3, h4⟩
  · exact h.elim
theorem Pk.scr {ns : List Int} {v : V} (e : Ex Hk H) (h : Pk C Hk H (.scr ns) v) : ∃ a, v = .ref a ∧ SqL C.K H a (ns.map V.int) := by
  rcases h with h | ⟨a, G, rfl, h⟩
  · unfold Rp at h
    obtain ⟨a, rfl, h⟩ := h
    exact ⟨a, rfl, ex_l e h⟩
  · exact h.elim
theorem Pk.int {i : Int} {v : V} (h : Pk C Hk H (.int i) v) : v = .int i := by
  rcases h with h | ⟨a, G, rfl, h⟩
  · unfold Rp at h; exact h
  · exact h.elim
theorem Pk.bl {b : Bool} {v : V} (h : Pk C Hk H (.bl b) v) : v = .bl b := by
  rcases h with h | ⟨a, G, rfl, h⟩
  · unfold Rp at h; exact h
  · exact h.elim
theorem Pk.non {v : V} (h : Pk C Hk H .non v) : v = .non := by
  rcases h with h | ⟨a, G, rfl, h⟩
  · unfold Rp at h; exact h
  · exact h.elim
theorem Pk.str {s : Str} {v : V} (h : Pk C Hk H (.str s) v) : v = .str s := by
  rcases h with h | ⟨a, G, rfl, h⟩
  · unfold Rp at h; exact h
  · exact h.elim
theorem Pk.ty {n : String} {v : V} (h : Pk C Hk H (.ty n) v) : v = .ty n := by
  rcases h with h | ⟨a, G, rfl, h⟩
  · unfold Rp at h; exact h
  · exact h.elim
theorem Pk.cl {c : Nat} {v : V} (h : Pk C Hk H (.cl c) v) : v = .ref (C.cm c) := by
  rcases h with h | ⟨a, G, rfl, h⟩
  · unfold Rp at h; exact h
  · exact h.elim
/-- in all of H it is known -/
theorem Pk.all {d : D} {v : V} (e : Ex Hk H) (h : Pk C Hk H d v) : Rp C H d v := by
  rcases h with h | ⟨a, G, rfl, h⟩
  · exact h.mono e
  · cases d with
    | lst xs => obtain ⟨g, vs, h1, h2⟩ := h; unfold Rp; exact ⟨a, vs, rfl, h1, h2.mono e⟩
    | ins c ns xs => obtain ⟨g, dx, vs, h1, h2, h3, h4, h5⟩ := h; unfold Rp; exact ⟨a, dx, vs, rfl, h1, h2, h3, h4.mono e⟩
    | dic ks xs => obtain ⟨g, vs, h1, h2, h3⟩ := h; unfold Rp; exact ⟨a, vs, rfl, h1, h2, h3.mono e⟩
    | _ => exact h.elim
end
theorem rp_int {C : Ct} {H : Hp} {i : Int} : Rp C H (.int i) (.int i) := by unfold Rp; rfl
theorem rp_bl {C : Ct} {H : Hp} {b : Bool} : Rp C H (.bl b) (.bl b) := by unfold Rp; rfl
theorem rp_non {C : Ct} {H : Hp} : Rp C H .non .non := by unfold Rp; rfl
theorem rp_str {C : Ct} {H : Hp} {s : Str} : Rp C H (.str s) (.str s) := by unfold Rp; rfl
theorem rp_flat {C : Ct} {H H' : Hp} {d : D} {v : V} (f : d.flat = true) (h : Rp C H d v) : Rp C H' d v := by
  cases d <;> first | (simp [D.flat] at f; done) | (unfold Rp at h ⊢; exact h)

/-! ### environments -/
inductive S where
  | no | sh (d : D) | ow (d : D) | xv (c : Nat) (ns : List Str) (ds : List D)
instance : Inhabited S := ⟨.no⟩
abbrev Env := List S

/-- an exception: its class and attributes -/
def RpX (C : Ct) (Hk H : Hp) (c : Nat) (ns : List Str) (ds : List D) (cls : Value) (dd : Option Addr) : Prop :=
  cls = .ref (C.cm c) ∧ ((ns = [] ∧ ds = [] ∧ dd = none) ∨ ∃ d vs, dd = some d ∧ H d = some (.xd (ns.zip vs)) ∧ ns.length = vs.length ∧ RpL C Hk ds vs)
theorem RpX.kmono {C : Ct} {Hk Hk' H : Hp} {c : Nat} {ns : List Str} {ds : List D} {cls : Value} {dd : Option Addr} (e : Ex Hk Hk') (h : RpX C Hk H c ns ds cls dd) : RpX C Hk' H c ns ds cls dd := by
  obtain ⟨h1, h | ⟨d, vs, h2, h3, h4, h5⟩⟩ := h
  · exact ⟨h1, .inl h⟩
  · exact ⟨h1, .inr ⟨d, vs, h2, h3, h4, h5.mono e⟩⟩
theorem RpX.hmono {C : Ct} {Hk H H' : Hp} {c : Nat} {ns : List Str} {ds : List D} {cls : Value} {dd : Option Addr} (e : Ex H H') (h : RpX C Hk H c ns ds cls dd) : RpX C Hk H' c ns ds cls dd := by
  obtain ⟨h1, h | ⟨d, vs, h2, h3, h4, h5⟩⟩ := h
  · exact ⟨h1, .inl h⟩
  · exact ⟨h1, .inr ⟨d, vs, h2, e _ _ h3, h4, h5⟩⟩
theorem RpX.other {C : Ct} {Hk H : Hp} {c : Nat} {ns : List Str} {ds : List D} {cls : Value} {dd : Option Addr} {b : Addr} {o : HO} (hb : ∃ u, H b = some u ∧ isOw u) (h : RpX C Hk H c ns ds cls dd) : RpX C Hk (upd H b o) c ns ds cls dd := by
  obtain ⟨h1, h | ⟨d, vs, h2, h3, h4, h5⟩⟩ := h
  · exact ⟨h1, .inl h⟩
  · refine ⟨h1, .inr ⟨d, vs, h2, ?_, h4, h5⟩⟩
    obtain ⟨u, hu, iu⟩ := hb
    have : d ≠ b := fun e => by subst e; rw [h3] at hu; cases hu; exact iu
    rw [upd_ne this]; exact h3

/-- more is known than before; what is new was not there for others -/
structure Kx (G Hk Hk' : Hp) : Prop where
  ex : Ex Hk Hk'
  new : ∀ b o, Hk' b = some o → Hk b = none → G b = none
theorem Kx.refl (G H : Hp) : Kx G H H := ⟨Ex.refl H, fun b o h n => by rw [n] at h; cases h⟩
theorem Kx.trans {G H H1 H2 : Hp} (a : Kx G H H1) (b : Kx G H1 H2) : Kx G H H2 := ⟨a.ex.trans b.ex, fun x o h n => by
  cases q : H1 x with
  | none => exact b.new x o h q
  | some u => exact a.new x u q n⟩

/-- the exception at hand; the address that slot 0 owns, if it is the caller's -/
structure Xa where
  x : Option (Addr × Value × Option Addr)
  p : Option Addr
structure RE (C : Ct) (xa : Xa) (G : Hp) (env : Env) (σ : L2.St) (Hk H : Hp) : Prop where
  len : env.length = σ.length
  hk : Ex Hk H
  g : Ex G H
  sh : ∀ (i : Nat) (d : D), env[i]? = some (.sh d) → ∃ v, σ[i]? = some (some v) ∧ Rp C Hk d v
  ow : ∀ (i : Nat) (d : D), env[i]? = some (.ow d) → ∃ a, σ[i]? = some (some (.ref a)) ∧ Hk a = none ∧ OwA C G Hk H a d
  inj : ∀ (i j : Nat) (d d' : D) (a : Addr), env[i]? = some (.ow d) → env[j]? = some (.ow d') → σ[i]? = some (some (.ref a)) → σ[j]? = some (some (.ref a)) → i = j
  xv : ∀ (i : Nat) (c : Nat) (ns : List Str) (ds : List D), env[i]? = some (.xv c ns ds) → ∃ a cls dd, xa.x = some (a, cls, dd) ∧ σ[i]? = some (some (.ref a)) ∧ RpX C Hk H c ns ds cls dd
  pn : ∀ (a : Addr) (d : D), xa.p = some a → env[0]? = some (.ow d) → σ[0]? = some (some (.ref a))

theorem set_get {α : Type} {l : List α} {i j : Nat} {x y : α} (h : (l.set i x)[j]? = some y) : (i = j ∧ i < l.length ∧ y = x) ∨ (i ≠ j ∧ l[j]? = some y) := by
  by_cases e : i = j
  · subst e
    by_cases hl : i < l.length
    · rw [List.getElem?_set_self hl] at h
      cases h
      exact .inl ⟨rfl, hl, rfl⟩
    · rw [List.getElem?_eq_none (by simpa using hl)] at h
      cases h
  · rw [List.getElem?_set_ne e] at h
    exact .inr ⟨e, h⟩
theorem set_id {α : Type} {l : List α} {k : Nat} {x : α} (h : l[k]? = some x) : l.set k x = l := by
  apply List.ext_getElem?
  intro j
  by_cases q : k = j
  · subst q
    obtain ⟨hl, _⟩ := List.getElem?_eq_some_iff.mp h
    rw [List.getElem?_set_self hl, h]
  · rw [List.getElem?_set_ne q]
section
variable {C : Ct} {xa : Xa} {G : Hp} {env : Env} {σ : L2.St} {Hk H H' : Hp}
/-- the heap grows -/
theorem RE.ext (r : RE C xa G env σ Hk H) (e : Ex H H') : RE C xa G env σ Hk H' :=
  ⟨r.len, r.hk.trans e, r.g.trans e, r.sh, fun i d h => by
    obtain ⟨a, h1, h2, h3⟩ := r.ow i d h
    exact ⟨a, h1, h2, h3.hmono e⟩, r.inj, fun i c ns ds h => by
    obtain ⟨a, cls, dd, h1, h2, h3⟩ := r.xv i c ns ds h
    exact ⟨a, cls, dd, h1, h2, h3.hmono e⟩, r.pn⟩
/-- more is known, of nothing that is owned -/
theorem RE.know {Hk' : Hp} (r : RE C xa G env σ Hk H) (e : Ex Hk Hk') (e2 : Ex Hk' H) (hn : ∀ (i : Nat) (d : D) (a : Addr), env[i]? = some (.ow d) → σ[i]? = some (some (.ref a)) → Hk' a = none) : RE C xa G env σ Hk' H :=
  ⟨r.len, e2, r.g, fun i d h => by
    obtain ⟨v, h1, h2⟩ := r.sh i d h
    exact ⟨v, h1, h2.mono e⟩, fun i d h => by
    obtain ⟨a, h1, h2, h3⟩ := r.ow i d h
    exact ⟨a, h1, hn i d a h h1, h3.kmono e⟩, r.inj, fun i c ns ds h => by
    obtain ⟨a, cls, dd, h1, h2, h3⟩ := r.xv i c ns ds h
    exact ⟨a, cls, dd, h1, h2, h3.kmono e⟩, r.pn⟩
/-- an owned address is in H -/
theorem RE.owAt (r : RE C xa G env σ Hk H) {i : Nat} {d : D} {a : Addr} (h : env[i]? = some (.ow d)) (hs : σ[i]? = some (some (.ref a))) : Hk a = none ∧ OwA C G Hk H a d := by
  obtain ⟨b, h1, h2, h3⟩ := r.ow i d h
  rw [hs] at h1
  cases h1
  exact ⟨h2, h3⟩
/-- a slot is forgotten -/
theorem RE.drop (r : RE C xa G env σ Hk H) (k : Nat) : RE C xa G (env.set k .no) σ Hk H :=
  ⟨by rw [List.length_set]; exact r.len, r.hk, r.g,
   fun i d h => by
    rcases set_get h with ⟨_, _, e⟩ | ⟨_, h⟩
    · cases e
    · exact r.sh i d h,
   fun i d h => by
    rcases set_get h with ⟨_, _, e⟩ | ⟨_, h⟩
    · cases e
    · exact r.ow i d h,
   fun i j d d' a h1 h2 s1 s2 => by
    rcases set_get h1 with ⟨_, _, e⟩ | ⟨_, h1⟩
    · cases e
    · rcases set_get h2 with ⟨_, _, e⟩ | ⟨_, h2⟩
      · cases e
      · exact r.inj i j d d' a h1 h2 s1 s2,
   fun i c ns ds h => by
    rcases set_get h with ⟨_, _, e⟩ | ⟨_, h⟩
    · cases e
    · exact r.xv i c ns ds h,
   fun a d hp h => by
    rcases set_get h with ⟨_, _, e⟩ | ⟨_, h⟩
    · cases e
    · exact r.pn a d hp h⟩
/-- the slot's value itself may then be anything -/
theorem RE.dropSet (r : RE C xa G env σ Hk H) (k : Nat) (o : Option V) : RE C xa G (env.set k .no) (σ.set k o) Hk H := by
  have r := r.drop k
  have ne : ∀ {i : Nat} {x : S}, (env.set k .no)[i]? = some x → x ≠ .no → k ≠ i := fun {i x} h hx e => by
    rcases set_get h with ⟨_, _, e2⟩ | ⟨e2, _⟩
    · exact hx e2
    · exact e2 e
  refine ⟨by rw [List.length_set]; simpa using r.len, r.hk, r.g, fun i d h => ?_, fun i d h => ?_, fun i j d d' a h1 h2 s1 s2 => ?_, fun i c ns ds h => ?_, fun a d hp h => ?_⟩
  · rw [List.getElem?_set_ne (ne h (fun e => by cases e))]; exact r.sh i d h
  · rw [List.getElem?_set_ne (ne h (fun e => by cases e))]; exact r.ow i d h
  · rw [List.getElem?_set_ne (ne h1 (fun e => by cases e))] at s1
    rw [List.getElem?_set_ne (ne h2 (fun e => by cases e))] at s2
    exact r.inj i j d d' a h1 h2 s1 s2
  · rw [List.getElem?_set_ne (ne h (fun e => by cases e))]; exact r.xv i c ns ds h
  · rw [List.getElem?_set_ne (ne h (fun e => by cases e))]; exact r.pn a d hp h
/-- a slot's value is another, shared -/
theorem RE.setSh (r : RE C xa G env σ Hk H) {k : Nat} {d : D} {v : V} (q : Rp C Hk d v) : RE C xa G (env.set k (.sh d)) (σ.set k (some v)) Hk H := by
  have r0 := r.dropSet k (some v)
  have el : (env.set k (.sh d)) = (env.set k .no).set k (.sh d) := by rw [List.set_set]
  rw [el]
  refine ⟨by simpa using r.len, r.hk, r.g, fun i x h => ?_, fun i x h => ?_, fun i j x x' a h1 h2 s1 s2 => ?_, fun i c ns ds h => ?_, fun a x hp h => ?_⟩
  · rcases set_get h with ⟨e, hl, e2⟩ | ⟨e, h⟩
    · subst e
      cases e2
      refine ⟨v, ?_, q⟩
      rw [List.getElem?_set_self]
      rw [← r.len]
      simpa using hl
    · exact r0.sh i x h
  · rcases set_get h with ⟨_, _, e⟩ | ⟨e, h⟩
    · cases e
    · exact r0.ow i x h
  · rcases set_get h1 with ⟨_, _, e⟩ | ⟨e1, h1⟩
    · cases e
    · rcases set_get h2 with ⟨_, _, e⟩ | ⟨e2, h2⟩
      · cases e
      · exact r0.inj i j x x' a h1 h2 s1 s2
  · rcases set_get h with ⟨_, _, e⟩ | ⟨e, h⟩
    · cases e
    · exact r0.xv i c ns ds h
  · rcases set_get h with ⟨_, _, e⟩ | ⟨e, h⟩
    · cases e
    · exact r0.pn a x hp h
/-- .. owned, at an address that no slot owns -/
theorem RE.setOw (r : RE C xa G env σ Hk H) {k : Nat} {d : D} {a : Addr} (h0 : k ≠ 0 ∨ xa.p = none) (hk : Hk a = none) (q : OwA C G Hk H a d) (hn : ∀ (i : Nat) (d' : D), env[i]? = some (.ow d') → σ[i]? ≠ some (some (.ref a))) : RE C xa G (env.set k (.ow d)) (σ.set k (some (.ref a))) Hk H := by
  have r0 := r.dropSet k (some (.ref a))
  have el : (env.set k (.ow d)) = (env.set k .no).set k (.ow d) := by rw [List.set_set]
  have hn0 : ∀ (i : Nat) (d' : D), (env.set k .no)[i]? = some (.ow d') → (σ.set k (some (.ref a)))[i]? ≠ some (some (.ref a)) := fun i d' h => by
    rcases set_get h with ⟨_, _, e⟩ | ⟨e, h⟩
    · cases e
    · rw [List.getElem?_set_ne e]; exact hn i d' h
  rw [el]
  refine ⟨by simpa using r.len, r.hk, r.g, fun i x h => ?_, fun i x h => ?_, fun i j x x' b h1 h2 s1 s2 => ?_, fun i c ns ds h => ?_, fun b x hp h => ?_⟩
  · rcases set_get h with ⟨_, _, e⟩ | ⟨e, h⟩
    · cases e
    · exact r0.sh i x h
  · rcases set_get h with ⟨e, hl, e2⟩ | ⟨e, h⟩
    · subst e
      cases e2
      refine ⟨a, ?_, hk, q⟩
      rw [List.getElem?_set_self]
      rw [← r.len]
      simpa using hl
    · exact r0.ow i x h
  · rcases set_get h1 with ⟨e1, l1, _⟩ | ⟨e1, h1⟩
    · rcases set_get h2 with ⟨e2, _, _⟩ | ⟨e2, h2⟩
      · exact e1.symm.trans e2
      · subst e1
        rw [List.getElem?_set_self (by rw [← r.len]; simpa using l1)] at s1
        cases s1
        exact absurd s2 (hn0 j x' h2)
    · rcases set_get h2 with ⟨e2, l2, _⟩ | ⟨e2, h2⟩
      · subst e2
        rw [List.getElem?_set_self (by rw [← r.len]; simpa using l2)] at s2
        cases s2
        exact absurd s1 (hn0 i x h1)
      · exact r0.inj i j x x' b h1 h2 s1 s2
  · rcases set_get h with ⟨_, _, e⟩ | ⟨e, h⟩
    · cases e
    · exact r0.xv i c ns ds h
  · rcases set_get h with ⟨e, _, _⟩ | ⟨e, h⟩
    · rcases h0 with h0 | h0
      · exact absurd e h0
      · rw [h0] at hp; cases hp
    · exact r0.pn b x hp h
/-- what is owned at a becomes known -/
theorem own_known {a : Addr} {d : D} (e : Ex Hk H) (h : OwA C G Hk H a d) : ∃ Hk', Kx G Hk Hk' ∧ Ex Hk' H ∧ Rp C Hk' d (.ref a) ∧ ∀ b o, Hk' b = some o → Hk b = none → b = a ∨ o = .own a := by
  cases d with
  | lst xs =>
    obtain ⟨g, vs, h1, h2⟩ := h
    have e1 : Ex Hk (upd Hk a (.lst vs)) := fun b o hb => by
      by_cases q : b = a
      · subst q; rw [upd_same]; have := e _ _ hb; rw [h1] at this; exact this
      · rw [upd_ne q]; exact hb
    have nw : ∀ b o, upd Hk a (.lst vs) b = some o → Hk b = none → b = a := fun b o hb hn => by
      by_cases q : b = a
      · exact q
      · rw [upd_ne q, hn] at hb; cases hb
    refine ⟨upd Hk a (.lst vs), ⟨e1, fun b o hb hn => by rw [nw b o hb hn]; exact g⟩, Ex.updB e h1, ?_, fun b o hb hn => .inl (nw b o hb hn)⟩
    unfold Rp
    exact ⟨a, vs, rfl, upd_same, h2.mono e1⟩
  | ins c ns xs =>
    obtain ⟨g, dx, vs, h1, h2, h3, h4, h5⟩ := h
    have ne : dx ≠ a := fun q => by subst q; rw [h1] at h2; cases h2
    have e1 : Ex Hk (upd (upd Hk dx (.own a)) a (.ins (C.cm c) dx (ns.zip vs))) := fun b o hb => by
      by_cases q : b = a
      · subst q; rw [upd_same]; have := e _ _ hb; rw [h1] at this; exact this
      · rw [upd_ne q]
        by_cases q2 : b = dx
        · subst q2; rw [upd_same]; have := e _ _ hb; rw [h2] at this; exact this
        · rw [upd_ne q2]; exact hb
    have nw : ∀ b o, upd (upd Hk dx (.own a)) a (.ins (C.cm c) dx (ns.zip vs)) b = some o → Hk b = none → b = a ∨ (b = dx ∧ o = .own a) := fun b o hb hn => by
      by_cases q : b = a
      · exact .inl q
      · rw [upd_ne q] at hb
        by_cases q2 : b = dx
        · subst q2; rw [upd_same] at hb; cases hb; exact .inr ⟨rfl, rfl⟩
        · rw [upd_ne q2, hn] at hb; cases hb
    refine ⟨_, ⟨e1, fun b o hb hn => ?_⟩, Ex.updB (Ex.updB e h2) h1, ?_, fun b o hb hn => ?_⟩
    · rcases nw b o hb hn with q | ⟨q, _⟩
      · rw [q]; exact g
      · rw [q]; exact h5
    · unfold Rp
      exact ⟨a, dx, vs, rfl, upd_same, by rw [upd_ne ne]; exact upd_same, h3, h4.mono e1⟩
    · rcases nw b o hb hn with q | ⟨_, q⟩
      · exact .inl q
      · exact .inr q
  | dic ks xs =>
    obtain ⟨g, vs, h1, h2, h3⟩ := h
    have e1 : Ex Hk (upd Hk a (.dT (kvT ks vs))) := fun b o hb => by
      by_cases q : b = a
      · subst q; rw [upd_same]; have := e _ _ hb; rw [h1] at this; exact this
      · rw [upd_ne q]; exact hb
    have nw : ∀ b o, upd Hk a (.dT (kvT ks vs)) b = some o → Hk b = none → b = a := fun b o hb hn => by
      by_cases q : b = a
      · exact q
      · rw [upd_ne q, hn] at hb; cases hb
    refine ⟨upd Hk a (.dT (kvT ks vs)), ⟨e1, fun b o hb hn => by rw [nw b o hb hn]; exact g⟩, Ex.updB e h1, ?_, fun b o hb hn => .inl (nw b o hb hn)⟩
    unfold Rp
    exact ⟨a, vs, rfl, upd_same, h2, h3.mono e1⟩
  | _ => exact h.elim
/-- an object that no slot owns, owned at a, becomes shared -/
theorem RE.settle (r : RE C xa G env σ Hk H) {a : Addr} {d : D} (q : OwA C G Hk H a d) (hn : ∀ (i : Nat) (d' : D), env[i]? = some (.ow d') → σ[i]? ≠ some (some (.ref a))) : ∃ Hk', Kx G Hk Hk' ∧ RE C xa G env σ Hk' H ∧ Rp C Hk' d (.ref a) := by
  obtain ⟨Hk', e1, e2, hr, nw⟩ := own_known r.hk q
  refine ⟨Hk', e1, r.know e1.ex e2 fun i x b hi hb => ?_, hr⟩
  obtain ⟨g1, g2⟩ := r.owAt hi hb
  cases z : Hk' b with
  | none => rfl
  | some o =>
    rcases nw b o z g1 with y | y
    · subst y; exact absurd hb (hn i x hi)
    · obtain ⟨u, hu, iu⟩ := g2.at
      rw [e2 b o z] at hu
      subst y
      cases hu
      exact iu.elim
/-- a slot's object becomes shared -/
theorem RE.freeze (r : RE C xa G env σ Hk H) {k : Nat} {d : D} (h : env[k]? = some (.ow d)) : ∃ Hk', Kx G Hk Hk' ∧ RE C xa G (env.set k (.sh d)) σ Hk' H ∧ ∃ v, σ[k]? = some (some v) ∧ Rp C Hk' d v := by
  obtain ⟨a, h1, h2, h3⟩ := r.ow k d h
  have r1 := r.drop k
  obtain ⟨Hk', e1, r2, hr⟩ := r1.settle (a := a) (d := d) h3 fun i d' hi hs => by
    rcases set_get hi with ⟨_, _, e⟩ | ⟨ne, hi⟩
    · cases e
    · exact ne (r.inj k i d d' a h hi h1 hs)
  refine ⟨Hk', e1, ?_, _, h1, hr⟩
  have hs := r2.setSh (k := k) hr
  rw [List.set_set, set_id h1] at hs
  exact hs
/-- the object that slot k owns changes -/
theorem RE.mut (r : RE C xa G env σ Hk H) {k : Nat} {d d' : D} {a : Addr} {o : HO} (h : env[k]? = some (.ow d)) (hs : σ[k]? = some (some (.ref a))) (q : OwA C G Hk (upd H a o) a d') : RE C xa G (env.set k (.ow d')) σ Hk (upd H a o) := by
  obtain ⟨h2, h4⟩ := r.owAt h hs
  have at4 := h4.at
  refine ⟨by rw [List.length_set]; exact r.len, r.hk.mut h2, r.g.mut h4.g, fun i x hi => ?_, fun i x hi => ?_, fun i j x x' b h1 h2 s1 s2 => ?_, fun i c ns ds hi => ?_, fun b x hp hi => ?_⟩
  · rcases set_get hi with ⟨_, _, e⟩ | ⟨_, hi⟩
    · cases e
    · exact r.sh i x hi
  · rcases set_get hi with ⟨e, _, e2⟩ | ⟨ne, hi⟩
    · subst e
      cases e2
      exact ⟨a, hs, h2, q⟩
    · obtain ⟨b, g1, g2, g4⟩ := r.ow i x hi
      refine ⟨b, g1, g2, g4.other at4 fun e => ?_⟩
      subst e
      exact ne (r.inj k i d x b h hi hs g1)
  · have f : ∀ {m : Nat} {y : D}, (env.set k (.ow d'))[m]? = some (.ow y) → ∃ y', env[m]? = some (.ow y') := fun {m y} hm => by
      rcases set_get hm with ⟨e, _, _⟩ | ⟨_, hm⟩
      · subst e; exact ⟨d, h⟩
      · exact ⟨y, hm⟩
    obtain ⟨y1, k1⟩ := f h1
    obtain ⟨y2, k2⟩ := f h2
    exact r.inj i j y1 y2 b k1 k2 s1 s2
  · rcases set_get hi with ⟨_, _, e⟩ | ⟨_, hi⟩
    · cases e
    · obtain ⟨b, cls, dd, g1, g2, g3⟩ := r.xv i c ns ds hi
      exact ⟨b, cls, dd, g1, g2, g3.other at4⟩
  · rcases set_get hi with ⟨e, _, _⟩ | ⟨_, hi⟩
    · subst e
      exact r.pn b d hp h
    · exact r.pn b x hp hi
end
end VM

set_option Elab.async false
set_option linter.all false
set_option maxRecDepth 100000
set_option maxHeartbeats 1000000
/-! VM 2: what an expression, a test, a statement computes; names, constants, operators -/
namespace VM
open PySem PySem.Spec PyProof.Rows L2

inductive Tk where
  | val (d : D) | slot (k : Nat) | new (d : D)
inductive Rs (α : Type) where
  | ok (a : α) (e : Env) | ex (c : Nat) (ns : List Str) (ds : List D) (e : Env) | bad
abbrev M (α : Type) := Env → Rs α
def mBind {α β : Type} (m : M α) (f : α → M β) : M β := fun env => match m env with
  | .ok a e => f a e
  | .ex c ns ds e => .ex c ns ds e
  | .bad => .bad
def mOf {α : Type} (o : Option α) : M α := fun env => match o with
  | some a => .ok a env
  | none => .bad
/-- a new object is shared from now on -/
def Tk.settle : Tk → Tk
  | .new d => .val d
  | t => t
def look (t : Tk) (env : Env) : Option D := match t with
  | .val d => some d
  | .new d => some d
  | .slot k => match env[k]? with
    | some (.sh d) => some d
    | some (.ow d) => some d
    | _ => none
/-- the value, shared from now on -/
def force (t : Tk) : M D := fun env => match t with
  | .val d => .ok d env
  | .new d => .ok d env
  | .slot k => match env[k]? with
    | some (.sh d) => .ok d env
    | some (.ow d) => .ok d (env.set k (.sh d))
    | _ => .bad

/-- what stands besides: the classes' addresses, the exception at hand, what is wished of exceptions -/
structure Y where
  cm : Nat → Addr
  xa : Xa
  W : WX
abbrev Y.ct (y : Y) (X : Cx) : Ct := ⟨X.K, y.cm⟩

/-- a token's value -/
def RT (C : Ct) (G : Hp) (env : Env) (σ : L2.St) (Hk H : Hp) (t : Tk) (v : V) : Prop := match t with
  | .val d => Rp C Hk d v
  | .slot k => σ[k]? = some (some v)
  | .new d => ∃ a, v = .ref a ∧ Hk a = none ∧ OwA C G Hk H a d ∧ ∀ (i : Nat) (d' : D), env[i]? = some (.ow d') → σ[i]? ≠ some (some (.ref a))
/-- a settled token -/
def RV (C : Ct) (σ : L2.St) (Hk : Hp) (t : Tk) (v : V) : Prop := match t with
  | .val d => Rp C Hk d v
  | .slot k => σ[k]? = some (some v)
  | .new d => False

section
variable (C : Ct) (xa : Xa) (W : WX) (G : Hp) (σ : L2.St) (Hk : Hp)
/-- an end by an exception -/
def PoX (c : Nat) (ns : List Str) (ds : List D) (e : Env) : Prop := ∀ cls dd Hk' H', Kx G Hk Hk' → RE C xa G e σ Hk' H' → RpX C Hk' H' c ns ds cls dd → W cls dd σ H'
def PoE (r : Rs Tk) (Q : VK) : Prop := match r with
  | .ok t e => ∀ v Hk' H', Kx G Hk Hk' → RE C xa G e σ Hk' H' → RT C G e σ Hk' H' t v → Q v H'
  | .ex c ns ds e => PoX C xa W G σ Hk c ns ds e
  | .bad => False
def PoB (r : Rs Bool) (Q : Bool → Hp → Prop) : Prop := match r with
  | .ok b e => ∀ Hk' H', Kx G Hk Hk' → RE C xa G e σ Hk' H' → Q b H'
  | .ex c ns ds e => PoX C xa W G σ Hk c ns ds e
  | .bad => False
inductive RVs (C : Ct) (σ : L2.St) (Hk : Hp) : List Tk → List V → Prop
  | nil : RVs C σ Hk [] []
  | cons {t : Tk} {v : V} {ts : List Tk} {vs : List V} (h : RV C σ Hk t v) (r : RVs C σ Hk ts vs) : RVs C σ Hk (t :: ts) (v :: vs)
def PoA (r : Rs (List Tk)) (Q : List V → Hp → Prop) : Prop := match r with
  | .ok ts e => ∀ vs Hk' H', Kx G Hk Hk' → RE C xa G e σ Hk' H' → RVs C σ Hk' ts vs → Q vs H'
  | .ex c ns ds e => PoX C xa W G σ Hk c ns ds e
  | .bad => False
end
section
variable (X : Cx) (y : Y)
def tE (m : M Tk) : TE := fun σ H Q => ∃ env Hk G, RE (y.ct X) y.xa G env σ Hk H ∧ PoE (y.ct X) y.xa y.W G σ Hk (m env) Q
def tB (m : M Bool) : TT := fun σ H Q => ∃ env Hk G, RE (y.ct X) y.xa G env σ Hk H ∧ PoB (y.ct X) y.xa y.W G σ Hk (m env) Q
def tA (m : M (List Tk)) : TA := fun σ H Q => ∃ env Hk G, RE (y.ct X) y.xa G env σ Hk H ∧ PoA (y.ct X) y.xa y.W G σ Hk (m env) Q
structure PX (e : Expr) (m : M Tk) : Prop where
  pe : PE X e (tE X y m)
structure PB (e : Expr) (m : M Bool) : Prop where
  pt : PT X e (tB X y m)
structure PAs (es : List Expr) (m : M (List Tk)) : Prop where
  pa : PA X es (tA X y m)
end
theorem PE_imp {X : Cx} {e : Expr} {t t' : TE} (h : PE X e t) (f : ∀ σ H Q, t' σ H Q → t σ H Q) : PE X e t' := ⟨fun pins s σ H Q I q => h.run pins s σ H Q I (f σ H Q q)⟩
theorem PT_imp {X : Cx} {e : Expr} {t t' : TT} (h : PT X e t) (f : ∀ σ H Q, t' σ H Q → t σ H Q) : PT X e t' := ⟨fun pins s σ H Q I q => h.run pins s σ H Q I (f σ H Q q)⟩
theorem PA_imp {X : Cx} {es : List Expr} {t t' : TA} (h : PA X es t) (f : ∀ σ H Q, t' σ H Q → t σ H Q) : PA X es t' := ⟨fun pos pins s σ H Q I q => h.run pos pins s σ H Q I (f σ H Q q)⟩
theorem PS_imp {X : Cx} {st : Stmt} {t t' : TS} (h : PS X st t) (f : ∀ D σ H, t' D σ H → t D σ H) : PS X st t' := ⟨fun pins s σ H D I q => h.run pins s σ H D I (f D σ H q)⟩
theorem PSs_imp {X : Cx} {st : List Stmt} {t t' : TS} (h : PSs X st t) (f : ∀ D σ H, t' D σ H → t D σ H) : PSs X st t' := ⟨fun pins s σ H D I q => h.run pins s σ H D I (f D σ H q)⟩

/-! ### from one state to the next -/
section
variable {C : Ct} {xa : Xa} {W : WX} {G : Hp} {env : Env} {σ : L2.St} {Hk Hk' H H' : Hp} {t : Tk} {v : V}
theorem PoX.kx {c : Nat} {ns : List Str} {ds : List D} {e : Env} (k : Kx G Hk Hk') (h : PoX C xa W G σ Hk c ns ds e) : PoX C xa W G σ Hk' c ns ds e :=
  fun cls dd H2 H' k2 => h cls dd H2 H' (k.trans k2)
theorem PoE.kx {r : Rs Tk} {Q : VK} (k : Kx G Hk Hk') (h : PoE C xa W G σ Hk r Q) : PoE C xa W G σ Hk' r Q := by
  cases r with
  | ok t e => exact fun v H2 H' k2 => h v H2 H' (k.trans k2)
  | ex c ns ds e => exact PoX.kx k h
  | bad => exact h
theorem PoB.kx {r : Rs Bool} {Q : Bool → Hp → Prop} (k : Kx G Hk Hk') (h : PoB C xa W G σ Hk r Q) : PoB C xa W G σ Hk' r Q := by
  cases r with
  | ok t e => exact fun H2 H' k2 => h H2 H' (k.trans k2)
  | ex c ns ds e => exact PoX.kx k h
  | bad => exact h
theorem PoA.kx {r : Rs (List Tk)} {Q : List V → Hp → Prop} (k : Kx G Hk Hk') (h : PoA C xa W G σ Hk r Q) : PoA C xa W G σ Hk' r Q := by
  cases r with
  | ok t e => exact fun v H2 H' k2 => h v H2 H' (k.trans k2)
  | ex c ns ds e => exact PoX.kx k h
  | bad => exact h
theorem RV.kx (k : Kx G Hk Hk') (h : RV C σ Hk t v) : RV C σ Hk' t v := by
  cases t with
  | val d => exact Rp.mono k.ex h
  | slot i => exact h
  | new d => exact h.elim
theorem RVs.kx (k : Kx G Hk Hk') {ts : List Tk} {vs : List V} (h : RVs C σ Hk ts vs) : RVs C σ Hk' ts vs := by
  induction h with
  | nil => exact .nil
  | cons h _ ih => exact .cons (h.kx k) ih
/-- settled -/
theorem RT.settle (r : RE C xa G env σ Hk H) (h : RT C G env σ Hk H t v) : ∃ Hk', Kx G Hk Hk' ∧ RE C xa G env σ Hk' H ∧ RV C σ Hk' t.settle v := by
  cases t with
  | val d => exact ⟨Hk, Kx.refl _ _, r, h⟩
  | slot k => exact ⟨Hk, Kx.refl _ _, r, h⟩
  | new d =>
    obtain ⟨a, rfl, h1, h2, h3⟩ := h
    exact r.settle h2 h3
/-- what a token shows -/
theorem RT.look (r : RE C xa G env σ Hk H) (h : RT C G env σ Hk H t v) {d : D} (e : look t env = some d) : Pk C Hk H d v := by
  cases t with
  | val x => cases e; exact .inl h
  | new x =>
    cases e
    obtain ⟨a, rfl, h1, h2, h3⟩ := h
    exact .inr ⟨a, G, rfl, h2⟩
  | slot k =>
    have h : σ[k]? = some (some v) := h
    unfold VM.look at e
    dsimp only at e
    split at e
    · next x hx =>
      cases e
      obtain ⟨v', h1, h2⟩ := r.sh k _ hx
      rw [h] at h1
      cases h1
      exact .inl h2
    · next x hx =>
      cases e
      obtain ⟨a, h1, h2, h3⟩ := r.ow k _ hx
      rw [h] at h1
      cases h1
      exact .inr ⟨a, G, rfl, h3⟩
    · cases e
theorem RV.rt (h : RV C σ Hk t v) : RT C G env σ Hk H t v := by
  cases t with
  | val d => exact h
  | slot i => exact h
  | new d => exact h.elim
/-- forced -/
theorem RT.force (r : RE C xa G env σ Hk H) (h : RT C G env σ Hk H t v) {d : D} {e : Env} (q : force t env = .ok d e) : ∃ Hk', Kx G Hk Hk' ∧ RE C xa G e σ Hk' H ∧ Rp C Hk' d v := by
  cases t with
  | val x => cases q; exact ⟨Hk, Kx.refl _ _, r, h⟩
  | new x =>
    cases q
    obtain ⟨a, rfl, h1, h2, h3⟩ := h
    exact r.settle h2 h3
  | slot k =>
    have h : σ[k]? = some (some v) := h
    unfold VM.force at q
    dsimp only at q
    split at q
    · next x hx =>
      cases q
      obtain ⟨v', h1, h2⟩ := r.sh k _ hx
      rw [h] at h1
      cases h1
      exact ⟨Hk, Kx.refl _ _, r, h2⟩
    · next x hx =>
      cases q
      obtain ⟨Hk', k1, r1, v', h1, h2⟩ := r.freeze hx
      rw [h] at h1
      cases h1
      exact ⟨Hk', k1, r1, h2⟩
    · cases q
theorem force_cases (t : Tk) (env : Env) : (∃ d e, force t env = .ok d e) ∨ force t env = .bad := by
  cases t with
  | val x => exact .inl ⟨_, _, rfl⟩
  | new x => exact .inl ⟨_, _, rfl⟩
  | slot k =>
    unfold force
    dsimp only
    split
    · exact .inl ⟨_, _, rfl⟩
    · exact .inl ⟨_, _, rfl⟩
    · exact .inr rfl
end

/-- what an operation gives: a value (known, or of new objects), or a new object -/
def Res (C : Ct) (Hk H : Hp) (t : Tk) (v : V) (H' : Hp) : Prop := Ex H H' ∧ match t with
  | .val d => ∃ Hk', Kx H Hk Hk' ∧ Ex Hk' H' ∧ Rp C Hk' d v
  | .new d => ∃ a, v = .ref a ∧ H a = none ∧ OwA C H Hk H' a d
  | .slot _ => False
section
variable {C : Ct} {xa : Xa} {W : WX} {G : Hp} {env : Env} {σ : L2.St} {Hk Hk' H H' : Hp} {t : Tk} {v : V}
theorem RE.res (r : RE C xa G env σ Hk H) (h : Res C Hk H t v H') : ∃ Hk', Kx G Hk Hk' ∧ RE C xa G env σ Hk' H' ∧ RT C G env σ Hk' H' t v := by
  obtain ⟨e, h⟩ := h
  cases t with
  | val d =>
    obtain ⟨Hk', k, e2, h⟩ := h
    refine ⟨Hk', ⟨k.ex, fun b o h1 h2 => r.g.back (k.new b o h1 h2)⟩, (r.ext e).know k.ex e2 fun i d a hi hs => ?_, h⟩
    obtain ⟨g1, g2⟩ := r.owAt hi hs
    cases z : Hk' a with
    | none => rfl
    | some o =>
      obtain ⟨u, hu, _⟩ := g2.at
      rw [k.new a o z g1] at hu
      cases hu
  | slot k => exact h.elim
  | new d =>
    obtain ⟨a, rfl, h1, h2⟩ := h
    refine ⟨Hk, Kx.refl _ _, r.ext e, a, rfl, r.hk.back h1, h2.gmono r.g, fun i d' hi hs => ?_⟩
    obtain ⟨g1, g2⟩ := r.owAt hi hs
    obtain ⟨u, hu, _⟩ := g2.at
    rw [h1] at hu
    cases hu
theorem res_flat {d : D} (f : Rp C Hk d v) (e : Ex Hk H) : Res C Hk H (.val d) v H := ⟨Ex.refl _, Hk, Kx.refl _ _, e, f⟩
theorem res_lst {xs : List D} {vs : List V} {p : Addr} (hp : H p = none) (h : RpL C Hk xs vs) : Res C Hk H (.new (.lst xs)) (.ref p) (upd H p (.lst vs)) :=
  ⟨Ex.new hp, p, rfl, hp, hp, vs, upd_same, h⟩
theorem res_tup {xs : List D} {vs : List V} {p : Addr} (e : Ex Hk H) (hp : H p = none) (h : RpL C Hk xs vs) : Res C Hk H (.val (.tup xs)) (.ref p) (upd H p (.tup vs)) := by
  have e1 : Ex Hk (upd Hk p (.tup vs)) := Ex.new (e.back hp)
  refine ⟨Ex.new hp, upd Hk p (.tup vs), ⟨e1, fun b o h1 h2 => ?_⟩, Ex.updB (e.trans (Ex.new hp)) upd_same, ?_⟩
  · by_cases q : b = p
    · rw [q]; exact hp
    · rw [upd_ne q, h2] at h1; cases h1
  · unfold Rp
    exact ⟨p, vs, rfl, upd_same, h.mono e1⟩
end

/-! ### names and constants -/
section
variable {X : Cx} {y : Y}
def mVar (k : Nat) : M Tk := fun env => match env[k]? with
  | some .no => .bad
  | none => .bad
  | some _ => .ok (.slot k) env
theorem px_var {i : Nat} {x : Str} {pos : Pos} (h : PE X (.Name x pos) (tVar i)) : PX X y (.Name x pos) (mVar i) := by
  refine ⟨PE_imp h fun σ H Q ⟨env, Hk, G, r, q⟩ => ?_⟩
  unfold mVar at q
  have fin : ∀ v, σ[i]? = some (some v) → PoE (y.ct X) y.xa y.W G σ Hk (.ok (.slot i) env) Q → tVar i σ H Q := fun v hv q => ⟨v, hv, q v Hk H (Kx.refl _ _) r hv⟩
  cases e : env[i]? with
  | none => rw [e] at q; exact q.elim
  | some s =>
    rw [e] at q
    cases s with
    | no => exact q.elim
    | sh d => obtain ⟨v, h1, _⟩ := r.sh i d e; exact fin v h1 q
    | ow d => obtain ⟨a, h1, _⟩ := r.ow i d e; exact fin _ h1 q
    | xv c ns ds => obtain ⟨a, cls, dd, _, h1, _⟩ := r.xv i c ns ds e; exact fin _ h1 q
def mC (d : D) : M Tk := fun env => .ok (.val d) env
theorem px_c {e : Expr} {d : D} {v : V} (h : PE X e (tC v)) (r0 : ∀ H, Rp (y.ct X) H d v) : PX X y e (mC d) :=
  ⟨PE_imp h fun σ H Q ⟨env, Hk, G, r, q⟩ => q v Hk H (Kx.refl _ _) r (r0 Hk)⟩
theorem px_int {i : Int} {j pos} : PX X y (.Constant (.int i) j pos) (mC (.int i)) := px_c pe_int fun _ => rp_int
theorem px_bl {b : Bool} {j pos} : PX X y (.Constant (.bool b) j pos) (mC (.bl b)) := px_c pe_bl fun _ => rp_bl
theorem px_non {j pos} : PX X y (.Constant .none j pos) (mC .non) := px_c pe_non fun _ => rp_non
theorem px_str {x : Str} {j pos} : PX X y (.Constant (.str x) j pos) (mC (.str x)) := px_c pe_str fun _ => rp_str

/-! ### operators of values -/
/-- an operation's reading serves f -/
def Op2 (X : Cx) (y : Y) (f : D → D → Option Tk) (r : R2) : Prop := ∀ (Hk H : Hp) (a b : D) (v w : V) (t : Tk) (Q : VK), Ex Hk H → f a b = some t → Pk (y.ct X) Hk H a v → Pk (y.ct X) Hk H b w → (∀ z H', Res (y.ct X) Hk H t z H' → Q z H') → r v w H Q
def Op1 (X : Cx) (y : Y) (f : D → Option Tk) (r : V → Hp → VK → Prop) : Prop := ∀ (Hk H : Hp) (a : D) (v : V) (t : Tk) (Q : VK), Ex Hk H → f a = some t → Pk (y.ct X) Hk H a v → (∀ z H', Res (y.ct X) Hk H t z H' → Q z H') → r v H Q
def OpN (X : Cx) (y : Y) (f : List D → Option Tk) (r : List V → Hp → VK → Prop) : Prop := ∀ (Hk H : Hp) (ds : List D) (vs : List V) (t : Tk) (Q : VK), Ex Hk H → f ds = some t → Paired (fun d v => Pk (y.ct X) Hk H d v) ds vs → (∀ z H', Res (y.ct X) Hk H t z H' → Q z H') → r vs H Q
def mLook2 (f : D → D → Option Tk) (t1 t2 : Tk) : M Tk := fun env => match look t1 env, look t2 env with
  | some a, some b => mOf (f a b) env
  | _, _ => .bad
def mBin (f : D → D → Option Tk) (m1 m2 : M Tk) : M Tk := mBind m1 fun t1 => mBind m2 fun t2 => mLook2 f t1.settle t2
def mLook1 (f : D → Option Tk) (t : Tk) : M Tk := fun env => match look t env with
  | some a => mOf (f a) env
  | none => .bad
def mUn (f : D → Option Tk) (m : M Tk) : M Tk := mBind m (mLook1 f)
/-- the first of two: its value, then what the second makes of it -/
theorem po_bind {m : M Tk} {f : Tk → M Tk} {env : Env} {G : Hp} {σ : L2.St} {Hk : Hp} {Q R : VK} (q : PoE (y.ct X) y.xa y.W G σ Hk (mBind m f env) Q)
    (k : ∀ t e v Hk' H1, Kx G Hk Hk' → RE (y.ct X) y.xa G e σ Hk' H1 → RT (y.ct X) G e σ Hk' H1 t v → PoE (y.ct X) y.xa y.W G σ Hk' (f t e) Q → R v H1) : PoE (y.ct X) y.xa y.W G σ Hk (m env) R := by
  unfold mBind at q
  cases e : m env with
  | ok t e1 => rw [e] at q; exact fun v Hk' H' k' r' h' => k t e1 v Hk' H' k' r' h' (q.kx k')
  | ex c ns ds e1 => rw [e] at q; exact q
  | bad => rw [e] at q; exact q
theorem mLook2_go {f : D → D → Option Tk} {r : R2} (o : Op2 X y f r) {t1 t2 : Tk} {e : Env} {σ : L2.St} {Hk G H : Hp} {v w : V} {Q : VK} (re : RE (y.ct X) y.xa G e σ Hk H) (h1 : RT (y.ct X) G e σ Hk H t1 v) (h2 : RT (y.ct X) G e σ Hk H t2 w)
    (q : PoE (y.ct X) y.xa y.W G σ Hk (mLook2 f t1 t2 e) Q) : r v w H Q := by
  unfold mLook2 at q
  cases e1 : look t1 e with
  | none => rw [e1] at q; exact q.elim
  | some a =>
    cases e2 : look t2 e with
    | none => rw [e1, e2] at q; exact q.elim
    | some b =>
      rw [e1, e2] at q
      dsimp only at q
      unfold mOf at q
      cases e3 : f a b with
      | none => rw [e3] at q; exact q.elim
      | some t =>
        rw [e3] at q
        refine o Hk H a b v w t Q re.hk e3 (h1.look re e1) (h2.look re e2) fun z H' hz => ?_
        obtain ⟨Hk', k1, r1, rt⟩ := re.res hz
        exact q z Hk' H' k1 r1 rt
theorem mLook1_go {f : D → Option Tk} {r : V → Hp → VK → Prop} (o : Op1 X y f r) {t : Tk} {e : Env} {σ : L2.St} {Hk G H : Hp} {v : V} {Q : VK} (re : RE (y.ct X) y.xa G e σ Hk H) (h : RT (y.ct X) G e σ Hk H t v)
    (q : PoE (y.ct X) y.xa y.W G σ Hk (mLook1 f t e) Q) : r v H Q := by
  unfold mLook1 at q
  cases e1 : look t e with
  | none => rw [e1] at q; exact q.elim
  | some a =>
    rw [e1] at q
    dsimp only at q
    unfold mOf at q
    cases e3 : f a with
    | none => rw [e3] at q; exact q.elim
    | some t =>
      rw [e3] at q
      refine o Hk H a v t Q re.hk e3 (h.look re e1) fun z H' hz => ?_
      obtain ⟨Hk', k1, r1, rt⟩ := re.res hz
      exact q z Hk' H' k1 r1 rt
variable {a b c : Expr} {m1 m2 m3 : M Tk} {pos : Pos}
theorem t_bin {f : D → D → Option Tk} {r : R2} (o : Op2 X y f r) {σ : L2.St} {H : Hp} {Q : VK} (h : tE X y (mBin f m1 m2) σ H Q) : tOp r (tE X y m1) (tE X y m2) σ H Q := by
  obtain ⟨env, Hk, G, re, q⟩ := h
  refine ⟨env, Hk, G, re, po_bind q fun t1 e1 v Hk1 H1 k1 r1 rt1 q1 => ?_⟩
  obtain ⟨Hk1', k1', r1, rv1⟩ := rt1.settle r1
  exact ⟨e1, Hk1', G, r1, po_bind (q1.kx k1') fun t2 e2 w Hk2 H2 k2 r2 rt2 q2 => mLook2_go o r2 (rv1.kx k2).rt rt2 q2⟩
theorem px_bin {f : D → D → Option Tk} {r : R2} {op : Operator} (ho : OpR X (binaryOp op) r) (o : Op2 X y f r) (ha : PX X y a m1) (hb : PX X y b m2) : PX X y (.BinOp a op b pos) (mBin f m1 m2) :=
  ⟨PE_imp (pe_op ho ha.pe hb.pe) fun _ _ _ h => t_bin o h⟩
theorem px_cmp {f : D → D → Option Tk} {r : R2} {op : CmpOp} (ho : OpR X (compareOp op) r) (o : Op2 X y f r) (ha : PX X y a m1) (hb : PX X y b m2) (hm : behindInMarks op b = false := by first | exact nomark _ | rfl) : PX X y (.Compare a [op] [b] pos) (mBin f m1 m2) :=
  ⟨PE_imp (pe_cmpR ho ha.pe hb.pe hm) fun _ _ _ h => t_bin o h⟩
theorem t_un {f : D → Option Tk} {r : V → Hp → VK → Prop} (o : Op1 X y f r) {σ : L2.St} {H : Hp} {Q : VK} (h : tE X y (mUn f m1) σ H Q) : tUn r (tE X y m1) σ H Q := by
  obtain ⟨env, Hk, G, re, q⟩ := h
  exact ⟨env, Hk, G, re, po_bind q fun t1 e1 v Hk1 H1 k1 r1 rt1 q1 => mLook1_go o r1 rt1 q1⟩
theorem px_un {f : D → Option Tk} {r : V → Hp → VK → Prop} {op : UnaryOp} (ho : UnR X (unaryOp op) r) (o : Op1 X y f r) (ha : PX X y a m1) : PX X y (.UnaryOp op a pos) (mUn f m1) :=
  ⟨PE_imp (pe_un ho ha.pe) fun _ _ _ h => t_un o h⟩
theorem opR_or {f : Value → Value → Sem Value} {r r' : R2} (h : OpR X f r) (h' : OpR X f r') : OpR X f (fun x y H Q => r x y H Q ∨ r' x y H Q) :=
  fun pins s σ H x y v u Q I rx ry q => q.elim (h pins s σ H x y v u Q I rx ry) (h' pins s σ H x y v u Q I rx ry)

/-! ### the operators -/
def dAdd : D → D → Option Tk
  | .int i, .int j => some (.val (.int (i + j)))
  | .str x, .str z => if x.length + z.length ≤ sizeLine then some (.val (.str (x ++ z))) else none
  | .lst xs, .lst ys => if xs.length + ys.length ≤ sizeLine then some (.new (.lst (xs ++ ys))) else none
  | .tup xs, .tup ys => if xs.length + ys.length ≤ sizeLine then some (.val (.tup (xs ++ ys))) else none
  | _, _ => none
def rAddG (K : PySem.W.Frag) : R2 := fun x y H Q => (rI0 fun i j => .int (i + j)) x y H Q ∨ (∃ i j, x = .str i ∧ y = .str j ∧ i.length + j.length ≤ sizeLine ∧ Q (.str (i ++ j)) H) ∨ rCat x y H Q ∨ rCatA K x y H Q
theorem op_addG : OpR X (binaryOp .Add) (rAddG X.K) := opR_or op_add (opR_or op_add_str (opR_or op_cat op_catA))
theorem rpl_len {C : Ct} {H : Hp} {xs : List D} {vs : List V} (h : RpL C H xs vs) : vs.length = xs.length := h.len.symm
end
end VM

set_option Elab.async false
set_option linter.all false
set_option maxRecDepth 100000
set_option maxHeartbeats 1000000
/-! VM 3: operators, tests, displays, items, built-ins -/
namespace VM
open PySem PySem.Spec PyProof.Rows L2
section
variable {X : Cx} {y : Y} {a b c : Expr} {m1 m2 m3 : M Tk} {pos : Pos}
theorem sqT {K : PySem.W.Frag} {H : Hp} {a : Addr} {vs : List V} (h : H a = some (.tup vs)) : SqT K H a vs := .inl (.inl h)
theorem sqL {K : PySem.W.Frag} {H : Hp} {a : Addr} {vs : List V} (h : H a = some (.lst vs)) : SqL K H a vs := .inl (.inl h)
theorem add_ok : Op2 X y dAdd (rAddG X.K) := by
  intro Hk H a b v w t Q e h pa pb q
  cases a <;> cases b <;> simp only [dAdd] at h <;> first
    | (cases h; done)
    | (cases h; cases pa.int; cases pb.int; exact .inl ⟨_, _, rfl, rfl, q _ _ (res_flat rp_int e)⟩)
    | (split at h
       · cases h
         cases pa.str; cases pb.str
         exact .inr (.inl ⟨_, _, rfl, rfl, by assumption, q _ _ (res_flat rp_str e)⟩)
       · cases h)
    | (rename_i xs ys
       split at h
       · rename_i hl
         cases h
         first
          | (obtain ⟨p, vs, rfl, h1, h2⟩ := pa.lst e
             obtain ⟨p', vs', rfl, h1', h2'⟩ := pb.lst e
             exact .inr (.inr (.inl ⟨p, p', vs, vs', rfl, rfl, h1, h1', by rw [← h2.len, ← h2'.len]; exact hl, fun l hl => q _ _ (res_lst hl (h2.append h2'))⟩)))
          | (obtain ⟨p, vs, rfl, h1, h2, h3⟩ := pa.tup e
             obtain ⟨p', vs', rfl, h1', h2', h3'⟩ := pb.tup e
             refine .inr (.inr (.inr ⟨p, p', vs, vs', rfl, rfl, sqT h1, sqT h1', by rw [← h2.len, ← h2'.len]; exact hl, fun z => ?_, fun _ z => ?_, fun _ _ l hl => q _ _ (res_tup e hl (h2.append h2'))⟩))
             · have : xs = [] := List.eq_nil_of_length_eq_zero (by rw [h2.len, z]; rfl)
               subst this
               exact q _ _ (res_flat h3' e)
             · have : ys = [] := List.eq_nil_of_length_eq_zero (by rw [h2'.len, z]; rfl)
               subst this
               rw [List.append_nil] at q
               exact q _ _ (res_flat h3 e))
       · cases h)
theorem px_add (ha : PX X y a m1) (hb : PX X y b m2) : PX X y (.BinOp a .Add b pos) (mBin dAdd m1 m2) := px_bin op_addG add_ok ha hb

/-- whole numbers only -/
def dI (c : Int → Int → Bool) (g : Int → Int → D) : D → D → Option Tk
  | .int i, .int j => if c i j = true then some (.val (g i j)) else none
  | _, _ => none
def toV : D → V
  | .int i => .int i
  | .bl b => .bl b
  | .str s => .str s
  | _ => .non
theorem dI_ok {c : Int → Int → Bool} {g : Int → Int → D} {g' : Int → Int → V} {c' : Int → Int → Prop} (hg : ∀ i j H, Rp (y.ct X) H (g i j) (g' i j)) (hc : ∀ i j, c i j = true → c' i j) : Op2 X y (dI c g) (rI c' g') := by
  intro Hk H a b v w t Q e h pa pb q
  cases a <;> cases b <;> simp only [dI] at h <;> first
    | (cases h; done)
    | (split at h
       · cases h; cases pa.int; cases pb.int; exact ⟨_, _, rfl, rfl, hc _ _ (by assumption), q _ _ (res_flat (hg _ _ _) e)⟩
       · cases h)
theorem dI0_ok {g : Int → Int → D} {g' : Int → Int → V} (hg : ∀ i j H, Rp (y.ct X) H (g i j) (g' i j)) : Op2 X y (dI (fun _ _ => true) g) (rI0 g') := by
  intro Hk H a b v w t Q e h pa pb q
  obtain ⟨i, j, h1, h2, _, h3⟩ := dI_ok (c' := fun _ _ => True) hg (fun _ _ _ => trivial) Hk H a b v w t Q e h pa pb q
  exact ⟨i, j, h1, h2, h3⟩
def dSub : D → D → Option Tk := dI (fun _ _ => true) fun i j => .int (i - j)
theorem px_sub (ha : PX X y a m1) (hb : PX X y b m2) : PX X y (.BinOp a .Sub b pos) (mBin dSub m1 m2) := px_bin op_sub (dI0_ok fun _ _ _ => rp_int) ha hb
/-- products of whole numbers, lists and tuples repeated -/
def mulOk (i j : Int) : Bool := decide (i.natAbs.log2 + j.natAbs.log2 < 1000000)
theorem mulOk_w {i j : Int} (h : mulOk i j = true) : CMulW i j := by
  unfold mulOk at h
  have h' := of_decide_eq_true h
  exact h'
def dMul : D → D → Option Tk
  | .int i, .int j => if mulOk i j = true then some (.val (.int (i * j))) else none
  | .lst xs, .int k => if -(2 ^ 63) ≤ k ∧ k < 2 ^ 63 ∧ xs.length * k.toNat ≤ sizeLine then some (.new (.lst (List.replicate k.toNat xs).flatten)) else none
  | .tup xs, .int k => if xs ≠ [] ∧ 2 ≤ k ∧ k ≤ 1000 ∧ xs.length ≤ 1000 then some (.val (.tup (List.replicate k.toNat xs).flatten)) else none
  | _, _ => none
def rMulG (K : PySem.W.Frag) : R2 := fun x y H Q => (rI CMulW fun i j => .int (i * j)) x y H Q ∨ rRep x y H Q ∨ rRepT K x y H Q
theorem op_mulG : OpR X (binaryOp .Mult) (rMulG X.K) := opR_or op_mulW (opR_or op_rep op_repT)
theorem RpL.rep {C : Ct} {H : Hp} {xs : List D} {vs : List V} (h : RpL C H xs vs) : ∀ n : Nat, RpL C H (List.replicate n xs).flatten (List.replicate n vs).flatten
  | 0 => RpL.nil
  | n + 1 => by
    rw [List.replicate_succ, List.replicate_succ, List.flatten_cons, List.flatten_cons]
    exact h.append (RpL.rep h n)
theorem mul_ok : Op2 X y dMul (rMulG X.K) := by
  intro Hk H a b v w t Q e h pa pb q
  cases a <;> cases b <;> simp only [dMul] at h <;> first
    | (cases h; done)
    | (split at h
       · rename_i hc
         cases h
         first
          | (cases pa.int; cases pb.int; have hm := mulOk_w hc; exact .inl ⟨_, _, rfl, rfl, hm, q _ _ (res_flat rp_int e)⟩)
          | (cases pb.int
             obtain ⟨p, vs, rfl, h1, h2⟩ := pa.lst e
             exact .inr (.inl ⟨p, _, vs, rfl, rfl, h1, hc.1, hc.2.1, by rw [← h2.len]; exact hc.2.2, fun l hl => q _ _ (res_lst hl (h2.rep _))⟩))
          | (cases pb.int
             obtain ⟨p, vs, rfl, h1, h2, h3⟩ := pa.tup e
             refine .inr (.inr ⟨p, _, vs, rfl, rfl, sqT h1, fun z => hc.1 (List.eq_nil_of_length_eq_zero (by rw [h2.len, z]; rfl)), hc.2.1, hc.2.2.1, by rw [← h2.len]; exact hc.2.2.2, fun l hl => q _ _ (res_tup e hl (h2.rep _))⟩))
       · cases h)
theorem px_mul (ha : PX X y a m1) (hb : PX X y b m2) : PX X y (.BinOp a .Mult b pos) (mBin dMul m1 m2) := px_bin op_mulG mul_ok ha hb
def divOk (j : Int) : Bool := decide (0 < j) && decide (j.natAbs.log2 < 9000)
def dDiv : D → D → Option Tk := dI (fun _ j => divOk j) fun i j => .int (i / j)
theorem px_div (ha : PX X y a m1) (hb : PX X y b m2) : PX X y (.BinOp a .FloorDiv b pos) (mBin dDiv m1 m2) := px_bin op_fdivW (dI_ok (fun _ _ _ => rp_int) fun i j h => by
  unfold divOk at h
  rw [Bool.and_eq_true] at h
  exact ⟨of_decide_eq_true h.1, of_decide_eq_true h.2⟩) ha hb
def dMod : D → D → Option Tk := dI (fun _ j => decide (0 < j)) fun i j => .int (i % j)
theorem px_mod (ha : PX X y a m1) (hb : PX X y b m2) : PX X y (.BinOp a .Mod b pos) (mBin dMod m1 m2) := px_bin op_mod (dI_ok (fun _ _ _ => rp_int) fun i j h => of_decide_eq_true h) ha hb
def dPow : D → D → Option Tk := dI (fun i j => decide (0 ≤ j ∧ j ≤ 1000000 ∧ i.natAbs < 2 ^ 64)) fun i j => .int (i ^ j.toNat)
theorem px_pow (ha : PX X y a m1) (hb : PX X y b m2) : PX X y (.BinOp a .Pow b pos) (mBin dPow m1 m2) := px_bin op_pow (dI_ok (fun _ _ _ => rp_int) fun i j h => by
  have h' : 0 ≤ j ∧ j ≤ 1000000 ∧ i.natAbs < 2 ^ 64 := of_decide_eq_true h
  exact h') ha hb
def dNeg : D → Option Tk
  | .int i => some (.val (.int (-i)))
  | _ => none
theorem px_neg (ha : PX X y a m1) : PX X y (.UnaryOp .USub a pos) (mUn dNeg m1) := px_un un_neg (by
  intro Hk H d v t Q e h pa q
  cases d <;> simp only [dNeg] at h <;> first
    | (cases h; done)
    | (cases h; cases pa.int; exact ⟨_, rfl, q _ _ (res_flat rp_int e)⟩)) ha

/-! ### comparisons -/
def lift (f : D → D → Option Bool) : D → D → Option Tk := fun a b => match f a b with
  | some k => some (.val (.bl k))
  | none => none
def cI (p : Int → Int → Bool) : D → D → Option Bool
  | .int i, .int j => some (p i j)
  | _, _ => none
abbrev cLt := cI fun i j => decide (i < j)
abbrev cLe := cI fun i j => decide (i ≤ j)
abbrev cGt := cI fun i j => decide (j < i)
abbrev cGe := cI fun i j => decide (j ≤ i)
theorem cI_ok {p : Int → Int → Bool} : Op2 X y (lift (cI p)) (rI0 fun i j => .bl (p i j)) := by
  intro Hk H a b v w t Q e h pa pb q
  cases a <;> cases b <;> simp only [lift, cI] at h <;> first
    | (cases h; done)
    | (cases h; cases pa.int; cases pb.int; exact ⟨_, _, rfl, rfl, q _ _ (res_flat rp_bl e)⟩)
mutual
def D.py : D → PyData
  | .non => .none
  | .bl b => .bool b
  | .int i => .int i
  | .str s => .str s
  | .scr ns => .list (ns.map PyData.int)
  | .lst xs => .list (pyL xs)
  | .tup xs => .tuple (pyL xs)
  | .ins _ _ _ => .none
  | .dic _ _ => .none
  | .tupf _ => .none
  | .ty _ => .none
  | .cl _ => .none
def pyL : List D → List PyData
  | [] => []
  | d :: ds => d.py :: pyL ds
end
/-- plain data: no instance, no script; texts that are texts; depth n at most -/
def D.pl : Nat → D → Bool
  | _, .non | _, .bl _ | _, .int _ => true
  | _, .str s => PyData.strOk s
  | n + 1, .lst xs => xs.all (D.pl n)
  | n + 1, .tup xs => xs.all (D.pl n)
  | _, _ => false
theorem depth_le : ∀ (n : Nat) (d : D), d.pl n = true → d.py.canLay0 = true ∧ d.py.depth ≤ n
  | n, .non, _ => by simp [D.py, PyData.canLay0, PyData.depth]
  | n, .bl _, _ => by simp [D.py, PyData.canLay0, PyData.depth]
  | n, .int _, _ => by simp [D.py, PyData.canLay0, PyData.depth]
  | n, .str s, h => by
    have h' : PyData.strOk s = true := by simpa [D.pl] using h
    simp [D.py, PyData.canLay0, PyData.depth, h']
  | 0, .lst xs, h => by simp [D.pl] at h
  | 0, .tup xs, h => by simp [D.pl] at h
  | n + 1, .lst xs, h => by
    have h' : xs.all (D.pl n) = true := by simpa [D.pl] using h
    obtain ⟨h1, h2⟩ := all_le n xs h'
    simp only [D.py, PyData.canLay0, PyData.depth]
    exact ⟨h1, by omega⟩
  | n + 1, .tup xs, h => by
    have h' : xs.all (D.pl n) = true := by simpa [D.pl] using h
    obtain ⟨h1, h2⟩ := all_le n xs h'
    simp only [D.py, PyData.canLay0, PyData.depth]
    exact ⟨h1, by omega⟩
  | n, .scr _, h => by cases n <;> simp [D.pl] at h
  | n, .ins _ _ _, h => by cases n <;> simp [D.pl] at h
  | n, .dic _ _, h => by cases n <;> simp [D.pl] at h
  | n, .tupf _, h => by cases n <;> simp [D.pl] at h
  | n, .ty _, h => by cases n <;> simp [D.pl] at h
  | n, .cl _, h => by cases n <;> simp [D.pl] at h
where
  all_le (n : Nat) : ∀ (xs : List D), xs.all (D.pl n) = true → PyData.canLayAll0 (pyL xs) = true ∧ PyData.depthAll (pyL xs) ≤ n
  | [], _ => by simp [pyL, PyData.canLayAll0, PyData.depthAll]
  | d :: ds, h => by
    rw [List.all_cons, Bool.and_eq_true] at h
    obtain ⟨h1, h2⟩ := depth_le n d h.1
    obtain ⟨h3, h4⟩ := all_le n ds h.2
    simp only [pyL, PyData.canLayAll0, PyData.depthAll, h1, h3]
    exact ⟨rfl, by omega⟩
theorem pl_shaped {d : D} (h : d.pl 64 = true) : SeqAt.shaped d.py = true := by
  obtain ⟨h1, h2⟩ := depth_le 64 d h
  unfold SeqAt.shaped
  rw [h1]
  exact decide_eq_true h2
theorem dp_of {C : Ct} {H : Hp} : ∀ (n : Nat) (d : D) (v : V), d.pl n = true → Rp C H d v → Dp C.K H v d.py
  | n, .non, v, _, h => by unfold Rp at h; subst h; exact .non
  | n, .bl _, v, _, h => by unfold Rp at h; subst h; exact .bl _
  | n, .int _, v, _, h => by unfold Rp at h; subst h; exact .int _
  | n, .str s, v, _, h => by unfold Rp at h; subst h; exact .str _
  | 0, .lst xs, _, h, _ => by simp [D.pl] at h
  | 0, .tup xs, _, h, _ => by simp [D.pl] at h
  | n + 1, .lst xs, v, h, r => by
    have h' : xs.all (D.pl n) = true := by simpa [D.pl] using h
    unfold Rp at r
    obtain ⟨a, vs, rfl, h1, h2⟩ := r
    exact .lst (sqL h1) (dps n xs vs h' h2)
  | n + 1, .tup xs, v, h, r => by
    have h' : xs.all (D.pl n) = true := by simpa [D.pl] using h
    unfold Rp at r
    obtain ⟨a, vs, rfl, h1, h2⟩ := r
    exact .tup (sqT h1) (dps n xs vs h' h2)
  | n, .scr _, _, h, _ => by cases n <;> simp [D.pl] at h
  | n, .ins _ _ _, _, h, _ => by cases n <;> simp [D.pl] at h
  | n, .dic _ _, _, h, _ => by cases n <;> simp [D.pl] at h
  | n, .tupf _, _, h, _ => by cases n <;> simp [D.pl] at h
  | n, .ty _, _, h, _ => by cases n <;> simp [D.pl] at h
  | n, .cl _, _, h, _ => by cases n <;> simp [D.pl] at h
where
  dps (n : Nat) : ∀ (xs : List D) (vs : List V), xs.all (D.pl n) = true → RpL C H xs vs → DpAll C.K H vs (pyL xs)
  | [], _, _, h => by unfold RpL at h; subst h; exact .nil
  | d :: ds, vs, h, r => by
    rw [List.all_cons, Bool.and_eq_true] at h
    obtain ⟨v, r', rfl, h1, h2⟩ := r.inv
    exact .cons (dp_of n d v h.1 h1) (dps n ds r' h.2 h2)
def D.eq (a b : D) : Bool := PyData.eqv a.py b.py
def cEq (a b : D) : Option Bool := if a.pl 64 = true ∧ b.pl 64 = true then some (D.eq a b) else none
def cNe (a b : D) : Option Bool := if a.pl 64 = true ∧ b.pl 64 = true then some (!D.eq a b) else none
theorem eq_ok : Op2 X y (lift cEq) (rEqD X.K) := by
  intro Hk H a b v w t Q e h pa pb q
  unfold lift cEq at h
  split at h
  rename_i hq
  split at hq
  · rename_i hc
    cases h
    cases hq
    exact ⟨_, _, dp_of 64 a v hc.1 (pa.all e), dp_of 64 b w hc.2 (pb.all e), pl_shaped hc.1, pl_shaped hc.2, q _ _ (res_flat rp_bl e)⟩
  · cases hq
  · cases h
theorem ne_ok : Op2 X y (lift cNe) (rNeD X.K) := by
  intro Hk H a b v w t Q e h pa pb q
  unfold lift cNe at h
  split at h
  rename_i hq
  split at hq
  · rename_i hc
    cases h
    cases hq
    exact ⟨_, _, dp_of 64 a v hc.1 (pa.all e), dp_of 64 b w hc.2 (pb.all e), pl_shaped hc.1, pl_shaped hc.2, q _ _ (res_flat rp_bl e)⟩
  · cases hq
  · cases h
def D.isN : D → Bool
  | .non => true
  | _ => false
theorem isN_v {C : Ct} {Hk H : Hp} {d : D} {v : V} (e : Ex Hk H) (h : Pk C Hk H d v) : decide (v = .non) = d.isN := by
  cases d with
  | non => cases h.non; rfl
  | bl b => cases h.bl; rfl
  | int i => cases h.int; rfl
  | str s => cases h.str; rfl
  | scr ns => obtain ⟨a, rfl, _⟩ := h.scr e; rfl
  | lst xs => obtain ⟨a, vs, rfl, _⟩ := h.lst e; rfl
  | tup xs => obtain ⟨a, vs, rfl, _⟩ := h.tup e; rfl
  | ins c ns xs => obtain ⟨a, dx, vs, rfl, _⟩ := h.ins e; rfl
  | dic ks xs => obtain ⟨a, vs, rfl, _⟩ := h.dic e; rfl
  | tupf xs => obtain ⟨a, o, vs, rfl, _⟩ := h.tupf e; rfl
  | ty n => cases h.ty; rfl
  | cl c => cases h.cl; rfl
def cIs (a b : D) : Option Bool := if b.isN = true then some a.isN else none
def cIsNot (a b : D) : Option Bool := if b.isN = true then some (!a.isN) else none
theorem is_ok : Op2 X y (lift cIs) (fun x y H Q => y = .non ∧ Q (.bl (decide (x = .non))) H) := by
  intro Hk H a b v w t Q e h pa pb q
  unfold lift cIs at h
  split at h
  rename_i hq
  split at hq
  · rename_i hc
    cases h
    cases hq
    refine ⟨?_, ?_⟩
    · have := isN_v e pb
      rw [hc] at this
      exact of_decide_eq_true this
    · rw [isN_v e pa]
      exact q _ _ (res_flat rp_bl e)
  · cases hq
  · cases h
theorem isnot_ok : Op2 X y (lift cIsNot) (fun x y H Q => y = .non ∧ Q (.bl (!decide (x = .non))) H) := by
  intro Hk H a b v w t Q e h pa pb q
  unfold lift cIsNot at h
  split at h
  rename_i hq
  split at hq
  · rename_i hc
    cases h
    cases hq
    refine ⟨?_, ?_⟩
    · have := isN_v e pb
      rw [hc] at this
      exact of_decide_eq_true this
    · rw [isN_v e pa]
      exact q _ _ (res_flat rp_bl e)
  · cases hq
  · cases h
end

/-! ### tests -/
section
variable {X : Cx} {y : Y} {a b c : Expr} {m1 m2 m3 : M Tk} {pos : Pos}
def D.tru : D → Option Bool
  | .non => some false
  | .bl b => some b
  | .int i => some (i != 0)
  | .str s => if s.length ≤ sizeLine then some ((s.length : Int) != 0) else none
  | .lst xs => some !xs.isEmpty
  | .tup xs => some !xs.isEmpty
  | _ => none
theorem tru_v {C : Ct} {Hk H : Hp} {d : D} {v : V} {k : Bool} (e : Ex Hk H) (h : Pk C Hk H d v) (q : d.tru = some k) : TruV C.K v H k := by
  cases d with
  | non => cases h.non; cases q; rfl
  | bl b => cases h.bl; cases q; rfl
  | int i => cases h.int; cases q; rfl
  | str s =>
    cases h.str
    dsimp only [D.tru] at q
    split at q
    · cases q; exact ⟨by assumption, rfl⟩
    · cases q
  | scr ns => cases q
  | lst xs =>
    obtain ⟨a, vs, rfl, h1, h2⟩ := h.lst e
    cases q
    exact .inl ⟨vs, sqL h1, by cases xs <;> cases vs <;> first | rfl | (have := h2.len; simp at this)⟩
  | tup xs =>
    obtain ⟨a, vs, rfl, h1, h2, _⟩ := h.tup e
    cases q
    exact .inr (.inl ⟨vs, sqT h1, by cases xs <;> cases vs <;> first | rfl | (have := h2.len; simp at this)⟩)
  | ins c ns xs => cases q
  | dic ks xs => cases q
  | tupf xs => cases q
  | ty n => cases q
  | cl c => cases q
def mTru (t : Tk) : M Bool := fun env => match look t env with
  | some d => mOf d.tru env
  | none => .bad
def mTest (m : M Tk) : M Bool := mBind m mTru
theorem tb_bind {m : M Tk} {f : Tk → M Bool} {env : Env} {G : Hp} {σ : L2.St} {Hk : Hp} {Q : Bool → Hp → Prop} {R : VK} (q : PoB (y.ct X) y.xa y.W G σ Hk (mBind m f env) Q)
    (k : ∀ t e v Hk' H1, Kx G Hk Hk' → RE (y.ct X) y.xa G e σ Hk' H1 → RT (y.ct X) G e σ Hk' H1 t v → PoB (y.ct X) y.xa y.W G σ Hk' (f t e) Q → R v H1) : PoE (y.ct X) y.xa y.W G σ Hk (m env) R := by
  unfold mBind at q
  cases e : m env with
  | ok t e1 => rw [e] at q; exact fun v Hk' H' k' r' h' => k t e1 v Hk' H' k' r' h' (q.kx k')
  | ex c ns ds e1 => rw [e] at q; exact q
  | bad => rw [e] at q; exact q
theorem mTru_go {t : Tk} {e : Env} {σ : L2.St} {Hk G H : Hp} {v : V} {Q : Bool → Hp → Prop} (re : RE (y.ct X) y.xa G e σ Hk H) (h : RT (y.ct X) G e σ Hk H t v) (q : PoB (y.ct X) y.xa y.W G σ Hk (mTru t e) Q) :
    ∃ k, TruV X.K v H k ∧ Q k H := by
  unfold mTru at q
  cases e1 : look t e with
  | none => rw [e1] at q; exact q.elim
  | some d =>
    rw [e1] at q
    dsimp only at q
    unfold mOf at q
    cases e2 : d.tru with
    | none => rw [e2] at q; exact q.elim
    | some k =>
      rw [e2] at q
      exact ⟨k, tru_v (C := y.ct X) re.hk (h.look re e1) e2, q Hk H (Kx.refl _ _) re⟩
/-- an expression as a test -/
theorem pb_x (ha : PX X y a m1) (he : ∀ whole, isTrue a X.env whole = (do let v ← whole; standAt a.pos; holding [v] (truthy v)) := by intro _; rfl) : PB X y a (mTest m1) :=
  ⟨PT_imp (pt_truth ha.pe he) fun σ H Q ⟨env, Hk, G, re, q⟩ => ⟨env, Hk, G, re, tb_bind q fun t e v Hk' H1 k r rt q => mTru_go r rt q⟩⟩
/-- a comparison as a test -/
def mCmp (f : D → D → Option Bool) (m1 m2 : M Tk) : M Bool := mBind m1 fun t1 => mBind m2 fun t2 env => match look t1.settle env, look t2 env with
  | some a, some b => mOf (f a b) env
  | _, _ => .bad
theorem pb_cmp {f : D → D → Option Bool} {r : R2} {op : CmpOp} (ho : OpR X (compareOp op) r) (o : Op2 X y (lift f) r) (ha : PX X y a m1) (hb : PX X y b m2) (hm : behindInMarks op b = false := by first | exact nomark _ | rfl) :
    PB X y (.Compare a [op] [b] pos) (mCmp f m1 m2) := by
  refine ⟨PT_imp (pt_cmpR ho ha.pe hb.pe hm) fun σ H Q ⟨env, Hk, G, re, q⟩ => ?_⟩
  refine ⟨env, Hk, G, re, tb_bind q fun t1 e1 v Hk1 H1 k1 r1 rt1 q1 => ?_⟩
  obtain ⟨Hk1', k1', r1, rv1⟩ := rt1.settle r1
  refine ⟨e1, Hk1', G, r1, tb_bind (q1.kx k1') fun t2 e2 w Hk2 H2 k2 r2 rt2 q2 => ?_⟩
  have rt1 := (rv1.kx k2).rt (G := G) (env := e2) (H := H2)
  cases z1 : look t1.settle e2 with
  | none => rw [z1] at q2; exact q2.elim
  | some d1 =>
    cases z2 : look t2 e2 with
    | none => rw [z1, z2] at q2; exact q2.elim
    | some d2 =>
      rw [z1, z2] at q2
      dsimp only at q2
      unfold mOf at q2
      cases z3 : f d1 d2 with
      | none => rw [z3] at q2; exact q2.elim
      | some k =>
        rw [z3] at q2
        refine o Hk2 H2 d1 d2 v w (.val (.bl k)) _ r2.hk (by unfold lift; rw [z3]) (rt1.look r2 z1) (rt2.look r2 z2) fun z H' hz => ?_
        obtain ⟨Hk', k', r', rz⟩ := r2.res hz
        have rz : Rp (y.ct X) Hk' (.bl k) z := rz
        unfold Rp at rz
        exact ⟨k, rz, q2 Hk' H' k' r'⟩
def mAnd (m1 m2 : M Bool) : M Bool := mBind m1 fun b => if b = true then m2 else fun env => .ok false env
def mOr (m1 m2 : M Bool) : M Bool := mBind m1 fun b => if b = true then fun env => .ok true env else m2
def mNot (m1 : M Bool) : M Bool := mBind m1 fun b env => .ok (!b) env
theorem bb_bind {m : M Bool} {f : Bool → M Bool} {env : Env} {G : Hp} {σ : L2.St} {Hk : Hp} {Q R : Bool → Hp → Prop} (q : PoB (y.ct X) y.xa y.W G σ Hk (mBind m f env) Q)
    (k : ∀ b e Hk' H1, Kx G Hk Hk' → RE (y.ct X) y.xa G e σ Hk' H1 → PoB (y.ct X) y.xa y.W G σ Hk' (f b e) Q → R b H1) : PoB (y.ct X) y.xa y.W G σ Hk (m env) R := by
  unfold mBind at q
  cases e : m env with
  | ok t e1 => rw [e] at q; exact fun Hk' H' k' r' => k t e1 Hk' H' k' r' (q.kx k')
  | ex c ns ds e1 => rw [e] at q; exact q
  | bad => rw [e] at q; exact q
theorem be_bind {m : M Bool} {f : Bool → M Tk} {env : Env} {G : Hp} {σ : L2.St} {Hk : Hp} {Q : VK} {R : Bool → Hp → Prop} (q : PoE (y.ct X) y.xa y.W G σ Hk (mBind m f env) Q)
    (k : ∀ b e Hk' H1, Kx G Hk Hk' → RE (y.ct X) y.xa G e σ Hk' H1 → PoE (y.ct X) y.xa y.W G σ Hk' (f b e) Q → R b H1) : PoB (y.ct X) y.xa y.W G σ Hk (m env) R := by
  unfold mBind at q
  cases e : m env with
  | ok t e1 => rw [e] at q; exact fun Hk' H' k' r' => k t e1 Hk' H' k' r' (q.kx k')
  | ex c ns ds e1 => rw [e] at q; exact q
  | bad => rw [e] at q; exact q
/-- and, or: any test's 'whole' -/
structure PBW (X : Cx) (y : Y) (e : Expr) (m : M Bool) : Prop where
  pw : PW X e (tB X y m)
theorem PW_imp {e : Expr} {t t' : TT} (h : PW X e t) (f : ∀ σ H Q, t' σ H Q → t σ H Q) : PW X e t' := ⟨fun w pins s σ H Q I q => h.run w pins s σ H Q I (f σ H Q q)⟩
theorem PBW.pb {e : Expr} {m : M Bool} (h : PBW X y e m) : PB X y e m := ⟨h.pw.pt⟩
variable {n1 n2 : M Bool} {rest : List Expr}
theorem pb_and1 (ha : PB X y a n1) : PBW X y (.BoolOp .And [a] pos) n1 := ⟨pw_and1 ha.pt⟩
theorem pb_or1 (ha : PB X y a n1) : PBW X y (.BoolOp .Or [a] pos) n1 := ⟨pw_or1 ha.pt⟩
theorem pb_and (ha : PB X y a n1) (hb : PBW X y (.BoolOp .And (b :: rest) pos) n2) : PBW X y (.BoolOp .And (a :: b :: rest) pos) (mAnd n1 n2) :=
  ⟨PW_imp (pw_and ha.pt hb.pw) fun σ H Q ⟨env, Hk, G, re, q⟩ => ⟨env, Hk, G, re, bb_bind q fun k e Hk' H1 k1 r1 q1 => by
    cases k with
    | true => rw [if_pos rfl]; exact ⟨e, Hk', G, r1, q1⟩
    | false => rw [if_neg Bool.false_ne_true]; exact q1 Hk' H1 (Kx.refl _ _) r1⟩⟩
theorem pb_or (ha : PB X y a n1) (hb : PBW X y (.BoolOp .Or (b :: rest) pos) n2) : PBW X y (.BoolOp .Or (a :: b :: rest) pos) (mOr n1 n2) :=
  ⟨PW_imp (pw_or ha.pt hb.pw) fun σ H Q ⟨env, Hk, G, re, q⟩ => ⟨env, Hk, G, re, bb_bind q fun k e Hk' H1 k1 r1 q1 => by
    cases k with
    | true => rw [if_pos rfl]; exact q1 Hk' H1 (Kx.refl _ _) r1
    | false => rw [if_neg Bool.false_ne_true]; exact ⟨e, Hk', G, r1, q1⟩⟩⟩
theorem pb_not (ha : PB X y a n1) : PB X y (.UnaryOp .Not a pos) (mNot n1) :=
  ⟨PT_imp (pt_not ha.pt) fun σ H Q ⟨env, Hk, G, re, q⟩ => ⟨env, Hk, G, re, bb_bind q fun k e Hk' H1 k1 r1 q1 => q1 Hk' H1 (Kx.refl _ _) r1⟩⟩
/-- a if c else b -/
def mIf (n : M Bool) (m1 m2 : M Tk) : M Tk := mBind n fun b => if b = true then m1 else m2
theorem px_if (hc : PB X y c n1) (ha : PX X y a m1) (hb : PX X y b m2) : PX X y (.IfExp c a b pos) (mIf n1 m1 m2) :=
  ⟨PE_imp (pe_ifExp hc.pt ha.pe hb.pe) fun σ H Q ⟨env, Hk, G, re, q⟩ => ⟨env, Hk, G, re, be_bind q fun k e Hk' H1 k1 r1 q1 => by
    cases k with
    | true => rw [if_pos rfl]; exact ⟨e, Hk', G, r1, q1⟩
    | false => rw [if_neg Bool.false_ne_true]; exact ⟨e, Hk', G, r1, q1⟩⟩⟩
/-- and, or, not as values: all but the last a truth -/
def mBl (t : Tk) : M Bool := fun env => match look t env with
  | some (.bl b) => .ok b env
  | _ => .bad
theorem mBl_go {t : Tk} {e : Env} {σ : L2.St} {Hk G H : Hp} {v : V} {f : Bool → M Tk} {Q : VK} (re : RE (y.ct X) y.xa G e σ Hk H) (h : RT (y.ct X) G e σ Hk H t v) (q : PoE (y.ct X) y.xa y.W G σ Hk (mBind (mBl t) f e) Q) :
    ∃ k, v = .bl k ∧ PoE (y.ct X) y.xa y.W G σ Hk (f k e) Q := by
  unfold mBind mBl at q
  cases e1 : look t e with
  | none => rw [e1] at q; exact q.elim
  | some d =>
    rw [e1] at q
    cases d with
    | bl b => exact ⟨b, (h.look re e1).bl, q⟩
    | _ => exact q.elim
def mAndV (m1 m2 : M Tk) : M Tk := mBind m1 fun t => mBind (mBl t) fun b => if b = true then m2 else mC (.bl false)
def mOrV (m1 m2 : M Tk) : M Tk := mBind m1 fun t => mBind (mBl t) fun b => if b = true then mC (.bl true) else m2
def mNotV (m1 : M Tk) : M Tk := mBind m1 fun t => mBind (mTru t) fun b => mC (.bl (!b))
theorem px_one {op} (ha : PX X y a m1) : PX X y (.BoolOp op [a] pos) m1 := ⟨pe_one ha.pe⟩
theorem px_and (ha : PX X y a m1) (hb : PX X y (.BoolOp .And (b :: rest) pos) m2) : PX X y (.BoolOp .And (a :: b :: rest) pos) (mAndV m1 m2) :=
  ⟨PE_imp (pe_and ha.pe hb.pe) fun σ H Q ⟨env, Hk, G, re, q⟩ => ⟨env, Hk, G, re, po_bind q fun t e v Hk' H1 k1 r1 rt1 q1 => by
    obtain ⟨k, ev, q2⟩ := mBl_go r1 rt1 q1
    refine ⟨k, ev, ?_⟩
    cases k with
    | true => rw [if_pos rfl]; exact ⟨e, Hk', G, r1, q2⟩
    | false => rw [if_neg Bool.false_ne_true]; exact q2 _ Hk' H1 (Kx.refl _ _) r1 (rp_bl (C := y.ct X) (H := Hk'))⟩⟩
theorem px_or (ha : PX X y a m1) (hb : PX X y (.BoolOp .Or (b :: rest) pos) m2) : PX X y (.BoolOp .Or (a :: b :: rest) pos) (mOrV m1 m2) :=
  ⟨PE_imp (pe_or ha.pe hb.pe) fun σ H Q ⟨env, Hk, G, re, q⟩ => ⟨env, Hk, G, re, po_bind q fun t e v Hk' H1 k1 r1 rt1 q1 => by
    obtain ⟨k, ev, q2⟩ := mBl_go r1 rt1 q1
    refine ⟨k, ev, ?_⟩
    cases k with
    | true => rw [if_pos rfl]; exact q2 _ Hk' H1 (Kx.refl _ _) r1 (rp_bl (C := y.ct X) (H := Hk'))
    | false => rw [if_neg Bool.false_ne_true]; exact ⟨e, Hk', G, r1, q2⟩⟩⟩
theorem px_not (ha : PX X y a m1) : PX X y (.UnaryOp .Not a pos) (mNotV m1) :=
  ⟨PE_imp (pe_notT ha.pe) fun σ H Q ⟨env, Hk, G, re, q⟩ => ⟨env, Hk, G, re, po_bind q fun t e v Hk' H1 k1 r1 rt1 q1 => by
    unfold mBind mTru at q1
    cases e1 : look t e with
    | none => rw [e1] at q1; exact q1.elim
    | some d =>
      rw [e1] at q1
      dsimp only at q1
      unfold mOf at q1
      cases e2 : d.tru with
      | none => rw [e2] at q1; exact q1.elim
      | some k =>
        rw [e2] at q1
        exact ⟨k, tru_v (C := y.ct X) r1.hk (rt1.look r1 e1) e2, q1 _ Hk' H1 (Kx.refl _ _) r1 (rp_bl (C := y.ct X) (H := Hk'))⟩⟩⟩
end
end VM

set_option Elab.async false
set_option linter.all false
set_option maxRecDepth 100000
set_option maxHeartbeats 1000000
/-! VM 4: arguments, displays, items, slices, built-ins -/
namespace VM
open PySem PySem.Spec PyProof.Rows L2
section
variable {X : Cx} {y : Y} {a b c e : Expr} {es : List Expr} {m m1 m2 m3 : M Tk} {ma : M (List Tk)} {pos p : Pos}
/-! ### argument lists -/
def mNil : M (List Tk) := fun env => .ok [] env
def mCons (m : M Tk) (ma : M (List Tk)) : M (List Tk) := mBind m fun t => mBind ma fun ts env => .ok (t.settle :: ts) env
theorem pas_nil : PAs X y [] mNil := ⟨PA_imp pa_nil fun σ H Q ⟨env, Hk, G, re, q⟩ => q [] Hk H (Kx.refl _ _) re .nil⟩
theorem pas_cons (h : PX X y e m) (hr : PAs X y es ma) (hs : starEach (e :: es) X.env = (false, eval e X.env) :: starEach es X.env := by rfl) : PAs X y (e :: es) (mCons m ma) := by
  refine ⟨PA_imp (pa_cons h.pe hr.pa hs) fun σ H Q ⟨env, Hk, G, re, q⟩ => ?_⟩
  refine ⟨env, Hk, G, re, ?_⟩
  unfold mCons mBind at q
  cases z : m env with
  | ok t e1 =>
    rw [z] at q
    intro v Hk1 H1 k1 r1 rt1
    obtain ⟨Hk1', k1', r1', rv1⟩ := rt1.settle r1
    refine ⟨e1, Hk1', G, r1', ?_⟩
    dsimp only at q
    cases z2 : ma e1 with
    | ok ts e2 =>
      rw [z2] at q
      intro vs Hk2 H2 k2 r2 rs
      exact q _ _ _ ((k1.trans k1').trans k2) r2 (.cons (rv1.kx k2) rs)
    | ex c ns ds e2 => rw [z2] at q; exact PoX.kx (k1.trans k1') q
    | bad => rw [z2] at q; exact q
  | ex c ns ds e1 => rw [z] at q; exact q
  | bad => rw [z] at q; exact q
def lookAll : List Tk → Env → Option (List D)
  | [], _ => some []
  | t :: ts, env => match look t env, lookAll ts env with
    | some d, some ds => some (d :: ds)
    | _, _ => none
def forceAll : List Tk → M (List D)
  | [] => fun env => .ok [] env
  | t :: ts => fun env => match force t env with
    | .ok d e1 => match forceAll ts e1 with
      | .ok ds e2 => .ok (d :: ds) e2
      | _ => .bad
    | _ => .bad
theorem RVs.look {C : Ct} {xa : Xa} {G : Hp} {env : Env} {σ : L2.St} {Hk H : Hp} (r : RE C xa G env σ Hk H) : ∀ {ts : List Tk} {vs : List V} {ds : List D}, RVs C σ Hk ts vs → lookAll ts env = some ds → Paired (fun d v => Pk C Hk H d v) ds vs
  | [], _, _, h, q => by cases h; cases q; exact .nil
  | t :: ts, _, ds, h, q => by
    cases h with
    | cons h1 h2 =>
      unfold lookAll at q
      cases z1 : VM.look t env with
      | none => rw [z1] at q; cases q
      | some d =>
        cases z2 : lookAll ts env with
        | none => rw [z1, z2] at q; cases q
        | some ds' =>
          rw [z1, z2] at q
          cases q
          exact .cons ((h1.rt (G := G) (env := env) (H := H)).look r z1) (RVs.look r h2 z2)
theorem RVs.force {C : Ct} {xa : Xa} {G : Hp} {σ : L2.St} {H : Hp} : ∀ {ts : List Tk} {env : Env} {Hk : Hp} {vs : List V} {ds : List D} {e : Env}, RE C xa G env σ Hk H → RVs C σ Hk ts vs → forceAll ts env = .ok ds e → ∃ Hk', Kx G Hk Hk' ∧ RE C xa G e σ Hk' H ∧ RpL C Hk' ds vs
  | [], env, Hk, _, _, _, r, h, q => by cases h; cases q; exact ⟨Hk, Kx.refl _ _, r, RpL.nil⟩
  | t :: ts, env, Hk, _, ds, e, r, h, q => by
    cases h with
    | cons h1 h2 =>
      unfold forceAll at q
      cases z1 : VM.force t env with
      | ok d e1 =>
        rw [z1] at q
        dsimp only at q
        cases z2 : forceAll ts e1 with
        | ok ds' e2 =>
          rw [z2] at q
          cases q
          obtain ⟨Hk1, k1, r1, d1⟩ := (h1.rt (G := G) (env := env) (H := H)).force r z1
          obtain ⟨Hk2, k2, r2, d2⟩ := RVs.force r1 (h2.kx k1) z2
          exact ⟨Hk2, k1.trans k2, r2, .cons (d1.mono k2.ex) d2⟩
        | ex c ns ds e2 => rw [z2] at q; cases q
        | bad => rw [z2] at q; cases q
      | ex c ns ds e1 => rw [z1] at q; cases q
      | bad => rw [z1] at q; cases q
theorem forceAll_cases : ∀ (ts : List Tk) (env : Env), (∃ ds e, forceAll ts env = .ok ds e) ∨ forceAll ts env = .bad
  | [], env => .inl ⟨_, _, rfl⟩
  | t :: ts, env => by
    unfold forceAll
    rcases force_cases t env with ⟨d, e1, z⟩ | z
    · rw [z]
      dsimp only
      rcases forceAll_cases ts e1 with ⟨ds, e2, z2⟩ | z2
      · rw [z2]; exact .inl ⟨_, _, rfl⟩
      · rw [z2]; exact .inr rfl
    · rw [z]; exact .inr rfl
theorem pa_bind {f : List Tk → M Tk} {env : Env} {G : Hp} {σ : L2.St} {Hk : Hp} {Q : VK} {R : List V → Hp → Prop} (q : PoE (y.ct X) y.xa y.W G σ Hk (mBind ma f env) Q)
    (k : ∀ ts e vs Hk' H1, Kx G Hk Hk' → RE (y.ct X) y.xa G e σ Hk' H1 → RVs (y.ct X) σ Hk' ts vs → PoE (y.ct X) y.xa y.W G σ Hk' (f ts e) Q → R vs H1) : PoA (y.ct X) y.xa y.W G σ Hk (ma env) R := by
  unfold mBind at q
  cases e : ma env with
  | ok t e1 => rw [e] at q; exact fun v Hk' H' k' r' h' => k t e1 v Hk' H' k' r' h' (q.kx k')
  | ex c ns ds e1 => rw [e] at q; exact q
  | bad => rw [e] at q; exact q
/-! ### displays -/
def mTup (ma : M (List Tk)) : M Tk := mBind ma fun ts => mBind (forceAll ts) fun ds => if ds.length ≤ 1000 then mC (.tup ds) else fun _ => .bad
def mLst (ma : M (List Tk)) : M Tk := mBind ma fun ts => mBind (forceAll ts) fun ds => if ds.length ≤ 1000 then fun env => .ok (.new (.lst ds)) env else fun _ => .bad
theorem le_line {n : Nat} (h : n ≤ 1000) : n ≤ sizeLine := Nat.le_trans h (by decide)
theorem px_tup {x1} (h : PAs X y es ma) : PX X y (.Tuple es x1 pos) (mTup ma) :=
  ⟨PE_imp (pe_tup h.pa) fun σ H Q ⟨env, Hk, G, re, q⟩ => ⟨env, Hk, G, re, pa_bind q fun ts e vs Hk' H1 k1 r1 rs q1 => by
    unfold mBind at q1
    rcases forceAll_cases ts e with ⟨ds, e2, z⟩ | z
    · rw [z] at q1
      dsimp only at q1
      obtain ⟨Hk2, k2, r2, hl⟩ := RVs.force r1 rs z
      split at q1
      · rename_i hz
        refine ⟨by rw [← hl.len]; exact le_line hz, fun p hp => ?_⟩
        obtain ⟨Hk3, k3, r3, rt⟩ := r2.res (res_tup r2.hk hp hl)
        exact q1 _ _ _ (k2.trans k3) r3 rt
      · exact q1.elim
    · rw [z] at q1; exact q1.elim⟩⟩
theorem px_lst (h : PAs X y es ma) : PX X y (.List es pos) (mLst ma) :=
  ⟨PE_imp (pe_lst h.pa) fun σ H Q ⟨env, Hk, G, re, q⟩ => ⟨env, Hk, G, re, pa_bind q fun ts e vs Hk' H1 k1 r1 rs q1 => by
    unfold mBind at q1
    rcases forceAll_cases ts e with ⟨ds, e2, z⟩ | z
    · rw [z] at q1
      dsimp only at q1
      obtain ⟨Hk2, k2, r2, hl⟩ := RVs.force r1 rs z
      split at q1
      · rename_i hz
        refine ⟨by rw [← hl.len]; exact le_line hz, fun p hp => ?_⟩
        obtain ⟨Hk3, k3, r3, rt⟩ := r2.res (res_lst hp hl)
        exact q1 _ _ _ (k2.trans k3) r3 rt
      · exact q1.elim
    · rw [z] at q1; exact q1.elim⟩⟩

/-! ### built-ins, called -/
def mCall (f : List D → Option Tk) (ma : M (List Tk)) : M Tk := mBind ma fun ts env => match lookAll ts env with
  | some ds => mOf (f ds) env
  | none => .bad
theorem t_call {f : List D → Option Tk} {r : List V → Hp → VK → Prop} (o : OpN X y f r) {σ : L2.St} {H : Hp} {Q : VK} (h : tE X y (mCall f ma) σ H Q) : tCB r (tA X y ma) σ H Q := by
  obtain ⟨env, Hk, G, re, q⟩ := h
  refine ⟨env, Hk, G, re, pa_bind q fun ts e1 vs Hk1 H1 k1 r1 rs q1 => ?_⟩
  cases z : lookAll ts e1 with
  | none => rw [z] at q1; exact q1.elim
  | some ds =>
    rw [z] at q1
    dsimp only at q1
    unfold mOf at q1
    cases z2 : f ds with
    | none => rw [z2] at q1; exact q1.elim
    | some t =>
      rw [z2] at q1
      refine o Hk1 H1 ds vs t Q r1.hk z2 (RVs.look r1 rs z) fun z H' hz => ?_
      obtain ⟨Hk', k', r', rt⟩ := r1.res hz
      exact q1 z Hk' H' k' r' rt
theorem px_blt {x : Str} {id : String} {f : List D → Option Tk} {r : List V → Hp → VK → Prop} (hc : CallR X (.builtin id) r) (o : OpN X y f r) (hg : Gl X x) (hm : X.mg x = none) (hv : bootBuiltins x = some (.builtin id)) (ha : PAs X y (e :: es) ma)
    (hn : x ≠ "__name__" := by decide) (hdb : (x == ("__debug__" : Str)) = false := by decide) (he : starEach (e :: es) X.env = (false, eval e X.env) :: starEach es X.env := by rfl) (hpl : (backTo pos (starEach es X.env)).any (·.1) = false := by rfl) :
    PX X y (.Call (.Name x p) (e :: es) [] pos) (mCall f ma) :=
  ⟨PE_imp (pe_callB hc hg hm hv ha.pa hn hdb he hpl) fun _ _ _ h => t_call o h⟩
theorem px_typ {x : Str} {T : String} {f : List D → Option Tk} {r : List V → Hp → VK → Prop} (hc : CallR X (.type T) r) (o : OpN X y f r) (hg : Gl X x) (hm : X.mg x = none) (hv : bootBuiltins x = some (.type T)) (ha : PAs X y (e :: es) ma)
    (hn : x ≠ "__name__" := by decide) (hdb : (x == ("__debug__" : Str)) = false := by decide) (he : starEach (e :: es) X.env = (false, eval e X.env) :: starEach es X.env := by rfl) (hpl : (backTo pos (starEach es X.env)).any (·.1) = false := by rfl) :
    PX X y (.Call (.Name x p) (e :: es) [] pos) (mCall f ma) :=
  ⟨PE_imp (pe_callTy hc hg hm hv ha.pa hn hdb he hpl) fun _ _ _ h => t_call o h⟩
/-- the functions of one argument -/
def fn1 (f : D → Option Tk) : List D → Option Tk
  | [d] => f d
  | _ => none
def fn2 (f : D → D → Option Tk) : List D → Option Tk
  | [d, d'] => f d d'
  | _ => none
theorem op1N {f : D → Option Tk} {r : List V → Hp → VK → Prop} (h : Op1 X y f (fun v H Q => r [v] H Q)) : OpN X y (fn1 f) r := by
  intro Hk H ds vs t Q e hf hp q
  cases hp with
  | nil => cases hf
  | cons h1 h2 =>
    cases h2 with
    | nil => exact h Hk H _ _ t Q e hf h1 q
    | cons => cases hf
theorem op2N {f : D → D → Option Tk} {r : List V → Hp → VK → Prop} (h : Op2 X y f (fun v w H Q => r [v, w] H Q)) : OpN X y (fn2 f) r := by
  intro Hk H ds vs t Q e hf hp q
  cases hp with
  | nil => cases hf
  | cons h1 h2 =>
    cases h2 with
    | nil => cases hf
    | cons h2 h3 =>
      cases h3 with
      | nil => exact h Hk H _ _ _ _ t Q e hf h1 h2 q
      | cons => cases hf
theorem callR_or {f : Value} {r r' : List V → Hp → VK → Prop} (h : CallR X f r) (h' : CallR X f r') : CallR X f (fun xs H Q => r xs H Q ∨ r' xs H Q) :=
  fun pins s σ H xs us Q I rx q => q.elim (h pins s σ H xs us Q I rx) (h' pins s σ H xs us Q I rx)
def dLen : D → Option Tk
  | .lst xs => some (.val (.int xs.length))
  | .tup xs => some (.val (.int xs.length))
  | .scr xs => some (.val (.int xs.length))
  | .str s => if s.length ≤ sizeLine then some (.val (.int s.length)) else none
  | _ => none
theorem len_ok : OpN X y (fn1 dLen) (fun xs H Q => ∃ x n, xs = [x] ∧ LenV X.K x H n ∧ Q (.int n) H) := op1N (by
  intro Hk H d v t Q e h pa q
  cases d <;> simp only [dLen] at h <;> first
    | (cases h; done)
    | (cases h
       first
        | (obtain ⟨a, vs, rfl, h1, h2⟩ := pa.lst e
           exact ⟨_, _, rfl, .inl ⟨vs, sqL h1, h2.len⟩, q _ _ (res_flat rp_int e)⟩)
        | (obtain ⟨a, vs, rfl, h1, h2, _⟩ := pa.tup e
           exact ⟨_, _, rfl, .inr ⟨vs, sqT h1, h2.len⟩, q _ _ (res_flat rp_int e)⟩)
        | (obtain ⟨a, rfl, h1⟩ := pa.scr e
           exact ⟨_, _, rfl, .inl ⟨_, h1, by rw [List.length_map]⟩, q _ _ (res_flat rp_int e)⟩))
    | (split at h
       · rename_i hl
         cases h
         cases pa.str
         exact ⟨_, _, rfl, ⟨hl, rfl⟩, q _ _ (res_flat rp_int e)⟩
       · cases h))
theorem px_len (hm : X.mg "len" = none) (ha : PAs X y [e] ma) (hg : Gl X "len" := by rfl) (hs : starEach [e] X.env = (false, eval e X.env) :: starEach [] X.env := by rfl) : PX X y (.Call (.Name "len" p) [e] [] pos) (mCall (fn1 dLen) ma) :=
  px_blt call_len len_ok hg hm PySem.boot_len ha (he := hs) (hpl := by rfl)
def dInt : D → Option Tk
  | .int i => some (.val (.int i))
  | .bl b => some (.val (.int (if b then 1 else 0)))
  | _ => none
theorem int_ok : OpN X y (fn1 dInt) (fun xs H Q => (∃ i, xs = [.int i] ∧ Q (.int i) H) ∨ ∃ k, xs = [.bl k] ∧ Q (.int (if k then 1 else 0)) H) := op1N (by
  intro Hk H d v t Q e h pa q
  cases d <;> simp only [dInt] at h <;> first
    | (cases h; done)
    | (cases h; cases pa.int; exact .inl ⟨_, rfl, q _ _ (res_flat rp_int e)⟩)
    | (cases h; cases pa.bl; exact .inr ⟨_, rfl, q _ _ (res_flat rp_int e)⟩))
def dAbs : D → Option Tk
  | .int i => some (.val (.int (if i < 0 then -i else i)))
  | _ => none
theorem abs_ok : OpN X y (fn1 dAbs) (fun xs H Q => ∃ i, xs = [.int i] ∧ Q (.int (if i < 0 then -i else i)) H) := op1N (by
  intro Hk H d v t Q e h pa q
  cases d <;> simp only [dAbs] at h <;> first
    | (cases h; done)
    | (cases h; cases pa.int; exact ⟨_, rfl, q _ _ (res_flat rp_int e)⟩))
def dMax : D → D → Option Tk := dI (fun _ _ => true) fun i j => .int (if j > i then j else i)
def dMin : D → D → Option Tk := dI (fun _ _ => true) fun i j => .int (if j < i then j else i)
theorem max_ok : OpN X y (fn2 dMax) (fun xs H Q => ∃ i j, xs = [.int i, .int j] ∧ Q (.int (if j > i then j else i)) H) := op2N (by
  intro Hk H a b v w t Q e h pa pb q
  obtain ⟨i, j, rfl, rfl, h3⟩ := dI0_ok (y := y) (X := X) (g' := fun i j => .int (if j > i then j else i)) (fun _ _ _ => rp_int) Hk H a b v w t Q e h pa pb q
  exact ⟨i, j, rfl, h3⟩)
theorem min_ok : OpN X y (fn2 dMin) (fun xs H Q => ∃ i j, xs = [.int i, .int j] ∧ Q (.int (if j < i then j else i)) H) := op2N (by
  intro Hk H a b v w t Q e h pa pb q
  obtain ⟨i, j, rfl, rfl, h3⟩ := dI0_ok (y := y) (X := X) (g' := fun i j => .int (if j < i then j else i)) (fun _ _ _ => rp_int) Hk H a b v w t Q e h pa pb q
  exact ⟨i, j, rfl, h3⟩)
theorem rpl_ints {C : Ct} {H : Hp} : ∀ {ns : List Int} {vs : List V}, RpL C H (ns.map D.int) vs → vs = ns.map V.int
  | [], _, h => by unfold RpL at h; exact h
  | n :: ns, _, h => by
    obtain ⟨v, r, rfl, h1, h2⟩ := h.inv
    unfold Rp at h1
    subst h1
    rw [rpl_ints h2]
    rfl
theorem ints_rpl {C : Ct} {H : Hp} : ∀ {ns : List Int}, RpL C H (ns.map D.int) (ns.map V.int)
  | [] => RpL.nil
  | n :: ns => .cons rp_int ints_rpl
theorem rpl_bls {C : Ct} {H : Hp} : ∀ {ns : List Bool} {vs : List V}, RpL C H (ns.map D.bl) vs → vs = ns.map V.bl
  | [], _, h => by unfold RpL at h; exact h
  | n :: ns, _, h => by
    obtain ⟨v, r, rfl, h1, h2⟩ := h.inv
    unfold Rp at h1
    subst h1
    rw [rpl_bls h2]
    rfl
/-- a list of ints, of truths -/
def toInts : List D → Option (List Int)
  | [] => some []
  | .int i :: r => (toInts r).map (i :: ·)
  | _ :: _ => none
def toBls : List D → Option (List Bool)
  | [] => some []
  | .bl i :: r => (toBls r).map (i :: ·)
  | _ :: _ => none
theorem toInts_eq : ∀ {xs : List D} {ns : List Int}, toInts xs = some ns → xs = ns.map D.int
  | [], _, h => by cases h; rfl
  | d :: ds, ns, h => by
    cases d <;> simp only [toInts] at h <;> first
      | (cases h; done)
      | (cases z : toInts ds with
         | none => rw [z] at h; cases h
         | some ms => rw [z] at h; cases h; rw [toInts_eq z]; rfl)
theorem toBls_eq : ∀ {xs : List D} {ns : List Bool}, toBls xs = some ns → xs = ns.map D.bl
  | [], _, h => by cases h; rfl
  | d :: ds, ns, h => by
    cases d <;> simp only [toBls] at h <;> first
      | (cases h; done)
      | (cases z : toBls ds with
         | none => rw [z] at h; cases h
         | some ms => rw [z] at h; cases h; rw [toBls_eq z]; rfl)
theorem toInts_map (ns : List Int) : toInts (ns.map D.int) = some ns := by
  induction ns with
  | nil => rfl
  | cons n ns ih => show (toInts (ns.map D.int)).map (n :: ·) = _; rw [ih]; rfl
theorem toBls_map (ns : List Bool) : toBls (ns.map D.bl) = some ns := by
  induction ns with
  | nil => rfl
  | cons n ns ih => show (toBls (ns.map D.bl)).map (n :: ·) = _; rw [ih]; rfl
def dSum : D → Option Tk
  | .lst xs => (toInts xs).map fun ns => .val (.int ns.sum)
  | _ => none
theorem sum_ok : OpN X y (fn1 dSum) (rSum X.K) := op1N (by
  intro Hk H d v t Q e h pa q
  cases d <;> simp only [dSum] at h <;> first
    | (cases h; done)
    | (rename_i xs
       cases z : toInts xs with
       | none => rw [z] at h; cases h
       | some ns =>
         rw [z] at h
         cases h
         obtain ⟨a, vs, rfl, h1, h2⟩ := pa.lst e
         rw [toInts_eq z] at h2
         rw [rpl_ints h2] at h1
         exact ⟨a, ns, rfl, sqL h1, q _ _ (res_flat rp_int e)⟩))
def dAny : D → Option Tk
  | .lst xs => (toBls xs).map fun ns => .val (.bl (ns.any id))
  | _ => none
def dAll : D → Option Tk
  | .lst xs => (toBls xs).map fun ns => .val (.bl (ns.all id))
  | _ => none
theorem any_ok : OpN X y (fn1 dAny) (rAny X.K) := op1N (by
  intro Hk H d v t Q e h pa q
  cases d <;> simp only [dAny] at h <;> first
    | (cases h; done)
    | (rename_i xs
       cases z : toBls xs with
       | none => rw [z] at h; cases h
       | some ns =>
         rw [z] at h
         cases h
         obtain ⟨a, vs, rfl, h1, h2⟩ := pa.lst e
         rw [toBls_eq z] at h2
         rw [rpl_bls h2] at h1
         exact ⟨a, ns, rfl, sqL h1, q _ _ (res_flat rp_bl e)⟩))
theorem all_ok : OpN X y (fn1 dAll) (rAll X.K) := op1N (by
  intro Hk H d v t Q e h pa q
  cases d <;> simp only [dAll] at h <;> first
    | (cases h; done)
    | (rename_i xs
       cases z : toBls xs with
       | none => rw [z] at h; cases h
       | some ns =>
         rw [z] at h
         cases h
         obtain ⟨a, vs, rfl, h1, h2⟩ := pa.lst e
         rw [toBls_eq z] at h2
         rw [rpl_bls h2] at h1
         exact ⟨a, ns, rfl, sqL h1, q _ _ (res_flat rp_bl e)⟩))
def dTuple : D → Option Tk
  | .lst xs => some (.val (.tup xs))
  | .tup xs => some (.val (.tup xs))
  | _ => none
theorem tuple_ok : OpN X y (fn1 dTuple) (fun xs H Q => ∃ p ys, xs = [.ref p] ∧ ((SqL X.K H p ys ∧ ∀ l, H l = none → Q (.ref l) (upd H l (.tup ys))) ∨ (SqT X.K H p ys ∧ Q (.ref p) H))) := op1N (by
  intro Hk H d v t Q e h pa q
  cases d <;> simp only [dTuple] at h <;> first
    | (cases h; done)
    | (cases h
       first
        | (obtain ⟨a, vs, rfl, h1, h2⟩ := pa.lst e
           exact ⟨a, vs, rfl, .inl ⟨sqL h1, fun l hl => q _ _ (res_tup e hl h2)⟩⟩)
        | (obtain ⟨a, vs, rfl, h1, h2, h3⟩ := pa.tup e
           exact ⟨a, vs, rfl, .inr ⟨sqT h1, q _ _ (res_flat h3 e)⟩⟩)))
def dList : D → Option Tk
  | .lst xs => some (.new (.lst xs))
  | .tup xs => some (.new (.lst xs))
  | .scr ns => some (.new (.lst (ns.map .int)))
  | _ => none
theorem list_ok : OpN X y (fn1 dList) (fun xs H Q => ∃ p ys, xs = [.ref p] ∧ (SqL X.K H p ys ∨ SqT X.K H p ys) ∧ ∀ l, H l = none → Q (.ref l) (upd H l (.lst ys))) := op1N (by
  intro Hk H d v t Q e h pa q
  cases d <;> simp only [dList] at h <;> first
    | (cases h; done)
    | (cases h
       first
        | (obtain ⟨a, vs, rfl, h1, h2⟩ := pa.lst e
           exact ⟨a, vs, rfl, .inl (sqL h1), fun l hl => q _ _ (res_lst hl h2)⟩)
        | (obtain ⟨a, vs, rfl, h1, h2, h3⟩ := pa.tup e
           exact ⟨a, vs, rfl, .inr (sqT h1), fun l hl => q _ _ (res_lst hl h2)⟩)
        | (obtain ⟨a, rfl, h1⟩ := pa.scr e
           exact ⟨a, _, rfl, .inl h1, fun l hl => q _ _ (res_lst hl ints_rpl)⟩)))
end

/-! ### items and slices -/
section
variable {X : Cx} {y : Y} {a b c e : Expr} {m m1 m2 m3 : M Tk} {pos p p2 : Pos}
def dIx : D → D → Option Tk
  | .lst xs, .int i => (atI xs i).map .val
  | .tup xs, .int i => (atI xs i).map .val
  | .tupf xs, .int i => (atI xs i).map .val
  | .scr ns, .int i => (atI ns i).map fun n => .val (.int n)
  | .str s, .int i => if s.length ≤ sizeLine then (atI s.cps.toList i).map fun c => .val (.str ⟨#[c]⟩) else none
  | _, _ => none
theorem atI_rpl {C : Ct} {H : Hp} {xs : List D} {vs : List V} {i : Int} {d : D} (h : RpL C H xs vs) (e : atI xs i = some d) : ∃ v, atI vs i = some v ∧ Rp C H d v := by
  unfold atI at e ⊢
  rw [← h.len]
  cases z : ixN xs.length i with
  | none => rw [z] at e; cases e
  | some j => rw [z] at e; exact h.get e
theorem atI_map {α β : Type} (f : α → β) (xs : List α) (i : Int) : atI (xs.map f) i = (atI xs i).map f := by
  unfold atI
  rw [List.length_map]
  cases ixN xs.length i with
  | none => rfl
  | some j => simp
theorem ix_ok : Op2 X y dIx (rIx X.K) := by
  intro Hk H a b v w t Q e h pa pb q
  cases a <;> cases b <;> simp only [dIx] at h <;> first
    | (cases h; done)
    | (cases pb.int
       first
        | (obtain ⟨p, vs, rfl, h1, h2⟩ := pa.lst e
           rename_i xs i
           cases z : atI xs i with
           | none => rw [z] at h; cases h
           | some d =>
             rw [z] at h
             cases h
             obtain ⟨x, hx, rx⟩ := atI_rpl h2 z
             exact .inl ⟨p, vs, _, x, rfl, rfl, sqL h1, hx, q _ _ (res_flat rx e)⟩)
        | (obtain ⟨p, o, vs, rfl, h1, h4, h5, h2⟩ := pa.tupf e
           rename_i xs i
           cases z : atI xs i with
           | none => rw [z] at h; cases h
           | some d =>
             rw [z] at h
             cases h
             obtain ⟨x, hx, rx⟩ := atI_rpl h2 z
             exact .inr (.inl ⟨p, vs, _, x, rfl, rfl, .inl (.inr ⟨o, h1⟩), hx, q _ _ (res_flat rx e)⟩))
        | (obtain ⟨p, vs, rfl, h1, h2, h3⟩ := pa.tup e
           rename_i xs i
           cases z : atI xs i with
           | none => rw [z] at h; cases h
           | some d =>
             rw [z] at h
             cases h
             obtain ⟨x, hx, rx⟩ := atI_rpl h2 z
             exact .inr (.inl ⟨p, vs, _, x, rfl, rfl, sqT h1, hx, q _ _ (res_flat rx e)⟩))
        | (obtain ⟨p, rfl, h1⟩ := pa.scr e
           rename_i xs i
           cases z : atI xs i with
           | none => rw [z] at h; cases h
           | some d =>
             rw [z] at h
             cases h
             exact .inl ⟨p, _, _, _, rfl, rfl, h1, by rw [atI_map, z]; rfl, q _ _ (res_flat rp_int e)⟩)
        | (cases pa.str
           rename_i s i
           split at h
           · rename_i hl
             cases z : atI s.cps.toList i with
             | none => rw [z] at h; cases h
             | some d =>
               rw [z] at h
               cases h
               exact .inr (.inr ⟨s, i, d, rfl, rfl, hl, z, q _ _ (res_flat rp_str e)⟩)
           · cases h))
theorem px_ix (ha : PX X y a m1) (hb : PX X y b m2) (hs : PlainIx b := by exact fun _ _ => rfl) : PX X y (.Subscript a b pos) (mBin dIx m1 m2) :=
  ⟨PE_imp (pe_ix ix_seq ha.pe hb.pe hs) fun _ _ _ h => t_bin ix_ok h⟩
/-- a bound of a slice -/
def mPart (m : Option (M Tk)) : M (Option Int) := match m with
  | none => fun env => .ok none env
  | some m => mBind m fun t env => match look t env with
    | some (.int i) => .ok (some i) env
    | _ => .bad
def PoO (C : Ct) (xa : Xa) (W : WX) (G : Hp) (σ : L2.St) (Hk : Hp) (r : Rs (Option Int)) (Q : Option Int → Hp → Prop) : Prop := match r with
  | .ok o e => ∀ Hk' H', Kx G Hk Hk' → RE C xa G e σ Hk' H' → Q o H'
  | .ex c ns ds e => PoX C xa W G σ Hk c ns ds e
  | .bad => False
theorem PoO.kx {C : Ct} {xa : Xa} {W : WX} {G : Hp} {σ : L2.St} {Hk Hk' : Hp} {r : Rs (Option Int)} {Q : Option Int → Hp → Prop} (k : Kx G Hk Hk') (h : PoO C xa W G σ Hk r Q) : PoO C xa W G σ Hk' r Q := by
  cases r with
  | ok t e => exact fun H2 H' k2 => h H2 H' (k.trans k2)
  | ex c ns ds e => exact PoX.kx k h
  | bad => exact h
def tP (X : Cx) (y : Y) (m : M (Option Int)) : TO := fun σ H Q => ∃ env Hk G, RE (y.ct X) y.xa G env σ Hk H ∧ PoO (y.ct X) y.xa y.W G σ Hk (m env) Q
structure PPt (X : Cx) (y : Y) (e : Option Expr) (m : M (Option Int)) : Prop where
  po : PO X e (tP X y m)
theorem PO_imp {e : Option Expr} {t t' : TO} (h : PO X e t) (f : ∀ σ H Q, t' σ H Q → t σ H Q) : PO X e t' := ⟨fun pins s σ H Q I q => h.run pins s σ H Q I (f σ H Q q)⟩
theorem pp_none : PPt X y none (mPart none) := ⟨PO_imp po_none fun σ H Q ⟨env, Hk, G, re, q⟩ => q Hk H (Kx.refl _ _) re⟩
theorem pp_some (h : PX X y e m) : PPt X y (some e) (mPart (some m)) := ⟨PO_imp (po_some h.pe) fun σ H Q ⟨env, Hk, G, re, q⟩ => by
  refine ⟨env, Hk, G, re, ?_⟩
  unfold mPart mBind at q
  dsimp only at q
  cases z : m env with
  | ok t e1 =>
    rw [z] at q
    dsimp only at q
    intro v Hk' H' k' r' rt
    cases z2 : look t e1 with
    | none => rw [z2] at q; exact q.elim
    | some d =>
      rw [z2] at q
      cases d with
      | int i => exact ⟨i, (rt.look r' z2).int, q Hk' H' k' r'⟩
      | _ => exact q.elim
  | ex c ns ds e1 => rw [z] at q; exact q
  | bad => rw [z] at q; exact q⟩
def cutD (xs : List D) (lo hi : Option Int) : List D := (xs.drop (HT.sIx xs.length 0 lo)).take (HT.sIx xs.length xs.length hi - HT.sIx xs.length 0 lo)
theorem cut_rpl {C : Ct} {H : Hp} {xs : List D} {vs : List V} (h : RpL C H xs vs) (lo hi : Option Int) : RpL C H (cutD xs lo hi) (cutV vs lo hi) := by
  unfold cutD cutV
  rw [← h.len]
  exact (h.drop _).take _
def dSl (d : D) (lo hi : Option Int) : Option Tk := match d with
  | .lst xs => some (.new (.lst (cutD xs lo hi)))
  | .tup xs => some (.val (.tup (cutD xs lo hi)))
  | _ => none
def mSlice (m : M Tk) (ml mh : M (Option Int)) : M Tk := mBind m fun t => mBind ml fun lo => mBind mh fun hi env => match look t.settle env with
  | some d => mOf (dSl d lo hi) env
  | none => .bad
theorem sIx_whole {α : Type} (xs : List α) (lo hi : Option Int) (h : HT.sIx xs.length 0 lo = 0 ∧ HT.sIx xs.length xs.length hi = xs.length) : (xs.drop (HT.sIx xs.length 0 lo)).take (HT.sIx xs.length xs.length hi - HT.sIx xs.length 0 lo) = xs := by
  rw [h.1, h.2]
  simp
theorem sl_ok (Hk H : Hp) (d : D) (v : V) (lo hi : Option Int) (t : Tk) (Q : VK) (e : Ex Hk H) (h : dSl d lo hi = some t) (pa : Pk (y.ct X) Hk H d v) (q : ∀ z H', Res (y.ct X) Hk H t z H' → Q z H') : rSlL X.K v lo hi H Q ∨ rSlA X.K v lo hi H Q := by
  cases d <;> simp only [dSl] at h <;> first
    | (cases h; done)
    | (cases h
       first
        | (obtain ⟨p, vs, rfl, h1, h2⟩ := pa.lst e
           exact .inl ⟨p, vs, rfl, sqL h1, fun l hl => q _ _ (res_lst hl (cut_rpl h2 lo hi))⟩)
        | (obtain ⟨p, vs, rfl, h1, h2, h3⟩ := pa.tup e
           refine .inr ⟨p, vs, rfl, sqT h1, fun z => ?_, fun _ l hl => q _ _ (res_tup e hl (cut_rpl h2 lo hi))⟩
           have z' := sIx_whole _ lo hi (by rw [h2.len]; exact z)
           unfold cutD at q
           rw [z'] at q
           exact q _ _ (res_flat h3 e)))
theorem px_slice {lo hi : Option Expr} {ml mh : M (Option Int)} (ha : PX X y a m) (hl : PPt X y lo ml) (hh : PPt X y hi mh) : PX X y (.Subscript a (.Slice lo hi none p2) pos) (mSlice m ml mh) :=
  ⟨PE_imp (pe_slice (sl_list.or sl_tupA) ha.pe hl.po hh.po) fun σ H Q ⟨env, Hk, G, re, q⟩ => ⟨env, Hk, G, re, po_bind q fun t e1 v Hk1 H1 k1 r1 rt1 q1 => by
    obtain ⟨Hk1', k1', r1', rv1⟩ := rt1.settle r1
    have q1 := q1.kx k1'
    refine ⟨e1, Hk1', G, r1', ?_⟩
    unfold mBind at q1
    cases z : ml e1 with
    | ok lo e2 =>
      rw [z] at q1
      intro Hk2 H2 k2 r2
      refine ⟨e2, Hk2, G, r2, ?_⟩
      dsimp only at q1
      cases z2 : mh e2 with
      | ok hi e3 =>
        rw [z2] at q1
        intro Hk3 H3 k3 r3
        dsimp only at q1
        have rt := ((rv1.kx (k2.trans k3)).rt (G := G) (env := e3) (H := H3))
        cases z3 : look t.settle e3 with
        | none => rw [z3] at q1; exact q1.elim
        | some d =>
          rw [z3] at q1
          dsimp only at q1
          unfold mOf at q1
          cases z4 : dSl d lo hi with
          | none => rw [z4] at q1; exact q1.elim
          | some tk =>
            rw [z4] at q1
            refine sl_ok (y := y) Hk3 H3 d v lo hi tk Q r3.hk z4 (rt.look r3 z3) fun z H' hz => ?_
            obtain ⟨Hk', k', r', rz⟩ := r3.res hz
            exact q1 z Hk' H' ((k2.trans k3).trans k') r' rz
      | ex c ns ds e3 => rw [z2] at q1; exact PoX.kx k2 q1
      | bad => rw [z2] at q1; exact q1
    | ex c ns ds e2 => rw [z] at q1; exact q1
    | bad => rw [z] at q1; exact q1⟩⟩
/-! ### in -/
def D.inD (x : D) : List D → Bool
  | [] => false
  | d :: ds => D.eq d x || D.inD x ds
def isFlat : D → Bool
  | .non | .bl _ | .int _ => true
  | .str _ => true
  | _ => false
end
end VM

set_option Elab.async false
set_option linter.all false
set_option maxRecDepth 100000
set_option maxHeartbeats 1000000
/-! VM 5: in, chains, isinstance; calls of the text's own defs -/
namespace VM
open PySem PySem.Spec PyProof.Rows L2
section
variable {X : Cx} {y : Y} {a b c e : Expr} {es : List Expr} {m m1 m2 m3 : M Tk} {ma : M (List Tk)} {pos p p2 : Pos}
/-! ### in -/
def fl : D → Bool
  | .non | .bl _ | .int _ | .str _ => true
  | _ => false
def flEq : D → D → Bool
  | .non, .non => true
  | .bl a, .bl b => a == b
  | .bl a, .int b => (if a then 1 else 0) == b
  | .int a, .bl b => a == (if b then 1 else 0)
  | .int a, .int b => a == b
  | .str a, .str b => a == b
  | _, _ => false
theorem fl_v {C : Ct} {H : Hp} {d : D} {v : V} (f : fl d = true) (h : Rp C H d v) : flatV v = true := by
  cases d <;> first | (cases f; done) | (unfold Rp at h; subst h; rfl)
theorem flEq_v {C : Ct} {H : Hp} {d d' : D} {v v' : V} (f : fl d = true) (f' : fl d' = true) (h : Rp C H d v) (h' : Rp C H d' v') : eqV v v' = flEq d d' := by
  cases d <;> cases d' <;> first | (cases f; done) | (cases f'; done) | (unfold Rp at h h'; subst h h'; rfl)
theorem fl_all {C : Ct} {H : Hp} : ∀ {ds : List D} {vs : List V}, ds.all fl = true → RpL C H ds vs → vs.all flatV = true
  | [], _, _, h => by unfold RpL at h; subst h; rfl
  | d :: ds, _, f, h => by
    obtain ⟨v, r, rfl, h1, h2⟩ := h.inv
    rw [List.all_cons, Bool.and_eq_true] at f
    rw [List.all_cons, fl_v f.1 h1, fl_all f.2 h2]
    rfl
theorem in_v {C : Ct} {H : Hp} {x : D} {v : V} (fx : fl x = true) (hx : Rp C H x v) : ∀ {ds : List D} {vs : List V}, ds.all fl = true → RpL C H ds vs → inV v vs = ds.any fun d => flEq d x
  | [], _, _, h => by unfold RpL at h; subst h; rfl
  | d :: ds, _, f, h => by
    obtain ⟨w, r, rfl, h1, h2⟩ := h.inv
    rw [List.all_cons, Bool.and_eq_true] at f
    have ih := in_v fx hx f.2 h2
    unfold inV at ih ⊢
    rw [List.any_cons, List.any_cons, flEq_v f.1 fx h1 hx, ih]
def cInS (x : D) (xs : List D) : Option Bool := if fl x = true ∧ xs.all fl = true then some (xs.any fun d => flEq d x) else none
/-- in a list or tuple of flat things; in a list of any plain data -/
def cIn : D → D → Option Bool
  | x, .tup xs => cInS x xs
  | x, .lst xs => if fl x = true ∧ xs.all fl = true then some (xs.any fun d => flEq d x) else if x.pl 64 = true ∧ (D.lst xs).pl 64 = true then some (xs.any fun d => D.eq d x) else none
  | _, _ => none
def cNotIn (x y : D) : Option Bool := (cIn x y).map (!·)
theorem py_any (x : D) : ∀ xs : List D, ((pyL xs).any fun z => PyData.eqv z x.py) = xs.any fun d => D.eq d x
  | [] => rfl
  | d :: ds => by
    show (PyData.eqv d.py x.py || (pyL ds).any _) = _
    rw [py_any x ds]
    rfl
def rInG (K : PySem.W.Frag) : R2 := fun x y H Q => rIn K false x y H Q ∨ rInD K x y H Q
def rNotInG (K : PySem.W.Frag) : R2 := fun x y H Q => rIn K true x y H Q ∨ rNotInD K x y H Q
theorem cIn_go {Hk H : Hp} {x z : D} {v w : V} {k : Bool} (e : Ex Hk H) (px : Pk (y.ct X) Hk H x v) (pz : Pk (y.ct X) Hk H z w) (h : cIn x z = some k) (neg : Bool) (Q : VK) (q : Q (.bl (if neg then !k else k)) H) :
    rIn X.K neg v w H Q ∨ ∃ d ds, Dp X.K H v d ∧ Dp X.K H w (.list ds) ∧ SeqAt.shaped d = true ∧ SeqAt.shaped (.list ds) = true ∧ (ds.any fun z => PyData.eqv z d) = k := by
  have flat : ∀ xs : List D, ∀ vs : List V, fl x = true ∧ xs.all fl = true → RpL (y.ct X) Hk xs vs → k = (xs.any fun d => flEq d x) → ∀ p, (SqL X.K H p vs ∨ SqT X.K H p vs) → w = .ref p → rIn X.K neg v w H Q := fun xs vs hc h2 hk p hs hw => by
    have rx := px.all e
    have r2 := h2.mono e
    refine ⟨p, vs, hw, hs, fl_v hc.1 rx, fl_all hc.2 r2, ?_⟩
    rw [in_v hc.1 rx hc.2 r2, ← hk]
    exact q
  cases z with
  | tup xs =>
    have h : cInS x xs = some k := h
    unfold cInS at h
    split at h
    · rename_i hc
      cases h
      obtain ⟨p, vs, rfl, h1, h2, _⟩ := pz.tup e
      exact .inl (flat xs vs hc h2 rfl p (.inr (sqT h1)) rfl)
    · cases h
  | lst xs =>
    simp only [cIn] at h
    split at h
    · rename_i hc
      cases h
      obtain ⟨p, vs, rfl, h1, h2⟩ := pz.lst e
      exact .inl (flat xs vs hc h2 rfl p (.inl (sqL h1)) rfl)
    · split at h
      · rename_i hc
        cases h
        exact .inr ⟨x.py, pyL xs, dp_of 64 x v hc.1 (px.all e), dp_of 64 (.lst xs) w hc.2 (pz.all e), pl_shaped hc.1, pl_shaped hc.2, py_any x xs⟩
      · cases h
  | _ => cases h
theorem in_ok : Op2 X y (lift cIn) (rInG X.K) := by
  intro Hk H a b v w t Q e h pa pb q
  unfold lift at h
  cases z : cIn a b with
  | none => rw [z] at h; cases h
  | some k =>
    rw [z] at h
    cases h
    rcases cIn_go e pa pb z false Q (q _ _ (res_flat rp_bl e)) with h | ⟨d, ds, h1, h2, h3, h4, h5⟩
    · exact .inl h
    · exact .inr ⟨d, ds, h1, h2, h3, h4, by rw [h5]; exact q _ _ (res_flat rp_bl e)⟩
theorem notin_ok : Op2 X y (lift cNotIn) (rNotInG X.K) := by
  intro Hk H a b v w t Q e h pa pb q
  unfold lift cNotIn at h
  cases z : cIn a b with
  | none => rw [z] at h; cases h
  | some k =>
    rw [z] at h
    cases h
    rcases cIn_go e pa pb z true Q (q _ _ (res_flat rp_bl e)) with h | ⟨d, ds, h1, h2, h3, h4, h5⟩
    · exact .inl h
    · exact .inr ⟨d, ds, h1, h2, h3, h4, by rw [h5]; exact q _ _ (res_flat rp_bl e)⟩

/-! ### calls of the text's own defs -/
inductive Rf where
  | ok (nw : Bool) (d p : D) | ex (c : Nat) (ns : List Str) (ds : List D) (p : D) | bad
/-- what is handed back: known, or a new object -/
def Bk (C : Ct) (G Hk' H' : Hp) (nw : Bool) (d : D) (v : V) : Prop := if nw = true then ∃ a, v = .ref a ∧ Hk' a = none ∧ OwA C G Hk' H' a d else Rp C Hk' d v
def spF (C : Ct) (np : Nat) (F : List D → Rf) : Sp := fun vs H Q E => vs.length = np ∧ ∃ ds Hk, Ex Hk H ∧ RpL C Hk ds vs ∧ match F ds with
  | .ok nw d _ => ∀ v Hk' H', Kx H Hk Hk' → Ex Hk' H' → Ex H H' → Bk C H Hk' H' nw d v → Q v H'
  | .ex c ns xs _ => ∀ cls dd Hk' H', Kx H Hk Hk' → Ex Hk' H' → Ex H H' → RpX C Hk' H' c ns xs cls dd → E cls dd H'
  | .bad => False
/-- the first argument's object may change: it is the caller's own -/
def spIO (C : Ct) (np : Nat) (F : List D → Rf) : Sp := fun vs H Q E => vs.length = np ∧ ∃ a vs' d0 ds Hk G, vs = .ref a :: vs' ∧ Ex G H ∧ Ex Hk H ∧ Hk a = none ∧ OwA C G Hk H a d0 ∧ RpL C Hk ds vs' ∧ match F (d0 :: ds) with
  | .ok nw d p => ∀ v Hk' H', Kx G Hk Hk' → Ex Hk' H' → Ex G H' → Hk' a = none → OwA C G Hk' H' a p → (nw = true → v ≠ .ref a) → Bk C G Hk' H' nw d v → Q v H'
  | .ex c ns xs p => ∀ cls dd Hk' H', Kx G Hk Hk' → Ex Hk' H' → Ex G H' → Hk' a = none → OwA C G Hk' H' a p → RpX C Hk' H' c ns xs cls dd → E cls dd H'
  | .bad => False

def tkOf (nw : Bool) (d : D) : Tk := if nw = true then .new d else .val d
/-- nothing of the arguments can be in it -/
def apart (nw : Bool) (d : D) : Bool := d.flat || (nw && match d with
  | .lst xs => xs.all D.flat
  | _ => false)
def mCallF (F : List D → Rf) (ma : M (List Tk)) : M Tk := mBind ma fun ts env => match lookAll ts env with
  | none => .bad
  | some ds => match F ds with
    | .ok nw d _ => if apart nw d = true then .ok (tkOf nw d) env else match forceAll ts env with
      | .ok _ e => .ok (tkOf nw d) e
      | _ => .bad
    | .ex c ns xs _ => if xs.all D.flat = true then .ex c ns xs env else match forceAll ts env with
      | .ok _ e => .ex c ns xs e
      | _ => .bad
    | .bad => .bad
theorem look_set {t : Tk} {env : Env} {k : Nat} {d : D} (h : env[k]? = some (.ow d)) : look t (env.set k (.sh d)) = look t env := by
  cases t with
  | val _ => rfl
  | new _ => rfl
  | slot j =>
    unfold look
    dsimp only
    by_cases q : k = j
    · subst q
      obtain ⟨hl, _⟩ := List.getElem?_eq_some_iff.mp h
      rw [List.getElem?_set_self hl, h]
    · rw [List.getElem?_set_ne q]
theorem look_force {t : Tk} {env : Env} {d : D} (h : look t env = some d) : ∃ e, force t env = .ok d e ∧ ∀ u, look u e = look u env := by
  cases t with
  | val x => cases h; exact ⟨env, rfl, fun _ => rfl⟩
  | new x => cases h; exact ⟨env, rfl, fun _ => rfl⟩
  | slot k =>
    unfold look at h
    unfold force
    dsimp only at h ⊢
    split at h
    · next x hx => cases h; exact ⟨env, rfl, fun _ => rfl⟩
    · next x hx => cases h; exact ⟨_, rfl, fun u => look_set hx⟩
    · cases h
theorem lookAll_force : ∀ {ts : List Tk} {env : Env} {ds : List D}, lookAll ts env = some ds → ∃ e, forceAll ts env = .ok ds e
  | [], env, ds, h => by cases h; exact ⟨env, rfl⟩
  | t :: ts, env, ds, h => by
    unfold lookAll at h
    cases z1 : look t env with
    | none => rw [z1] at h; cases h
    | some d =>
      cases z2 : lookAll ts env with
      | none => rw [z1, z2] at h; cases h
      | some ds' =>
        rw [z1, z2] at h
        cases h
        obtain ⟨e1, f1, l1⟩ := look_force z1
        have same : ∀ us : List Tk, lookAll us e1 = lookAll us env := by
          intro us
          induction us with
          | nil => rfl
          | cons u us ih => unfold lookAll; rw [l1, ih]
        obtain ⟨e2, f2⟩ := lookAll_force (env := e1) ((same ts).trans z2)
        exact ⟨e2, by unfold forceAll; rw [f1]; dsimp only; rw [f2]⟩
theorem rpl_flat {C : Ct} {H H' : Hp} : ∀ {ds : List D} {vs : List V}, ds.all D.flat = true → RpL C H ds vs → RpL C H' ds vs
  | [], _, _, h => by unfold RpL at h ⊢; exact h
  | d :: ds, _, f, h => by
    obtain ⟨v, r, rfl, h1, h2⟩ := h.inv
    rw [List.all_cons, Bool.and_eq_true] at f
    exact .cons (rp_flat f.1 h1) (rpl_flat f.2 h2)
/-- behind a call: what it handed back, seen by the caller -/
theorem RE.back {C : Ct} {xa : Xa} {G : Hp} {env : Env} {σ : L2.St} {Hk Hk' H H' : Hp} (r : RE C xa G env σ Hk H) (k : Kx H Hk Hk') (e1 : Ex Hk' H') (e2 : Ex H H') : RE C xa G env σ Hk' H' ∧ Kx G Hk Hk' := by
  refine ⟨(r.ext e2).know k.ex e1 fun i d a hi hs => ?_, k.ex, fun b o h1 h2 => r.g.back (k.new b o h1 h2)⟩
  obtain ⟨g1, g2⟩ := r.owAt hi hs
  cases z : Hk' a with
  | none => rfl
  | some o =>
    obtain ⟨u, hu, _⟩ := g2.at
    rw [k.new a o z g1] at hu
    cases hu
theorem bk_rt {C : Ct} {xa : Xa} {G : Hp} {env : Env} {σ : L2.St} {Hk Hk' H H' : Hp} {nw : Bool} {d : D} {v : V} (r : RE C xa G env σ Hk H) (b : Bk C H Hk' H' nw d v) : RT C G env σ Hk' H' (tkOf nw d) v := by
  cases nw with
  | false => exact b
  | true =>
    obtain ⟨a, rfl, h1, h2⟩ := b
    refine ⟨a, rfl, h1, h2.gmono r.g, fun i d' hi hs => ?_⟩
    obtain ⟨g1, g2⟩ := r.owAt hi hs
    obtain ⟨u, hu, _⟩ := g2.at
    rw [h2.g] at hu
    cases hu
theorem bk_apart {C : Ct} {xa : Xa} {G : Hp} {env : Env} {σ : L2.St} {Hk Hk' H H' : Hp} {nw : Bool} {d : D} {v : V} (r : RE C xa G env σ Hk H) (ap : apart nw d = true) (b : Bk C H Hk' H' nw d v) : RT C G env σ Hk H' (tkOf nw d) v := by
  unfold apart at ap
  rw [Bool.or_eq_true] at ap
  cases nw with
  | false =>
    have f : d.flat = true := by
      rcases ap with f | f
      · exact f
      · simp at f
    exact rp_flat f b
  | true =>
    obtain ⟨a, rfl, h1, h2⟩ := b
    have hn : Hk a = none := r.hk.back h2.g
    refine ⟨a, rfl, hn, ?_, fun i d' hi hs => ?_⟩
    · cases d with
      | lst xs =>
        have f : xs.all D.flat = true := by
          rcases ap with f | f
          · cases f
          · simpa using f
        obtain ⟨g, vs, z1, z2⟩ := h2
        exact ⟨r.g.back g, vs, z1, rpl_flat f z2⟩
      | ins c ns xs =>
        rcases ap with f | f
        · cases f
        · simp at f
      | dic ks xs =>
        rcases ap with f | f
        · cases f
        · simp at f
      | _ => exact h2.elim
    · obtain ⟨g1, g2⟩ := r.owAt hi hs
      obtain ⟨u, hu, _⟩ := g2.at
      rw [h2.g] at hu
      cases hu
theorem rpx_flat {C : Ct} {Hk Hk' H : Hp} {c : Nat} {ns : List Str} {ds : List D} {cls : Value} {dd : Option Addr} (f : ds.all D.flat = true) (h : RpX C Hk H c ns ds cls dd) : RpX C Hk' H c ns ds cls dd := by
  obtain ⟨h1, h | ⟨d, vs, h2, h3, h4, h5⟩⟩ := h
  · exact ⟨h1, .inl h⟩
  · exact ⟨h1, .inr ⟨d, vs, h2, h3, h4, rpl_flat f h5⟩⟩
/-- the callee's promise serves the call -/
theorem callF_go {F : List D → Rf} {np : Nat} {ts : List Tk} {e : Env} {σ : L2.St} {Hk G H : Hp} {vs : List V} {Q : VK} (re : RE (y.ct X) y.xa G e σ Hk H) (rs : RVs (y.ct X) σ Hk ts vs) (hn : vs.length = np)
    (q : PoE (y.ct X) y.xa y.W G σ Hk (match lookAll ts e with
      | none => .bad
      | some ds => match F ds with
        | .ok nw d _ => if apart nw d = true then .ok (tkOf nw d) e else match forceAll ts e with
          | .ok _ e => .ok (tkOf nw d) e
          | _ => .bad
        | .ex c ns xs _ => if xs.all D.flat = true then .ex c ns xs e else match forceAll ts e with
          | .ok _ e => .ex c ns xs e
          | _ => .bad
        | .bad => .bad) Q) : spF (y.ct X) np F vs H Q (WE y.W σ) := by
  cases z : lookAll ts e with
  | none => rw [z] at q; exact q.elim
  | some ds =>
    rw [z] at q
    dsimp only at q
    obtain ⟨e2, z2⟩ := lookAll_force z
    obtain ⟨Hk2, k2, r2, hl⟩ := RVs.force re rs z2
    refine ⟨hn, ds, Hk2, r2.hk, hl, ?_⟩
    cases z3 : F ds with
    | ok nw d p =>
      rw [z3] at q
      dsimp only at q ⊢
      intro v Hk' H' k1 x1 x2 b
      by_cases ap : apart nw d = true
      · rw [if_pos ap] at q
        exact q v Hk H' (Kx.refl _ _) (re.ext x2) (bk_apart re ap b)
      · rw [if_neg ap, z2] at q
        obtain ⟨r3, k3⟩ := r2.back k1 x1 x2
        exact q v Hk' H' (k2.trans k3) r3 (bk_rt r2 b)
    | ex c ns xs p =>
      rw [z3] at q
      dsimp only at q ⊢
      intro cls dd Hk' H' k1 x1 x2 b
      by_cases ap : xs.all D.flat = true
      · rw [if_pos ap] at q
        exact q cls dd Hk H' (Kx.refl _ _) (re.ext x2) (rpx_flat ap b)
      · rw [if_neg ap, z2] at q
        obtain ⟨r3, k3⟩ := r2.back k1 x1 x2
        exact q cls dd Hk' H' (k2.trans k3) r3 b
    | bad => rw [z3] at q; exact q.elim
variable {F : List D → Rf} {k : Nat} {f : Addr} {fd : FuncData} {ps : List Str} {x : Str}
theorem RVs.len {C : Ct} {σ : L2.St} {Hk : Hp} {ts : List Tk} {vs : List V} (h : RVs C σ Hk ts vs) : ts.length = vs.length := by
  induction h with
  | nil => rfl
  | cons _ _ ih => simp [ih]
/-- how many tokens an argument list makes -/
def Many (ma : M (List Tk)) (n : Nat) : Prop := ∀ env ts e, ma env = .ok ts e → ts.length = n
theorem many_nil : Many mNil 0 := fun env ts e h => by cases h; rfl
theorem many_cons {n : Nat} (h : Many ma n) : Many (mCons m ma) (n + 1) := fun env ts e z => by
  unfold mCons mBind at z
  cases z1 : m env with
  | ok t e1 =>
    rw [z1] at z
    dsimp only at z
    cases z2 : ma e1 with
    | ok ts' e2 => rw [z2] at z; cases z; simp [h _ _ _ z2]
    | ex c ns ds e2 => rw [z2] at z; cases z
    | bad => rw [z2] at z; cases z
  | ex c ns ds e1 => rw [z1] at z; cases z
  | bad => rw [z1] at z; cases z
/-- as pa_bind, with the number of tokens -/
theorem pa_bindN {n : Nat} (hm : Many ma n) {f : List Tk → M Tk} {env : Env} {G : Hp} {σ : L2.St} {Hk : Hp} {Q : VK} {R : List V → Hp → Prop} (q : PoE (y.ct X) y.xa y.W G σ Hk (mBind ma f env) Q)
    (k : ∀ ts e vs Hk' H1, Kx G Hk Hk' → RE (y.ct X) y.xa G e σ Hk' H1 → RVs (y.ct X) σ Hk' ts vs → ts.length = n → PoE (y.ct X) y.xa y.W G σ Hk' (f ts e) Q → R vs H1) : PoA (y.ct X) y.xa y.W G σ Hk (ma env) R := by
  unfold mBind at q
  cases e : ma env with
  | ok t e1 => rw [e] at q; exact fun v Hk' H' k' r' h' => k t e1 v Hk' H' k' r' h' (hm _ _ _ e) (q.kx k')
  | ex c ns ds e1 => rw [e] at q; exact q
  | bad => rw [e] at q; exact q
theorem px_call (FO : FnOk X.prog X.w X.K X.mg X.base (L2.CX X.prog X.w) k f fd ps (spF (y.ct X) ps.length F)) (hr : Room k X.A) (hm : X.mg x = some (.ref f)) (hk : PySem.W.keepIn X.K (.ref f) = true) (hb : Binds X.K fd ps []) (tk : Takes X y.W)
    (hn : Many ma ps.length) (ha : PAs X y (e :: es) ma) (hg : Gl X x := by rfl) (hdb : (x == ("__debug__" : Str)) = false := by decide) (he : starEach (e :: es) X.env = (false, eval e X.env) :: starEach es X.env := by rfl) (hpl : (backTo pos (starEach es X.env)).any (·.1) = false := by rfl) :
    PX X y (.Call (.Name x p) (e :: es) [] pos) (mCallF F ma) :=
  ⟨PE_imp (pe_callSD FO hr hg hm hk hb .nil (fun σ => passAt tk σ) ha.pa hdb he hpl) fun σ H Q ⟨env, Hk, G, re, q⟩ => ⟨env, Hk, G, re, pa_bindN hn q fun ts e vs Hk' H1 k1 r1 rs hl q1 => by
    rw [List.append_nil]
    exact callF_go r1 rs (by rw [← rs.len]; exact hl) q1⟩⟩
end
end VM

set_option Elab.async false
set_option linter.all false
set_option maxRecDepth 100000
set_option maxHeartbeats 1000000
/-! VM 6: statements, loops -/
namespace VM
open PySem PySem.Spec PyProof.Rows L2
inductive Fl where
  | nx | bk | ct | rt (t : Tk)
section
variable (C : Ct) (xa : Xa) (W : WX) (G : Hp) (Hk : Hp)
def PoXS (c : Nat) (ns : List Str) (ds : List D) (e : Env) : Prop := ∀ cls dd σ' Hk' H', Kx G Hk Hk' → RE C xa G e σ' Hk' H' → RpX C Hk' H' c ns ds cls dd → W cls dd σ' H'
def PoS (r : Rs Fl) (D : Ends) : Prop := match r with
  | .ok .nx e => ∀ σ' Hk' H', Kx G Hk Hk' → RE C xa G e σ' Hk' H' → D.nx σ' H'
  | .ok .bk e => ∀ σ' Hk' H', Kx G Hk Hk' → RE C xa G e σ' Hk' H' → D.bk σ' H'
  | .ok .ct e => ∀ σ' Hk' H', Kx G Hk Hk' → RE C xa G e σ' Hk' H' → D.ct σ' H'
  | .ok (.rt t) e => ∀ v σ' Hk' H', Kx G Hk Hk' → RE C xa G e σ' Hk' H' → RT C G e σ' Hk' H' t v → D.rt v H'
  | .ex c ns ds e => PoXS C xa W G Hk c ns ds e
  | .bad => False
end
theorem PoXS.kx {C : Ct} {xa : Xa} {W : WX} {G Hk Hk' : Hp} {c : Nat} {ns : List Str} {ds : List D} {e : Env} (k : Kx G Hk Hk') (h : PoXS C xa W G Hk c ns ds e) : PoXS C xa W G Hk' c ns ds e :=
  fun cls dd σ' H2 H' k2 => h cls dd σ' H2 H' (k.trans k2)
theorem PoXS.at {C : Ct} {xa : Xa} {W : WX} {G Hk : Hp} {c : Nat} {ns : List Str} {ds : List D} {e : Env} {σ : L2.St} (h : PoXS C xa W G Hk c ns ds e) : PoX C xa W G σ Hk c ns ds e :=
  fun cls dd Hk' H' => h cls dd σ Hk' H'
theorem PoS.kx {C : Ct} {xa : Xa} {W : WX} {G Hk Hk' : Hp} {r : Rs Fl} {D : Ends} (k : Kx G Hk Hk') (h : PoS C xa W G Hk r D) : PoS C xa W G Hk' r D := by
  cases r with
  | ok f e =>
    cases f with
    | nx => exact fun σ' H2 H' k2 => h σ' H2 H' (k.trans k2)
    | bk => exact fun σ' H2 H' k2 => h σ' H2 H' (k.trans k2)
    | ct => exact fun σ' H2 H' k2 => h σ' H2 H' (k.trans k2)
    | rt t => exact fun v σ' H2 H' k2 => h v σ' H2 H' (k.trans k2)
  | ex c ns ds e => exact PoXS.kx k h
  | bad => exact h
section
variable (X : Cx) (y : Y)
def tS (m : M Fl) : TS := fun D σ H => ∃ env Hk G, RE (y.ct X) y.xa G env σ Hk H ∧ PoS (y.ct X) y.xa y.W G Hk (m env) D
structure PSx (st : Stmt) (m : M Fl) : Prop where
  ps : PS X st (tS X y m)
structure PSSx (st : List Stmt) (m : M Fl) : Prop where
  pss : PSs X st (tS X y m)
end
section
variable {X : Cx} {y : Y} {a b c e : Expr} {st : Stmt} {sts sts2 : List Stmt} {m m1 m2 : M Tk} {n : M Bool} {f f1 f2 : M Fl} {pos p p2 : Pos}
/-- an expression, then a statement's rest -/
theorem ps_bind {g : Tk → M Fl} {env : Env} {G : Hp} {σ : L2.St} {Hk : Hp} {D : Ends} {R : VK} (q : PoS (y.ct X) y.xa y.W G Hk (mBind m g env) D)
    (k : ∀ t e v Hk' H1, Kx G Hk Hk' → RE (y.ct X) y.xa G e σ Hk' H1 → RT (y.ct X) G e σ Hk' H1 t v → PoS (y.ct X) y.xa y.W G Hk' (g t e) D → R v H1) : PoE (y.ct X) y.xa y.W G σ Hk (m env) R := by
  unfold mBind at q
  cases e : m env with
  | ok t e1 => rw [e] at q; exact fun v Hk' H' k' r' h' => k t e1 v Hk' H' k' r' h' (q.kx k')
  | ex c ns ds e1 => rw [e] at q; exact PoXS.at q
  | bad => rw [e] at q; exact q
theorem bs_bind {g : Bool → M Fl} {env : Env} {G : Hp} {σ : L2.St} {Hk : Hp} {D : Ends} {R : Bool → Hp → Prop} (q : PoS (y.ct X) y.xa y.W G Hk (mBind n g env) D)
    (k : ∀ t e Hk' H1, Kx G Hk Hk' → RE (y.ct X) y.xa G e σ Hk' H1 → PoS (y.ct X) y.xa y.W G Hk' (g t e) D → R t H1) : PoB (y.ct X) y.xa y.W G σ Hk (n env) R := by
  unfold mBind at q
  cases e : n env with
  | ok t e1 => rw [e] at q; exact fun Hk' H' k' r' => k t e1 Hk' H' k' r' (q.kx k')
  | ex c ns ds e1 => rw [e] at q; exact PoXS.at q
  | bad => rw [e] at q; exact q
def mNext : M Fl := fun env => .ok .nx env
def mSeq (f1 f2 : M Fl) : M Fl := fun env => match f1 env with
  | .ok .nx e => f2 e
  | r => r
theorem pssx_nil : PSSx X y [] mNext := ⟨PSs_imp pss_nil fun D σ H ⟨env, Hk, G, re, q⟩ => q σ Hk H (Kx.refl _ _) re⟩
theorem pssx_one (h : PSx X y st f) : PSSx X y [st] f := ⟨pss_one h.ps⟩
theorem pssx_cons (h : PSx X y st f1) (r : PSSx X y sts f2) : PSSx X y (st :: sts) (mSeq f1 f2) := by
  refine ⟨PSs_imp (pss_cons h.ps r.pss) fun D σ H ⟨env, Hk, G, re, q⟩ => ⟨env, Hk, G, re, ?_⟩⟩
  unfold mSeq at q
  cases z : f1 env with
  | ok fl e1 =>
    rw [z] at q
    cases fl with
    | nx => exact fun σ' Hk' H' k' r' => ⟨e1, Hk', G, r', q.kx k'⟩
    | bk => exact q
    | ct => exact q
    | rt t => exact q
  | ex c ns ds e1 => rw [z] at q; exact q
  | bad => rw [z] at q; exact q
theorem psx_pass : PSx X y (.Pass pos) mNext := ⟨PS_imp ps_pass fun D σ H ⟨env, Hk, G, re, q⟩ => q σ Hk H (Kx.refl _ _) re⟩
def mBreak : M Fl := fun env => .ok .bk env
def mCont : M Fl := fun env => .ok .ct env
theorem psx_break : PSx X y (.Break pos) mBreak := ⟨PS_imp ps_break fun D σ H ⟨env, Hk, G, re, q⟩ => q σ Hk H (Kx.refl _ _) re⟩
theorem psx_cont : PSx X y (.Continue pos) mCont := ⟨PS_imp ps_continue fun D σ H ⟨env, Hk, G, re, q⟩ => q σ Hk H (Kx.refl _ _) re⟩
theorem psx_doc {s : Str} {j : Nat} : PSx X y (.Expr (.Constant (.str s) j p) pos) mNext := ⟨PS_imp ps_doc fun D σ H ⟨env, Hk, G, re, q⟩ => q σ Hk H (Kx.refl _ _) re⟩
def mRet (m : M Tk) : M Fl := mBind m fun t env => .ok (.rt t) env
theorem psx_ret (h : PX X y e m) : PSx X y (.Return (some e) pos) (mRet m) :=
  ⟨PS_imp (ps_ret h.pe) fun D σ H ⟨env, Hk, G, re, q⟩ => ⟨env, Hk, G, re, ps_bind q fun t e v Hk' H1 k1 r1 rt1 q1 => q1 v σ Hk' H1 (Kx.refl _ _) r1 rt1⟩⟩
def mRetN : M Fl := fun env => .ok (.rt (.val .non)) env
theorem psx_retN : PSx X y (.Return none pos) mRetN := ⟨PS_imp ps_retN fun D σ H ⟨env, Hk, G, re, q⟩ => q .non σ Hk H (Kx.refl _ _) re (rp_non (C := y.ct X) (H := Hk))⟩
def mDrop (m : M Tk) : M Fl := mBind m fun _ env => .ok .nx env
theorem psx_expr (h : PX X y e m) (hs : swapsWith e none pos.line X.env = pure false := by rfl) : PSx X y (.Expr e pos) (mDrop m) :=
  ⟨PS_imp (ps_expr h.pe hs) fun D σ H ⟨env, Hk, G, re, q⟩ => ⟨env, Hk, G, re, ps_bind q fun t e v Hk' H1 k1 r1 rt1 q1 => q1 σ Hk' H1 (Kx.refl _ _) r1⟩⟩
def mIfS (n : M Bool) (f1 f2 : M Fl) : M Fl := mBind n fun b => if b = true then f1 else f2
theorem psx_if (hc : PB X y c n) (ha : PSSx X y sts f1) (hb : PSSx X y sts2 f2) : PSx X y (.If c sts sts2 pos) (mIfS n f1 f2) :=
  ⟨PS_imp (ps_if hc.pt ha.pss hb.pss) fun D σ H ⟨env, Hk, G, re, q⟩ => ⟨env, Hk, G, re, bs_bind q fun b e Hk' H1 k1 r1 q1 => by
    cases b with
    | true => rw [if_pos rfl] at q1; rw [if_pos rfl]; exact ⟨e, Hk', G, r1, q1⟩
    | false => rw [if_neg Bool.false_ne_true] at q1; rw [if_neg Bool.false_ne_true]; exact ⟨e, Hk', G, r1, q1⟩⟩⟩
/-! ### stores -/
def store (i : Nat) (t : Tk) : M Fl := fun env => match t with
  | .new d => .ok .nx (env.set i (.ow d))
  | t => match force t env with
    | .ok d e => .ok .nx (e.set i (.sh d))
    | _ => .bad
def mAsg (i : Nat) (m : M Tk) : M Fl := mBind m (store i)
theorem store_go {i : Nat} {t : Tk} {e : Env} {σ : L2.St} {Hk G H : Hp} {v : V} {D : Ends} (h0 : i ≠ 0 ∨ y.xa.p = none) (re : RE (y.ct X) y.xa G e σ Hk H) (rt : RT (y.ct X) G e σ Hk H t v) (q : PoS (y.ct X) y.xa y.W G Hk (store i t e) D) : D.nx (σ.set i (some v)) H := by
  have other : ∀ t : Tk, RT (y.ct X) G e σ Hk H t v → PoS (y.ct X) y.xa y.W G Hk (match force t e with
    | .ok d e => .ok .nx (e.set i (.sh d))
    | _ => .bad) D → D.nx (σ.set i (some v)) H := fun t rt q => by
    rcases force_cases t e with ⟨d, e1, z⟩ | z
    · rw [z] at q
      obtain ⟨Hk', k', r', rd⟩ := rt.force re z
      exact q _ Hk' H k' (r'.setSh rd)
    · rw [z] at q; exact q.elim
  cases t with
  | val d => exact other (.val d) rt q
  | slot k => exact other (.slot k) rt q
  | new d =>
    obtain ⟨a, rfl, h1, h2, h3⟩ := rt
    exact q _ Hk H (Kx.refl _ _) (re.setOw h0 h1 h2 h3)
theorem psx_set {i : Nat} {x : Str} (hN : X.N.Nodup) (h : PX X y e m) (h0 : i ≠ 0 ∨ y.xa.p = none := by first | exact .inl (by decide) | exact .inr rfl) (hi : X.N[i]? = some x := by rfl) (hx : Loc X.env.scope x := by first | exact Or.inl rfl | exact Or.inr rfl) (hs : swapsWith e (some (.Name x p)) pos.line X.env = pure false := by rfl)
    (hf : X.fn x = true ∨ X.env.scope.names.lookup x = some .local := by first | exact .inl rfl | exact .inr rfl) : PSx X y (.Assign [.Name x p] e pos) (mAsg i m) :=
  ⟨PS_imp (ps_set hN hi hx h.pe hs hf) fun D σ H ⟨env, Hk, G, re, q⟩ => ⟨env, Hk, G, re, ps_bind q fun t e v Hk' H1 k1 r1 rt1 q1 => store_go h0 r1 rt1 q1⟩⟩
/-! ### targets: what they store of known data; sl: the slots that may change -/
def tG (X : Cx) (y : Y) (sl : List Nat) (g : D → Env → Option Env) : TG := fun v σ H Q => ∃ env Hk G d, RE (y.ct X) y.xa G env σ Hk H ∧ Rp (y.ct X) Hk d v ∧ match g d env with
  | some e => ∀ σ', RE (y.ct X) y.xa G e σ' Hk H → σ'.length = σ.length → (∀ i, i ∉ sl → σ'[i]? = σ[i]?) → Q σ' H
  | none => False
def tGs (X : Cx) (y : Y) (sl : List Nat) (g : List D → Env → Option Env) : TGs := fun vs σ H Q => ∃ env Hk G ds, RE (y.ct X) y.xa G env σ Hk H ∧ RpL (y.ct X) Hk ds vs ∧ match g ds env with
  | some e => ∀ σ', RE (y.ct X) y.xa G e σ' Hk H → σ'.length = σ.length → (∀ i, i ∉ sl → σ'[i]? = σ[i]?) → Q σ' H
  | none => False
structure PGx (X : Cx) (y : Y) (e : Expr) (sl : List Nat) (g : D → Env → Option Env) : Prop where
  pg : PG X e (tG X y sl g)
structure PGsx (X : Cx) (y : Y) (es : List Expr) (sl : List Nat) (g : List D → Env → Option Env) : Prop where
  pgs : PGs X es (tGs X y sl g)
theorem PG_imp {e : Expr} {t t' : TG} (h : PG X e t) (f : ∀ v σ H Q, t' v σ H Q → t v σ H Q) : PG X e t' := ⟨fun pins s σ H v u Q I r q => h.run pins s σ H v u Q I r (f v σ H Q q)⟩
theorem PGs_imp {es : List Expr} {t t' : TGs} (h : PGs X es t) (f : ∀ v σ H Q, t' v σ H Q → t v σ H Q) : PGs X es t' := ⟨fun pins s σ H v u Q I r q => h.run pins s σ H v u Q I r (f v σ H Q q)⟩
def gN (i : Nat) : D → Env → Option Env := fun d env => some (env.set i (.sh d))
theorem pgx_name {i : Nat} {x : Str} (hN : X.N.Nodup) (hi : X.N[i]? = some x := by rfl) (hx : Loc X.env.scope x := by first | exact Or.inl rfl | exact Or.inr rfl) (hf : X.fn x = true ∨ X.env.scope.names.lookup x = some .local := by first | exact .inl rfl | exact .inr rfl) : PGx X y (.Name x p) [i] (gN i) :=
  ⟨PG_imp (pg_name hN hi hx hf) fun v σ H Q ⟨env, Hk, G, d, re, rd, q⟩ => q _ (re.setSh rd) (by simp) fun j hj => by
    rw [List.getElem?_set_ne]
    intro h
    exact hj (by simp [h])⟩
def gs0 : List D → Env → Option Env := fun ds env => match ds with
  | [] => some env
  | _ => none
def gs1 (g : D → Env → Option Env) (gs : List D → Env → Option Env) : List D → Env → Option Env := fun ds env => match ds with
  | d :: r => match g d env with
    | some e => gs r e
    | none => none
  | [] => none
theorem pgsx_nil : PGsx X y [] [] gs0 := ⟨PGs_imp pgs_nil fun vs σ H Q ⟨env, Hk, G, ds, re, rd, q⟩ => by
  unfold gs0 at q
  cases ds with
  | nil => unfold RpL at rd; exact ⟨rd, q σ re rfl fun _ _ => rfl⟩
  | cons => exact q.elim⟩
theorem pgsx_cons {es : List Expr} {sl sl' : List Nat} {g : D → Env → Option Env} {gs : List D → Env → Option Env} (h : PGx X y e sl g) (hr : PGsx X y es sl' gs)
    (hs : (assignEach (e :: es) X.env).map (·.2) = assign e X.env :: (assignEach es X.env).map (·.2) := by rfl) : PGsx X y (e :: es) (sl ++ sl') (gs1 g gs) :=
  ⟨PGs_imp (pgs_cons h.pg hr.pgs hs) fun vs σ H Q ⟨env, Hk, G, ds, re, rd, q⟩ => by
    unfold gs1 at q
    cases ds with
    | nil => exact q.elim
    | cons d ds =>
      obtain ⟨v, r, rfl, h1, h2⟩ := rd.inv
      refine ⟨v, r, rfl, env, Hk, G, d, re, h1, ?_⟩
      dsimp only at q
      cases z : g d env with
      | none => rw [z] at q; exact q.elim
      | some e1 =>
        rw [z] at q
        dsimp only at q ⊢
        intro σ1 r1 l1 s1
        refine ⟨e1, Hk, G, ds, r1, h2, ?_⟩
        cases z2 : gs ds e1 with
        | none => rw [z2] at q; exact q.elim
        | some e2 =>
          rw [z2] at q
          dsimp only at q ⊢
          intro σ2 r2 l2 s2
          refine q σ2 r2 (l2.trans l1) fun i hi => ?_
          rw [List.mem_append, not_or] at hi
          rw [s2 i hi.2, s1 i hi.1]⟩
def gT (n : Nat) (gs : List D → Env → Option Env) : D → Env → Option Env := fun d env => match d with
  | .tup ds => if ds.length = n then gs ds env else none
  | _ => none
theorem pgx_tup {es : List Expr} {k : Nat} {sl : List Nat} {gs : List D → Env → Option Env} {n : Nat} (hc : X.calm = true) (h : PGsx X y es sl gs)
    (hn : (assignEach es X.env).length = n := by rfl) (hst : (assignEach es X.env).findIdx? (·.1) = none := by rfl) : PGx X y (.Tuple es k pos) sl (gT n gs) :=
  ⟨PG_imp (pg_tup hc h.pgs hn hst) fun v σ H Q ⟨env, Hk, G, d, re, rd, q⟩ => by
    unfold gT at q
    cases d with
    | tup ds =>
      dsimp only at q
      unfold Rp at rd
      obtain ⟨a, vs, rfl, h1, h2⟩ := rd
      by_cases hl : ds.length = n
      · rw [if_pos hl] at q
        refine ⟨a, vs, rfl, sqT (re.hk _ _ h1), by rw [← h2.len]; exact hl, env, Hk, G, ds, re, h2, ?_⟩
        cases z2 : gs ds env with
        | none => rw [z2] at q; exact q.elim
        | some e => rw [z2] at q; exact q
      · rw [if_neg hl] at q; exact q.elim
    | _ => exact q.elim⟩
def mAsgG (g : D → Env → Option Env) (m : M Tk) : M Fl := mBind m fun t env => match force t env with
  | .ok d e => match g d e with
    | some e2 => .ok .nx e2
    | none => .bad
  | _ => .bad
theorem psx_asg {tg : Expr} {sl : List Nat} {g : D → Env → Option Env} (h : PX X y e m) (hg : PGx X y tg sl g) (hs : swapsWithSole [tg] e pos.line X.env = pure false := by rfl) (hw : swappedStores [tg] e X.env = pure none := by rfl)
    (h1 : (assignEach [tg] X.env).map (·.2) = [assign tg X.env] := by rfl) : PSx X y (.Assign [tg] e pos) (mAsgG g m) :=
  ⟨PS_imp (ps_asg h.pe hg.pg hs hw h1) fun D σ H ⟨env, Hk, G, re, q⟩ => ⟨env, Hk, G, re, ps_bind q fun t e v Hk' H1 k1 r1 rt1 q1 => by
    rcases force_cases t e with ⟨d, e1, z⟩ | z
    · rw [z] at q1
      dsimp only at q1
      obtain ⟨Hk2, k2, r2, rd⟩ := rt1.force r1 z
      refine ⟨e1, Hk2, G, d, r2, rd, ?_⟩
      cases z2 : g d e1 with
      | none => rw [z2] at q1; exact q1.elim
      | some e2 => rw [z2] at q1; exact fun σ' r' _ _ => q1 σ' Hk2 H1 k2 r'
    · rw [z] at q1; exact q1.elim⟩⟩
end
end VM

set_option Elab.async false
set_option linter.all false
set_option maxRecDepth 100000
set_option maxHeartbeats 1000000
/-! VM 7: lists that change, what is walked, for, while, comprehensions -/
namespace VM
open PySem PySem.Spec PyProof.Rows L2
section
variable {X : Cx} {y : Y} {a b c e : Expr} {es : List Expr} {st : Stmt} {sts sts2 : List Stmt} {m m1 m2 mi : M Tk} {ma : M (List Tk)} {n : M Bool} {f f1 f2 : M Fl} {pos p p2 p3 : Pos}
def lim : Nat := 1000000
theorem lim_line {k : Nat} (h : k < lim) : k < sizeLine := Nat.lt_of_lt_of_le h (by decide)
/-- the list that slot k owns -/
def owL (k : Nat) (env : Env) : Option (List D) := match env[k]? with
  | some (.ow (.lst xs)) => some xs
  | _ => none
theorem owL_at {k : Nat} {env : Env} {xs : List D} (h : owL k env = some xs) : env[k]? = some (.ow (.lst xs)) := by
  unfold owL at h
  split at h
  · rename_i z; cases h; exact z
  · cases h
/-- x.append(e) -/
def mApp (k : Nat) (m : M Tk) : M Tk := fun env => match owL k env with
  | none => .bad
  | some _ => mBind m (fun t env => match force t env with
    | .ok d e => match owL k e with
      | some xs => if xs.length < lim then .ok (.val .non) (e.set k (.ow (.lst (xs ++ [d])))) else .bad
      | none => .bad
    | _ => .bad) env
theorem px_app {k : Nat} {o : Expr} (ho : PE X o (tVar k)) (h : PX X y e m) (hs : PE X (.Call (.Attribute o "append" p) [e] [] pos) (tBM X.K "list" rAppend (tVar k) (tCons (tE X y m) tNil))) : PX X y (.Call (.Attribute o "append" p) [e] [] pos) (mApp k m) := by
  refine ⟨PE_imp hs fun σ H Q ⟨env, Hk, G, re, q⟩ => ?_⟩
  unfold mApp at q
  cases z : owL k env with
  | none => rw [z] at q; exact q.elim
  | some xs0 =>
    rw [z] at q
    obtain ⟨l, hl, _, _, vs0, g1, _⟩ := re.ow k _ (owL_at z)
    refine ⟨.ref l, hl, .inl ⟨rfl, vs0, sqL g1⟩, env, Hk, G, re, po_bind q fun t e v Hk' H1 k1 r1 rt1 q1 => ?_⟩
    rcases force_cases t e with ⟨d, e1, z1⟩ | z1
    · rw [z1] at q1
      dsimp only at q1
      obtain ⟨Hk2, k2, r2, rd⟩ := rt1.force r1 z1
      cases z2 : owL k e1 with
      | none => rw [z2] at q1; exact q1.elim
      | some xs =>
        rw [z2] at q1
        dsimp only at q1
        split at q1
        · rename_i hlen
          obtain ⟨l', hl', w1, w2, vs, w3, w4⟩ := r2.ow k _ (owL_at z2)
          rw [hl] at hl'
          cases hl'
          refine ⟨l, vs, v, rfl, rfl, w3, by rw [← w4.len]; exact lim_line hlen, ?_⟩
          exact q1 .non Hk2 _ k2 (r2.mut (owL_at z2) hl ⟨w2, _, upd_same, w4.append (.cons rd .nil)⟩) (rp_non (C := y.ct X) (H := Hk2))
        · exact q1.elim
    · rw [z1] at q1; exact q1.elim
/-- x[i] = e -/
def mSetI (k : Nat) (mi m : M Tk) : M Fl := mBind m fun t env => match force t env with
  | .ok d e1 => match owL k e1 with
    | none => .bad
    | some _ => mBind mi (fun ti e2 => match look ti e2, owL k e2 with
      | some (.int i), some xs => match ixN xs.length i with
        | some j => .ok .nx (e2.set k (.ow (.lst (xs.set j d))))
        | none => .bad
      | _, _ => .bad) e1
  | _ => .bad
theorem psx_setI {k : Nat} {o i : Expr} (h : PX X y e m) (hi : PX X y i mi) (hs : PS X (.Assign [.Subscript o i p] e pos) (tAsg (tE X y m) (gSub (tVar k) (tE X y mi) rSetL))) : PSx X y (.Assign [.Subscript o i p] e pos) (mSetI k mi m) := by
  refine ⟨PS_imp hs fun D σ H ⟨env, Hk, G, re, q⟩ => ⟨env, Hk, G, re, ps_bind q fun t e v Hk' H1 k1 r1 rt1 q1 => ?_⟩⟩
  rcases force_cases t e with ⟨d, e1, z1⟩ | z1
  · rw [z1] at q1
    dsimp only at q1
    obtain ⟨Hk2, k2, r2, rd⟩ := rt1.force r1 z1
    have q1 := q1.kx k2
    cases z : owL k e1 with
    | none => rw [z] at q1; exact q1.elim
    | some xs0 =>
      rw [z] at q1
      dsimp only at q1
      obtain ⟨l, hl, _, _, vs0, g1, _⟩ := r2.ow k _ (owL_at z)
      refine ⟨.ref l, hl, e1, Hk2, G, r2, ps_bind q1 fun ti e2 w Hk3 H3 k3 r3 rt3 q3 => ?_⟩
      cases z2 : look ti e2 with
      | none => rw [z2] at q3; exact q3.elim
      | some di =>
        rw [z2] at q3
        cases di with
        | int i =>
          cases z3 : owL k e2 with
          | none => rw [z3] at q3; exact q3.elim
          | some xs =>
            rw [z3] at q3
            dsimp only at q3
            cases z4 : ixN xs.length i with
            | none => rw [z4] at q3; exact q3.elim
            | some j =>
              rw [z4] at q3
              obtain ⟨l', hl', w1, w2, vs, w3, w4⟩ := r3.ow k _ (owL_at z3)
              rw [hl] at hl'
              cases hl'
              refine ⟨l, vs, i, j, rfl, (rt3.look r3 z2).int, w3, by rw [← w4.len]; exact z4, ?_⟩
              exact q3 σ Hk3 _ (Kx.refl _ _) (r3.mut (owL_at z3) hl ⟨w2, _, upd_same, w4.set (rd.mono k3.ex)⟩)
        | _ => exact q3.elim
  · rw [z1] at q1; exact q1.elim

/-! ### what is walked -/
/-- the iterator J gives ds, one after another -/
def Serv (C : Ct) (J : It) (Hk : Hp) (ds : List D) : Prop := ∀ (i : Nat) (Hk1 H : Hp), Ex Hk Hk1 → Ex Hk1 H → (∀ d, ds[i]? = some d → J.go i H ∧ ∀ x H', J.yld i H x H' → Res C Hk1 H (.val d) x H') ∧ (ds.length ≤ i → J.stop i H)
def PoI (C : Ct) (xa : Xa) (W : WX) (G : Hp) (σ : L2.St) (Hk : Hp) (r : Rs (List D)) (R : It → Hp → Prop) : Prop := match r with
  | .ok ds e => ∀ J Hk' H', Kx G Hk Hk' → RE C xa G e σ Hk' H' → Serv C J Hk' ds → R J H'
  | .ex c ns ds e => PoX C xa W G σ Hk c ns ds e
  | .bad => False
def tI (X : Cx) (y : Y) (m : M (List D)) : TI := fun σ H R => ∃ env Hk G, RE (y.ct X) y.xa G env σ Hk H ∧ PoI (y.ct X) y.xa y.W G σ Hk (m env) R
structure PIx (X : Cx) (y : Y) (tg e : Expr) (m : M (List D)) : Prop where
  pi : PI X tg e (tI X y m)
theorem PI_imp {tg e : Expr} {t t' : TI} (h : PI X tg e t) (f : ∀ σ H Q, t' σ H Q → t σ H Q) : PI X tg e t' := ⟨fun pins s σ H R I q => h.run pins s σ H R I (f σ H R q)⟩
theorem PI_or {tg e : Expr} {t t' : TI} (h : PI X tg e t) (h' : PI X tg e t') : PI X tg e (fun σ H R => t σ H R ∨ t' σ H R) := ⟨fun pins s σ H R I q => q.elim (h.run pins s σ H R I) (h'.run pins s σ H R I)⟩
variable {tg : Expr}
/-- a list, a tuple, the script -/
def mIter (m : M Tk) : M (List D) := mBind m fun t env => match force t env with
  | .ok (.lst xs) e => .ok xs e
  | .ok (.tup xs) e => .ok xs e
  | .ok (.scr ns) e => .ok (ns.map .int) e
  | _ => .bad
theorem serv_lst {C : Ct} {Hk : Hp} {a : Addr} {xs : List D} {vs : List V} (h : SqL C.K Hk a vs) (r : RpL C Hk xs vs) : Serv C (Itl C.K a) Hk xs := by
  intro i Hk1 H e1 e2
  have h1 : SqL C.K H a vs := ex_l (e1.trans e2) h
  refine ⟨fun d hd => ?_, fun hi => ⟨vs, h1, by rw [← r.len]; exact hi⟩⟩
  obtain ⟨v, hv, rv⟩ := r.get hd
  exact ⟨⟨vs, v, h1, hv⟩, fun x H' hy => by
    obtain ⟨rfl, hx⟩ := hy
    have := hx vs h1
    rw [hv] at this
    cases this
    exact res_flat (rv.mono e1) e2⟩
theorem serv_tup {C : Ct} {Hk : Hp} {a : Addr} {xs : List D} {vs : List V} (h : Hk a = some (.tup vs)) (r : RpL C Hk xs vs) : Serv C (Itt C.K a) Hk xs := by
  intro i Hk1 H e1 e2
  have h1 : SqT C.K H a vs := sqT (e2 _ _ (e1 _ _ h))
  refine ⟨fun d hd => ?_, fun hi => ⟨vs, h1, by rw [← r.len]; exact hi⟩⟩
  obtain ⟨v, hv, rv⟩ := r.get hd
  exact ⟨⟨vs, v, h1, hv⟩, fun x H' hy => by
    obtain ⟨rfl, hx⟩ := hy
    have := hx vs h1
    rw [hv] at this
    cases this
    exact res_flat (rv.mono e1) e2⟩
theorem pix_seq (h : PX X y e m) : PIx X y tg e (mIter m) := by
  refine ⟨PI_imp (PI_or (pi_list h.pe) (pi_tup h.pe)) fun σ H R ⟨env, Hk, G, re, q⟩ => ?_⟩
  unfold mIter mBind at q
  have key : ∀ t e1, m env = .ok t e1 → (∃ xs e2, force t e1 = .ok (.tup xs) e2) ∨ ¬ (∃ xs e2, force t e1 = .ok (.tup xs) e2) := fun t e1 _ => Classical.em _
  cases z : m env with
  | ok t e1 =>
    rw [z] at q
    dsimp only at q
    rcases key t e1 z with ⟨xs, e2, z2⟩ | nt
    · refine .inr ⟨env, Hk, G, re, ?_⟩
      rw [z]
      intro v Hk1 H1 k1 r1 rt1
      rw [z2] at q
      obtain ⟨Hk2, k2, r2, rd⟩ := rt1.force r1 z2
      unfold Rp at rd
      obtain ⟨a, vs, rfl, h1, h2⟩ := rd
      exact ⟨a, rfl, ⟨vs, sqT (r2.hk _ _ h1)⟩, q _ Hk2 H1 (k1.trans k2) r2 (serv_tup (C := y.ct X) h1 h2)⟩
    · refine .inl ⟨env, Hk, G, re, ?_⟩
      rw [z]
      intro v Hk1 H1 k1 r1 rt1
      rcases force_cases t e1 with ⟨d, e2, z2⟩ | z2
      · rw [z2] at q
        obtain ⟨Hk2, k2, r2, rd⟩ := rt1.force r1 z2
        cases d with
        | lst xs =>
          unfold Rp at rd
          obtain ⟨a, vs, rfl, h1, h2⟩ := rd
          exact ⟨a, rfl, ⟨vs, sqL (r2.hk _ _ h1)⟩, q _ Hk2 H1 (k1.trans k2) r2 (serv_lst (C := y.ct X) (sqL h1) h2)⟩
        | scr ns =>
          unfold Rp at rd
          obtain ⟨a, rfl, h1⟩ := rd
          exact ⟨a, rfl, ⟨_, ex_l r2.hk h1⟩, q _ Hk2 H1 (k1.trans k2) r2 (serv_lst (C := y.ct X) h1 ints_rpl)⟩
        | tup xs => exact absurd ⟨xs, e2, z2⟩ nt
        | _ => exact q.elim
      · rw [z2] at q; exact q.elim
  | ex c ns ds e1 =>
    rw [z] at q
    exact .inl ⟨env, Hk, G, re, by rw [z]; exact q⟩
  | bad => rw [z] at q; exact q.elim
/-- range(n), range(lo, n) -/
def rngD (lo : Int) (n : Nat) : List D := (List.range n).map fun i => .int (lo + (i : Nat))
theorem serv_rng {C : Ct} {Hk : Hp} {lo : Int} {n : Nat} : Serv C (Itr lo n) Hk (rngD lo n) := by
  intro i Hk1 H e1 e2
  refine ⟨fun d hd => ?_, fun hi => ?_⟩
  · unfold rngD at hd
    rw [List.getElem?_map] at hd
    cases z : (List.range n)[i]? with
    | none => rw [z] at hd; cases hd
    | some j =>
      rw [z] at hd
      cases hd
      obtain ⟨hl, hj⟩ := List.getElem?_eq_some_iff.mp z
      rw [List.getElem_range] at hj
      subst hj
      have hl' : i < n := by simpa using hl
      exact ⟨hl', fun x H' hy => by
        obtain ⟨rfl, rfl⟩ := hy
        exact res_flat rp_int e2⟩
  · unfold rngD at hi
    have hi' : n ≤ i := by simpa using hi
    exact hi'
def okR (i : Int) : Bool := decide (-(2 ^ 62) ≤ i ∧ i < 2 ^ 62)
def mRng (ma : M (List Tk)) : M (List D) := mBind ma fun ts env => match lookAll ts env with
  | some [.int n] => if okR n = true then .ok (rngD 0 n.toNat) env else .bad
  | some [.int lo, .int n] => if okR lo = true ∧ okR n = true then .ok (rngD lo (n - lo).toNat) env else .bad
  | _ => .bad
theorem ai_bind {g : List Tk → M (List D)} {env : Env} {G : Hp} {σ : L2.St} {Hk : Hp} {Q : It → Hp → Prop} {R : List V → Hp → Prop} (q : PoI (y.ct X) y.xa y.W G σ Hk (mBind ma g env) Q)
    (k : ∀ ts e vs Hk' H1, Kx G Hk Hk' → RE (y.ct X) y.xa G e σ Hk' H1 → RVs (y.ct X) σ Hk' ts vs → PoI (y.ct X) y.xa y.W G σ Hk' (g ts e) Q → R vs H1) : PoA (y.ct X) y.xa y.W G σ Hk (ma env) R := by
  unfold mBind at q
  cases e : ma env with
  | ok t e1 =>
    rw [e] at q
    refine fun v Hk' H' k' r' h' => k t e1 v Hk' H' k' r' h' ?_
    dsimp only at q
    cases z : g t e1 with
    | ok ds e2 => rw [z] at q; exact fun J H2 H3 k2 => q J H2 H3 (k'.trans k2)
    | ex c ns ds e2 => rw [z] at q; exact PoX.kx k' q
    | bad => rw [z] at q; exact q
  | ex c ns ds e1 => rw [e] at q; exact q
  | bad => rw [e] at q; exact q
theorem paired1 {C : Ct} {Hk H : Hp} {n : Int} {vs : List V} (h : Paired (fun d v => Pk C Hk H d v) [D.int n] vs) : vs = [.int n] := by
  cases h with
  | cons h1 h2 => cases h2; rw [h1.int]
theorem paired2 {C : Ct} {Hk H : Hp} {n k : Int} {vs : List V} (h : Paired (fun d v => Pk C Hk H d v) [D.int n, D.int k] vs) : vs = [.int n, .int k] := by
  cases h with
  | cons h1 h2 =>
    cases h2 with
    | cons h2 h3 => cases h3; rw [h1.int, h2.int]
theorem okR_at {i : Int} (h : okR i = true) : -(2 ^ 62) ≤ i ∧ i < 2 ^ 62 := of_decide_eq_true h
theorem pix_rng1 (hm : X.mg "range" = none) (ha : PAs X y [a] ma) (hn : Many ma 1) (hg : Gl X "range" := by rfl) (hs : starEach [a] X.env = [(false, eval a X.env)] := by rfl) : PIx X y tg (.Call (.Name "range" p) [a] [] pos) (mRng ma) := by
  refine ⟨PI_imp (pi_range1 hg hm ha.pa hs) fun σ H R ⟨env, Hk, G, re, q⟩ => ⟨env, Hk, G, re, ?_⟩⟩
  have hl : ∀ ts e, ma env = .ok ts e → ts.length = 1 := fun ts e z => hn _ _ _ z
  unfold mRng at q
  cases z0 : ma env with
  | ok ts e1 =>
    have q' := q
    unfold mBind at q'
    rw [z0] at q'
    dsimp only at q'
    intro vs Hk1 H1 k1 r1 rs
    cases z : lookAll ts e1 with
    | none => rw [z] at q'; exact q'.elim
    | some ds =>
      rw [z] at q'
      have hp := RVs.look r1 rs z
      have hlen : ds.length = 1 := by
        have h1 := hl ts e1 z0
        have h2 := rs.len
        have h3 : ds.length = vs.length := Paired.length hp
        omega
      match ds, hp, hlen, q' with
      | [.int n], hp, _, q' =>
        dsimp only at q'
        split at q'
        · rename_i ok
          have o := okR_at ok
          exact ⟨n, paired1 hp, o.1, o.2, q' _ Hk1 H1 k1 r1 serv_rng⟩
        · exact q'.elim
  | ex c ns ds e1 => unfold mBind at q; rw [z0] at q; exact q
  | bad => unfold mBind at q; rw [z0] at q; exact q
theorem pix_rng2 (hm : X.mg "range" = none) (ha : PAs X y [a, b] ma) (hn : Many ma 2) (hg : Gl X "range" := by rfl) (hs : starEach [a, b] X.env = [(false, eval a X.env), (false, eval b X.env)] := by rfl) (hs2 : starEach [b] X.env = [(false, eval b X.env)] := by rfl) :
    PIx X y tg (.Call (.Name "range" p) [a, b] [] pos) (mRng ma) := by
  refine ⟨PI_imp (pi_range2 hg hm ha.pa hs hs2) fun σ H R ⟨env, Hk, G, re, q⟩ => ⟨env, Hk, G, re, ?_⟩⟩
  have hl : ∀ ts e, ma env = .ok ts e → ts.length = 2 := fun ts e z => hn _ _ _ z
  unfold mRng at q
  cases z0 : ma env with
  | ok ts e1 =>
    have q' := q
    unfold mBind at q'
    rw [z0] at q'
    dsimp only at q'
    intro vs Hk1 H1 k1 r1 rs
    cases z : lookAll ts e1 with
    | none => rw [z] at q'; exact q'.elim
    | some ds =>
      rw [z] at q'
      have hp := RVs.look r1 rs z
      have hlen : ds.length = 2 := by
        have h1 := hl ts e1 z0
        have h2 := rs.len
        have h3 : ds.length = vs.length := Paired.length hp
        omega
      match ds, hp, hlen, q' with
      | [.int lo, .int n], hp, _, q' =>
        dsimp only at q'
        split at q'
        · rename_i ok
          have o := okR_at ok.1
          have o2 := okR_at ok.2
          exact ⟨lo, n, paired2 hp, ⟨o.1, o.2, o2.1, o2.2⟩, q' _ Hk1 H1 k1 r1 serv_rng⟩
        · exact q'.elim
  | ex c ns ds e1 => unfold mBind at q; rw [z0] at q; exact q
  | bad => unfold mBind at q; rw [z0] at q; exact q
end
end VM

set_option Elab.async false
set_option linter.all false
set_option maxRecDepth 100000
set_option maxHeartbeats 1000000
/-! VM 8: for, while, comprehensions -/
namespace VM
open PySem PySem.Spec PyProof.Rows L2
def forget (l : List Nat) (env : Env) : Env := l.foldl (fun e i => e.set i .no) env
theorem RE.forget {C : Ct} {xa : Xa} {G : Hp} {σ : L2.St} {Hk H : Hp} : ∀ (l : List Nat) {env : Env}, RE C xa G env σ Hk H → RE C xa G (VM.forget l env) σ Hk H
  | [], _, r => r
  | i :: l, _, r => RE.forget l (r.drop i)
section
variable {X : Cx} {y : Y} {a b c e : Expr} {es : List Expr} {st : Stmt} {sts sts2 : List Stmt} {m m1 m2 mi : M Tk} {ma : M (List Tk)} {n : M Bool} {f f1 f2 : M Fl} {pos p p2 p3 : Pos} {tg : Expr}
def mLoop (g : D → Env → Option Env) (junk : List Nat) (body : M Fl) : List D → M Fl
  | [] => fun env => .ok .nx env
  | d :: ds => fun env => match g d env with
    | none => .bad
    | some e1 => match body e1 with
      | .ok .nx e2 => mLoop g junk body ds (forget junk e2)
      | .ok .ct e2 => mLoop g junk body ds (forget junk e2)
      | .ok .bk e2 => .ok .nx (forget junk e2)
      | .ok (.rt t) e2 => .ok (.rt t) e2
      | .ex c ns xs e2 => .ex c ns xs e2
      | .bad => .bad
def mFor (mi : M (List D)) (g : D → Env → Option Env) (junk : List Nat) (body : M Fl) : M Fl := mBind mi (mLoop g junk body)
theorem psx_for {mi : M (List D)} {g : D → Env → Option Env} {sl : List Nat} (junk : List Nat) (hp : PassesOwn (model X.prog X.w) X.A X.env X.xe) (hc : X.calm = true) (hi : PIx X y tg e mi) (hg : PGx X y tg sl g) (hb : PSSx X y sts f)
    (hs : ∀ x, foldedSetIterable e X.env x = pure x := by intro _; rfl) : PSx X y (.For tg e sts [] pos) (mFor mi g junk f) := by
  refine ⟨PS_imp (ps_for hp hc hi.pi hg.pg hb.pss hs) fun D σ H ⟨env, Hk, G, re, q⟩ => ⟨env, Hk, G, re, ?_⟩⟩
  unfold mFor mBind at q
  cases z : mi env with
  | bad => rw [z] at q; exact q
  | ex c ns ds e1 => rw [z] at q; exact PoXS.at q
  | ok ds e1 =>
    rw [z] at q
    dsimp only at q
    intro J Hk0 H0 k0 r0 sv
    refine ⟨fun i m σ H => m = ds.length - i ∧ i ≤ ds.length ∧ ∃ env Hk, RE (y.ct X) y.xa G env σ Hk H ∧ Kx G Hk0 Hk ∧ PoS (y.ct X) y.xa y.W G Hk (mLoop g junk f (ds.drop i) env) D,
      ⟨ds.length, by simp, Nat.zero_le _, e1, Hk0, r0, Kx.refl _ _, q.kx k0⟩, ?_⟩
    rintro i m σ1 H1 ⟨rfl, hi, env1, Hk1, r1, k1, q1⟩
    obtain ⟨s1, s2⟩ := sv i Hk1 H1 k1.ex r1.hk
    by_cases hlt : i < ds.length
    · right
      have hd : ds[i]? = some ds[i] := List.getElem?_eq_getElem hlt
      obtain ⟨go, yl⟩ := s1 _ hd
      refine ⟨go, fun σ' H' => ∃ env' Hk', RE (y.ct X) y.xa G env' σ' Hk' H' ∧ Kx G Hk0 Hk' ∧ PoS (y.ct X) y.xa y.W G Hk' (mLoop g junk f (ds.drop (i + 1)) env') D,
        fun σ' H' ⟨env', Hk', r', k', q'⟩ => ⟨ds.length - (i + 1), by omega, rfl, by omega, env', Hk', r', k', q'⟩, fun x H' hy => ?_⟩
      obtain ⟨Hk2, k2, r2, rx⟩ := r1.res (yl x H' hy)
      rw [List.drop_eq_getElem_cons hlt] at q1
      unfold mLoop at q1
      refine ⟨env1, Hk2, G, ds[i], r2, rx, ?_⟩
      cases z1 : g ds[i] env1 with
      | none => rw [z1] at q1; exact q1.elim
      | some e2 =>
        rw [z1] at q1
        dsimp only at q1
        intro σ2 r3 _ _
        refine ⟨e2, Hk2, G, r3, ?_⟩
        have q1 := q1.kx k2
        cases z2 : f e2 with
        | bad => rw [z2] at q1; exact q1.elim
        | ex c ns xs e3 => rw [z2] at q1; exact q1
        | ok fl e3 =>
          rw [z2] at q1
          cases fl with
          | nx => exact fun σ' Hk' H' k' r' => ⟨_, Hk', r'.forget junk, (k1.trans k2).trans k', q1.kx k'⟩
          | ct => exact fun σ' Hk' H' k' r' => ⟨_, Hk', r'.forget junk, (k1.trans k2).trans k', q1.kx k'⟩
          | bk => exact fun σ' Hk' H' k' r' => q1 σ' Hk' H' k' (r'.forget junk)
          | rt t => exact q1
    · left
      have hl : ds.length ≤ i := by omega
      refine ⟨s2 hl, ?_⟩
      rw [List.drop_eq_nil_of_le hl] at q1
      exact q1 σ1 Hk1 H1 (Kx.refl _ _) r1
def mWhile (n : M Bool) (junk : List Nat) (body : M Fl) : Nat → M Fl
  | 0 => fun _ => .bad
  | k + 1 => mBind n fun b => if b = true then fun e1 => match body e1 with
      | .ok .nx e2 => mWhile n junk body k (forget junk e2)
      | .ok .ct e2 => mWhile n junk body k (forget junk e2)
      | .ok .bk e2 => .ok .nx (forget junk e2)
      | .ok (.rt t) e2 => .ok (.rt t) e2
      | .ex c ns xs e2 => .ex c ns xs e2
      | .bad => .bad
    else fun e => .ok .nx e
theorem psx_while (k : Nat) (junk : List Nat) (hp : PassesOwn (model X.prog X.w) X.A X.env X.xe) (hc : PB X y c n) (hb : PSSx X y sts f) : PSx X y (.While c sts [] pos) (mWhile n junk f k) := by
  refine ⟨PS_imp (ps_while hp hc.pt hb.pss) fun D σ H ⟨env, Hk, G, re, q⟩ => ?_⟩
  refine ⟨fun m σ H => ∃ env Hk, RE (y.ct X) y.xa G env σ Hk H ∧ PoS (y.ct X) y.xa y.W G Hk (mWhile n junk f m env) D, ⟨k, env, Hk, re, q⟩, ?_⟩
  rintro m σ1 H1 ⟨env1, Hk1, r1, q1⟩
  cases m with
  | zero => exact q1.elim
  | succ m =>
    unfold mWhile at q1
    refine ⟨env1, Hk1, G, r1, bs_bind q1 fun b e Hk2 H2 k2 r2 q2 => ?_⟩
    cases b with
    | false => rw [if_neg Bool.false_ne_true] at q2 ⊢; exact q2 σ1 Hk2 H2 (Kx.refl _ _) r2
    | true =>
      rw [if_pos rfl] at q2 ⊢
      refine ⟨fun σ' H' => ∃ env' Hk', RE (y.ct X) y.xa G env' σ' Hk' H' ∧ PoS (y.ct X) y.xa y.W G Hk' (mWhile n junk f m env') D, fun σ' H' h => ⟨m, Nat.lt_succ_self m, h⟩, e, Hk2, G, r2, ?_⟩
      cases z2 : f e with
      | bad => rw [z2] at q2; exact q2.elim
      | ex c ns xs e3 => rw [z2] at q2; exact q2
      | ok fl e3 =>
        rw [z2] at q2
        cases fl with
        | nx => exact fun σ' Hk' H' k' r' => ⟨_, Hk', r'.forget junk, q2.kx k'⟩
        | ct => exact fun σ' Hk' H' k' r' => ⟨_, Hk', r'.forget junk, q2.kx k'⟩
        | bk => exact fun σ' Hk' H' k' r' => q2 σ' Hk' H' k' (r'.forget junk)
        | rt t => exact q2

/-! ### comprehensions -/
/-- within a comprehension's block no exception is let out -/
abbrev Y.blk (y : Y) : Y := { y with W := fun _ _ _ _ => False }
def wipeE : List Nat → Env → Env
  | [], env => env
  | v :: vs, env => (wipeE vs env).set v .no
def mLcLoop (g : D → Env → Option Env) (own : List Nat) (test : M Bool) (elt : M Tk) : List D → List D → M (List D)
  | [], acc => fun env => .ok acc env
  | d :: ds, acc => fun env => match g d env with
    | none => .bad
    | some e1 => match test e1 with
      | .ok true e2 => match elt e2 with
        | .ok t e3 => match force t e3 with
          | .ok x e4 => if acc.length < lim then mLcLoop g own test elt ds (acc ++ [x]) (wipeE own e4) else .bad
          | _ => .bad
        | _ => .bad
      | .ok false e2 => mLcLoop g own test elt ds acc (wipeE own e2)
      | _ => .bad
/-- the block's own names as they stood ahead -/
def restore : List Nat → Env → Env → Env
  | [], _, env => env
  | v :: vs, env0, env => restore vs env0 (env.set v (env0.getD v .no))
/-- none of these slots owns -/
def noOw (own : List Nat) (env : Env) : Bool := own.all fun i => match env[i]? with
  | some .no => true
  | some (.sh _) => true
  | _ => false
def mLc (mi : M (List D)) (g : D → Env → Option Env) (own : List Nat) (test : M Bool) (elt : M Tk) : M Tk := mBind mi fun ds e1 => if noOw own e1 = true then match mLcLoop g own test elt ds [] (wipeE own e1) with
    | .ok out e2 => .ok (.new (.lst out)) (restore own e1 e2)
    | _ => .bad
  else .bad
section
variable {C : Ct} {xa : Xa} {G : Hp} {Hk H : Hp}
theorem wipe_get {i : Nat} {σ : L2.St} : ∀ {own : List Nat}, i ∉ own → (wipe σ own)[i]? = σ[i]?
  | [], _ => rfl
  | j :: own, hi => by
    show ((wipe σ own).set j none)[i]? = _
    rw [List.getElem?_set_ne (fun h => hi (by rw [h]; exact List.mem_cons_self)), wipe_get (fun h => hi (List.mem_cons_of_mem _ h))]
theorem RE.wipe {σ : L2.St} : ∀ (own : List Nat) {env : Env}, RE C xa G env σ Hk H → RE C xa G (wipeE own env) (L2.wipe σ own) Hk H
  | [], _, r => r
  | v :: vs, _, r => (RE.wipe vs r).dropSet v none
theorem RE.unset {τ : L2.St} {e : Env} {v : Nat} {x : S} (r : RE C xa G e (τ.set v none) Hk H) (h : x = .no ∨ ∃ d w, x = .sh d ∧ τ[v]? = some (some w) ∧ Rp C Hk d w) : RE C xa G (e.set v x) τ Hk H := by
  rcases h with h | ⟨d, w, h, h1, h2⟩
  · subst h
    cases z : τ[v]? with
    | none =>
      have hl : τ.length ≤ v := List.getElem?_eq_none_iff.mp z
      rw [List.set_eq_of_length_le hl] at r
      exact r.drop v
    | some o =>
      have r2 := r.dropSet v o
      rw [List.set_set, set_id z] at r2
      exact r2
  · subst h
    have r2 := r.setSh (k := v) h2
    rw [List.set_set, set_id h1] at r2
    exact r2
theorem RE.restore {σ : L2.St} {env0 : Env} : ∀ (own : List Nat) {e : Env}, own.Nodup → RE C xa G e (L2.wipe σ own) Hk H → (∀ i ∈ own, env0.getD i .no = .no ∨ ∃ d w, env0.getD i .no = .sh d ∧ σ[i]? = some (some w) ∧ Rp C Hk d w) → RE C xa G (VM.restore own env0 e) σ Hk H
  | [], _, _, r, _ => r
  | v :: vs, e, nd, r, h => by
    obtain ⟨n1, n2⟩ := List.nodup_cons.mp nd
    refine RE.restore vs n2 (RE.unset r ?_) fun i hi => h i (List.mem_cons_of_mem _ hi)
    rcases h v List.mem_cons_self with z | ⟨d, w, z1, z2, z3⟩
    · exact .inl z
    · exact .inr ⟨d, w, z1, by rw [wipe_get n1]; exact z2, z3⟩
theorem restore_ow {env0 : Env} {i : Nat} {d : D} : ∀ {own : List Nat} {e : Env}, (∀ j ∈ own, env0.getD j .no = .no ∨ ∃ d, env0.getD j .no = .sh d) → (VM.restore own env0 e)[i]? = some (.ow d) → e[i]? = some (.ow d) ∧ i ∉ own
  | [], _, _, h => ⟨h, by simp⟩
  | v :: vs, e, hn, h => by
    obtain ⟨h1, h2⟩ := restore_ow (own := vs) (fun j hj => hn j (List.mem_cons_of_mem _ hj)) h
    rcases set_get h1 with ⟨e1, _, e2⟩ | ⟨e1, h1⟩
    · exfalso
      rcases hn v List.mem_cons_self with z | ⟨d', z⟩
      · rw [z] at e2; cases e2
      · rw [z] at e2; cases e2
    · refine ⟨h1, fun hm => ?_⟩
      rcases List.mem_cons.mp hm with z | z
      · exact e1 z.symm
      · exact h2 z
theorem noOw_at {own : List Nat} {env : Env} {σ : L2.St} (r : RE C xa G env σ Hk H) (h : noOw own env = true) (i : Nat) (hi : i ∈ own) : env.getD i .no = .no ∨ ∃ d w, env.getD i .no = .sh d ∧ σ[i]? = some (some w) ∧ Rp C Hk d w := by
  unfold noOw at h
  have h := List.all_eq_true.mp h i hi
  have hg : env.getD i .no = (env[i]?).getD .no := by rw [List.getD_eq_getElem?_getD]
  rw [hg]
  cases z : env[i]? with
  | none => exact .inl rfl
  | some s =>
    rw [z] at h
    cases s with
    | no => exact .inl rfl
    | sh d =>
      obtain ⟨v, h1, h2⟩ := r.sh i d z
      exact .inr ⟨d, v, rfl, h1, h2⟩
    | ow d => simp at h
    | xv c ns ds => simp at h
end
variable {elt iter : Expr} {ifs : List Expr}
/-- tests of a clause -/
structure PBs (X : Cx) (y : Y) (ifs : List Expr) (m : M Bool) : Prop where
  pts : PTs X ifs (tB X y m)
theorem PTs_imp {ifs : List Expr} {t t' : TT} (h : PTs X ifs t) (f : ∀ σ H Q, t' σ H Q → t σ H Q) : PTs X ifs t' := ⟨fun pins s σ H Q I q => h.run pins s σ H Q I (f σ H Q q)⟩
def mYes : M Bool := fun env => .ok true env
theorem pbs_nil : PBs X y [] mYes := ⟨PTs_imp pts_nil fun σ H Q ⟨env, Hk, G, re, q⟩ => q Hk H (Kx.refl _ _) re⟩
theorem pbs_one (h : PB X y c n) : PBs X y [c] n := ⟨pts_one h.pt⟩
theorem wipe_eq {σ τ : L2.St} : ∀ {own : List Nat}, τ.length = σ.length → (∀ i, i ∉ own → τ[i]? = σ[i]?) → wipe τ own = wipe σ own := by
  intro own hl h
  apply List.ext_getElem?
  intro j
  by_cases hj : j ∈ own
  · have key : ∀ (own : List Nat) (ρ : L2.St), j ∈ own → (wipe ρ own)[j]? = if j < ρ.length then some none else none := by
      intro own
      induction own with
      | nil => intro ρ h; simp at h
      | cons v vs ih =>
        intro ρ h
        show ((wipe ρ vs).set v none)[j]? = _
        by_cases e : v = j
        · subst e
          by_cases hlt : v < ρ.length
          · rw [List.getElem?_set_self (by rw [wipe_length]; exact hlt), if_pos hlt]
          · rw [List.getElem?_eq_none (by rw [List.length_set, wipe_length]; omega), if_neg hlt]
        · rw [List.getElem?_set_ne e]
          rcases List.mem_cons.mp h with z | z
          · exact absurd z.symm e
          · exact ih ρ z
    rw [key own τ hj, key own σ hj, hl]
  · rw [wipe_get hj, wipe_get hj, h j hj]
theorem t_lc {mi : M (List D)} {g : D → Env → Option Env} {own sl : List Nat} {test : M Bool} {el : M Tk} {X' : Cx} (hK : X'.K = X.K) (nd : own.Nodup) (sub : ∀ i ∈ sl, i ∈ own) {σ : L2.St} {H : Hp} {Q : VK} (h : tE X y (mLc mi g own test el) σ H Q) :
    tLc (tI X y mi) (tG X' y.blk sl g) (tB X' y.blk test) (tE X' y.blk el) own σ H Q := by
  have hct : y.blk.ct X' = y.ct X := by show Ct.mk X'.K y.cm = Ct.mk X.K y.cm; rw [hK]
  obtain ⟨env, Hk, G, re, q⟩ := h
  refine ⟨env, Hk, G, re, ?_⟩
  unfold mLc mBind at q
  cases z : mi env with
  | bad => rw [z] at q; exact q
  | ex c ns ds e1 => rw [z] at q; exact q
  | ok ds e1 =>
    rw [z] at q
    dsimp only at q
    intro J Hk0 H0 k0 r0 sv Dl hD
    by_cases hn : noOw own e1 = true
    · rw [if_pos hn] at q
      have gD : G Dl = none := r0.g.back hD
      have kD : Hk0 Dl = none := r0.hk.back hD
      have n1 := noOw_at r0 hn
      -- the word of the turns
      refine ⟨fun i m H => m = ds.length - i ∧ i ≤ ds.length ∧ ∃ env Hk accV acc, RE (y.ct X) y.xa (upd G Dl (.lst accV)) env (wipe σ own) Hk H ∧ Kx G Hk0 Hk ∧ Hk Dl = none ∧ RpL (y.ct X) Hk acc accV ∧
          ∃ out e2, mLcLoop g own test el (ds.drop i) acc env = .ok out e2 ∧ PoE (y.ct X) y.xa y.W G σ Hk (.ok (.new (.lst out)) (restore own e1 e2)) Q, ⟨ds.length, by simp, Nat.zero_le _, ?_⟩, ?_⟩
      · have rw0 := (r0.wipe own).ext (Ex.new (o := .lst []) hD)
        cases z2 : mLcLoop g own test el ds [] (wipeE own e1) with
        | bad => rw [z2] at q; exact q.elim
        | ex c ns xs e2 => rw [z2] at q; exact q.elim
        | ok out e2 =>
          rw [z2] at q
          refine ⟨wipeE own e1, Hk0, [], [], ⟨rw0.len, rw0.hk, ?_, rw0.sh, fun i d hi => ?_, rw0.inj, rw0.xv, rw0.pn⟩, Kx.refl _ _, kD, RpL.nil, out, e2, z2, PoE.kx (r := .ok _ _) k0 q⟩
          · exact Ex.updB rw0.g upd_same
          · obtain ⟨a, h1, h2, h3⟩ := rw0.ow i d hi
            obtain ⟨_, _, h2', h3'⟩ := (r0.wipe own).ow i d hi
            have hne : ∀ b, H0 b ≠ none → b ≠ Dl := fun b hb e => hb (by rw [e]; exact hD)
            refine ⟨a, h1, h2, ?_⟩
            cases d with
            | lst xs =>
              obtain ⟨g1, vs, g2, g3⟩ := h3
              refine ⟨?_, vs, g2, g3⟩
              obtain ⟨a', ha', ka', oa'⟩ := (r0.wipe own).ow i _ hi
              rw [h1] at ha'
              cases ha'
              obtain ⟨u, hu, _⟩ := oa'.at
              rw [upd_ne (hne a (by rw [hu]; simp))]
              exact g1
            | ins c ns xs =>
              obtain ⟨a', ha', ka', oa'⟩ := (r0.wipe own).ow i _ hi
              rw [h1] at ha'
              cases ha'
              obtain ⟨g1, dx, vs, g2, g3, g4, g5, g6⟩ := oa'
              refine ⟨?_, dx, vs, Ex.new hD _ _ g2, Ex.new hD _ _ g3, g4, g5, ?_⟩
              · rw [upd_ne (hne a (by rw [g2]; simp))]; exact g1
              · rw [upd_ne (hne dx (by rw [g3]; simp))]; exact g6
            | dic ks xs =>
              obtain ⟨g1, vs, g2, g3⟩ := h3
              refine ⟨?_, vs, g2, g3⟩
              obtain ⟨a', ha', ka', oa'⟩ := (r0.wipe own).ow i _ hi
              rw [h1] at ha'
              cases ha'
              obtain ⟨u, hu, _⟩ := oa'.at
              rw [upd_ne (hne a (by rw [hu]; simp))]
              exact g1
            | _ => exact h3.elim
      · rintro i m H1 ⟨rfl, hi, env1, Hk1, accV, acc, r1, k1, kd1, ra, out, e2, z2, q2⟩
        obtain ⟨s1, s2⟩ := sv i Hk1 H1 k1.ex r1.hk
        have Gup : Ex G (upd G Dl (.lst accV)) := Ex.new gD
        by_cases hlt : i < ds.length
        · right
          have hd : ds[i]? = some ds[i] := List.getElem?_eq_getElem hlt
          obtain ⟨go, yl⟩ := s1 _ hd
          refine ⟨go, fun H' => ∃ env Hk accV acc, RE (y.ct X) y.xa (upd G Dl (.lst accV)) env (wipe σ own) Hk H' ∧ Kx G Hk0 Hk ∧ Hk Dl = none ∧ RpL (y.ct X) Hk acc accV ∧
            ∃ out e2, mLcLoop g own test el (ds.drop (i + 1)) acc env = .ok out e2 ∧ PoE (y.ct X) y.xa y.W G σ Hk (.ok (.new (.lst out)) (restore own e1 e2)) Q, fun H' hh => ⟨ds.length - (i + 1), by omega, rfl, by omega, hh⟩, fun x H' hy => ?_⟩
          obtain ⟨Hk2, k2, r2, rx⟩ := r1.res (yl x H' hy)
          rw [List.drop_eq_getElem_cons hlt] at z2
          unfold mLcLoop at z2
          have gk : ∀ {A B : Hp}, Kx (upd G Dl (.lst accV)) A B → Kx G A B := fun k => ⟨k.ex, fun b o h1 h2 => Gup.back (k.new b o h1 h2)⟩
          have dk : ∀ {A B : Hp}, Kx (upd G Dl (.lst accV)) A B → A Dl = none → B Dl = none := fun {A B} k h => by
            cases zz : B Dl with
            | none => rfl
            | some o => have := k.new Dl o zz h; rw [upd_same] at this; cases this
          refine ⟨env1, Hk2, upd G Dl (.lst accV), ds[i], by rw [hct]; exact r2, by rw [hct]; exact rx, ?_⟩
          cases z3 : g ds[i] env1 with
          | none => rw [z3] at z2; cases z2
          | some ea =>
            rw [z3] at z2
            dsimp only at z2 ⊢
            intro σ2 r3 l3 f3
            rw [hct] at r3
            have w3 : wipe σ2 own = wipe σ own := by
              rw [wipe_eq (σ := wipe σ own) (τ := σ2) l3 fun j hj => f3 j fun hh => hj (sub j hh)]
              exact wipe_eq (wipe_length σ own) fun j hj => wipe_get hj
            refine ⟨w3, ea, Hk2, upd G Dl (.lst accV), by rw [hct]; exact r3, ?_⟩
            cases z4 : test ea with
            | bad => rw [z4] at z2; cases z2
            | ex c ns xs eb => rw [z4] at z2; cases z2
            | ok b eb =>
              rw [z4] at z2
              intro Hk3 H3 k3 r4
              rw [hct] at r4
              cases b with
              | false =>
                rw [if_neg Bool.false_ne_true]
                dsimp only at z2
                have kk := (gk k2).trans (gk k3)
                refine ⟨wipeE own eb, Hk3, accV, acc, ?_, k1.trans kk, dk k3 (dk k2 kd1), ra.mono kk.ex, out, e2, z2, PoE.kx (r := .ok _ _) kk q2⟩
                rw [← w3]
                exact r4.wipe own
              | true =>
                rw [if_pos rfl]
                dsimp only at z2
                refine ⟨eb, Hk3, upd G Dl (.lst accV), by rw [hct]; exact r4, ?_⟩
                cases z5 : el eb with
                | bad => rw [z5] at z2; cases z2
                | ex c ns xs ec => rw [z5] at z2; cases z2
                | ok t ec =>
                  rw [z5] at z2
                  intro w Hk4 H4 k4 r5 rt5
                  rw [hct] at r5 rt5
                  dsimp only at z2
                  rcases force_cases t ec with ⟨xd, ed, z6⟩ | z6
                  · rw [z6] at z2
                    dsimp only at z2
                    obtain ⟨Hk5, k5, r6, rd⟩ := rt5.force r5 z6
                    split at z2
                    · rename_i hlen
                      have hDl : H4 Dl = some (.lst accV) := r6.g Dl _ upd_same
                      have kk := ((gk k2).trans (gk k3)).trans ((gk k4).trans (gk k5))
                      have kd5 : Hk5 Dl = none := dk k5 (dk k4 (dk k3 (dk k2 kd1)))
                      have rl : RpL (y.ct X) Hk5 (acc ++ [xd]) (accV ++ [w]) := (ra.mono kk.ex).append (.cons rd .nil)
                      refine ⟨accV, hDl, by rw [← ra.len]; exact lim_line hlen, wipeE own ed, Hk5, accV ++ [w], acc ++ [xd], ?_, k1.trans kk, kd5, rl, out, e2, z2, PoE.kx (r := .ok _ _) kk q2⟩
                      have r7 := r6.wipe own
                      rw [w3] at r7
                      have atD : ∃ u, H4 Dl = some u ∧ isOw u := ⟨_, hDl, trivial⟩
                      have ne7 : ∀ (j : Nat) (d : D) (a : Addr), (wipeE own ed)[j]? = some (.ow d) → (wipe σ own)[j]? = some (some (.ref a)) → a ≠ Dl := fun j d a hj ha e => by
                        obtain ⟨_, oa⟩ := r7.owAt hj ha
                        have := oa.g
                        rw [e, upd_same] at this
                        cases this
                      refine ⟨r7.len, r7.hk.mut kd5, ?_, r7.sh, fun j d hj => ?_, r7.inj, fun j c ns xs hj => ?_, r7.pn⟩
                      · intro b o hb
                        by_cases e : b = Dl
                        · subst e; rw [upd_same] at hb ⊢; exact hb
                        · rw [upd_ne e] at hb ⊢
                          exact r7.g b o (by rw [upd_ne e]; exact hb)
                      · obtain ⟨a, h1, h2, h3⟩ := r7.ow j d hj
                        have ne := ne7 j d a hj h1
                        have o3 := h3.other (o := .lst (accV ++ [w])) atD ne
                        refine ⟨a, h1, h2, ?_⟩
                        cases d with
                        | lst xs =>
                          obtain ⟨g1, g2⟩ := o3
                          exact ⟨by rw [upd_ne ne] at g1 ⊢; exact g1, g2⟩
                        | ins c ns xs =>
                          obtain ⟨g1, dx, vs, g2, g3, g4, g5, g6⟩ := o3
                          have nx : dx ≠ Dl := fun e => by rw [e, upd_same] at g3; cases g3
                          exact ⟨by rw [upd_ne ne] at g1 ⊢; exact g1, dx, vs, g2, g3, g4, g5, by rw [upd_ne nx] at g6 ⊢; exact g6⟩
                        | dic ks xs =>
                          obtain ⟨g1, g2⟩ := o3
                          exact ⟨by rw [upd_ne ne] at g1 ⊢; exact g1, g2⟩
                        | _ => exact o3.elim
                      · obtain ⟨a, cls, dd, h1, h2, h3⟩ := r7.xv j c ns xs hj
                        exact ⟨a, cls, dd, h1, h2, h3.other atD⟩
                    · cases z2
                  · rw [z6] at z2; cases z2
        · left
          have hl : ds.length ≤ i := by omega
          refine ⟨s2 hl, ?_⟩
          rw [List.drop_eq_nil_of_le hl] at z2
          unfold mLcLoop at z2
          cases z2
          have rD : H1 Dl = some (.lst accV) := r1.g Dl _ upd_same
          have rG : RE (y.ct X) y.xa G env1 (wipe σ own) Hk1 H1 := ⟨r1.len, r1.hk, Gup.trans r1.g, r1.sh, fun j d hj => by
            obtain ⟨a, h1, h2, h3⟩ := r1.ow j d hj
            exact ⟨a, h1, h2, h3.gmono Gup⟩, r1.inj, r1.xv, r1.pn⟩
          have rF := rG.restore (env0 := e1) own nd fun j hj => by
            rcases n1 j hj with zz | ⟨d, w, z1, z2, z3⟩
            · exact .inl zz
            · exact .inr ⟨d, w, z1, z2, z3.mono k1.ex⟩
          refine q2 (.ref Dl) Hk1 H1 (Kx.refl _ _) rF ⟨Dl, rfl, kd1, ⟨gD, accV, rD, ra⟩, fun j d' hj hs => ?_⟩
          obtain ⟨h1, h2⟩ := restore_ow (own := own) (fun j hj => by
            rcases n1 j hj with zz | ⟨d, w, z1, _⟩
            · exact .inl zz
            · exact .inr ⟨d, z1⟩) hj
          rw [← wipe_get h2] at hs
          obtain ⟨_, oa⟩ := r1.owAt h1 hs
          have := oa.g
          rw [upd_same] at this
          cases this
    · rw [if_neg hn] at q; exact q.elim
theorem px_lc {scope : Scope} {own : List (Str × Nat)} {mi : M (List D)} {g : D → Env → Option Env} {sl : List Nat} {test : M Bool} {el : M Tk} (hc : X.calm = true) (hN : X.N.Nodup) (hi : PIx X y tg iter mi) (ok : BlkOk X.N X.env.scope scope own)
    (hg : ∀ (s : Shared) (H : Hp) (C : Addr) (cl : List (Str × Addr)) (fp : List Addr), PGx (X.blk s H scope (compEnvC scope cl C X.env) fp) y.blk tg sl g)
    (ht : ∀ (s : Shared) (H : Hp) (C : Addr) (cl : List (Str × Addr)) (fp : List Addr), PBs (X.blk s H scope (compEnvC scope cl C X.env) fp) y.blk ifs test)
    (he : ∀ (s : Shared) (H : Hp) (C : Addr) (cl : List (Str × Addr)) (fp : List Addr), PX (X.blk s H scope (compEnvC scope cl C X.env) fp) y.blk elt el)
    (nd : (own.map (·.2)).Nodup := by decide) (sub : ∀ i ∈ sl, i ∈ own.map (·.2) := by decide) (hs : ∀ x, foldedSetIterable iter X.env x = pure x := by intro _; rfl) :
    PX X y (.ListComp elt [⟨tg, iter, ifs, 0⟩] scope pos) (mLc mi g (own.map (·.2)) test el) :=
  ⟨PE_imp (pe_lc hc hN hi.pi ok (fun s H C cl fp => (hg s H C cl fp).pg) (fun s H C cl fp => (ht s H C cl fp).pts) (fun s H C cl fp => (he s H C cl fp).pe) hs) fun σ H Q h => t_lc (X' := X) rfl nd sub h⟩
theorem psx_setLc {i : Nat} {v : Str} {py spos : Pos} {scope : Scope} {own : List (Str × Nat)} {mi : M (List D)} {g : D → Env → Option Env} {sl : List Nat} {test : M Bool} {el : M Tk} (hc : X.calm = true) (hN : X.N.Nodup) (hi : PIx X y tg iter mi) (ok : BlkOk X.N X.env.scope scope own)
    (hg : ∀ (s : Shared) (H : Hp) (C : Addr) (cl : List (Str × Addr)) (fp : List Addr), PGx (X.blk s H scope (compEnvC scope cl C X.env) fp) y.blk tg sl g)
    (ht : ∀ (s : Shared) (H : Hp) (C : Addr) (cl : List (Str × Addr)) (fp : List Addr), PBs (X.blk s H scope (compEnvC scope cl C X.env) fp) y.blk ifs test)
    (he : ∀ (s : Shared) (H : Hp) (C : Addr) (cl : List (Str × Addr)) (fp : List Addr), PX (X.blk s H scope (compEnvC scope cl C X.env) fp) y.blk elt el)
    (hy : X.N[i]? = some v := by rfl) (hyl : X.env.scope.names.lookup v = some .local := by rfl) (h0 : i ≠ 0 ∨ y.xa.p = none := by first | exact .inl (by decide) | exact .inr rfl)
    (hsw : swapsWith (.ListComp elt [⟨tg, iter, ifs, 0⟩] scope pos) (some (.Name v py)) spos.line X.env = pure true := by exact sw_true rfl rfl rfl (by decide +kernel))
    (nd : (own.map (·.2)).Nodup := by decide) (sub : ∀ i ∈ sl, i ∈ own.map (·.2) := by decide) (hs : ∀ x, foldedSetIterable iter X.env x = pure x := by intro _; rfl) :
    PSx X y (.Assign [.Name v py] (.ListComp elt [⟨tg, iter, ifs, 0⟩] scope pos) spos) (mAsg i (mLc mi g (own.map (·.2)) test el)) :=
  ⟨PS_imp (ps_setLc hc hN hy hyl hsw hi.pi ok (fun s H C cl fp => (hg s H C cl fp).pg) (fun s H C cl fp => (ht s H C cl fp).pts) (fun s H C cl fp => (he s H C cl fp).pe) hs) fun D σ H ⟨env, Hk, G, re, q⟩ =>
    t_lc (X' := X) (Q := fun x H1 => gName i x σ H1 D.nx) rfl nd sub ⟨env, Hk, G, re, ps_bind q fun t e v Hk' H1 k1 r1 rt1 q1 => store_go h0 r1 rt1 q1⟩⟩
end
end VM

set_option Elab.async false
set_option linter.all false
set_option maxRecDepth 100000
set_option maxHeartbeats 1000000
/-! VM 9: defs, and calls that change the caller's own object -/
namespace VM
open PySem PySem.Spec PyProof.Rows L2
/-- a token handed back: from a slot its object goes with it -/
def outTk (t : Tk) (e : Env) : Option (Bool × D) := match t with
  | .val d => some (false, d)
  | .new d => some (true, d)
  | .slot k => match e[k]? with
    | some (.sh d) => some (false, d)
    | some (.ow d) => some (true, d)
    | _ => none
def fin (r : Rs Fl) : Rf := match r with
  | .ok .nx _ => .ok false .non .non
  | .ok (.rt t) e => match outTk t e with
    | some (nw, d) => .ok nw d .non
    | none => .bad
  | .ex c ns ds _ => .ex c ns ds .non
  | _ => .bad
def entry (n : Nat) (ds : List D) : Env := ds.map .sh ++ List.replicate (n - ds.length) .no
def mkF (n : Nat) (body : M Fl) : List D → Rf := fun ds => fin (body (entry n ds))
theorem entry_re {C : Ct} {H Hk : Hp} {N : List Str} {ds : List D} {vs : List V} {x : Option (Addr × Value × Option Addr)} (e : Ex Hk H) (h : RpL C Hk ds vs) (hl : vs.length ≤ N.length) : RE C ⟨x, none⟩ H (entry N.length ds) (L2.start N vs) Hk H := by
  have hlen := h.len
  have get : ∀ {i : Nat} {s : S}, (entry N.length ds)[i]? = some s → (∃ d v, s = .sh d ∧ (L2.start N vs)[i]? = some (some v) ∧ Rp C Hk d v) ∨ s = .no := fun {i s} hi => by
    unfold entry at hi
    by_cases q : i < ds.length
    · rw [List.getElem?_append_left (by simpa using q), List.getElem?_map, List.getElem?_eq_getElem q] at hi
      cases hi
      obtain ⟨v, hv, rv⟩ := h.get (List.getElem?_eq_getElem q)
      refine .inl ⟨_, v, rfl, ?_, rv⟩
      unfold L2.start
      rw [List.getElem?_append_left (by simp; omega), List.getElem?_map, hv]
      rfl
    · rw [List.getElem?_append_right (by simp; omega), List.getElem?_replicate] at hi
      split at hi
      · cases hi; exact .inr rfl
      · cases hi
  refine ⟨?_, e, Ex.refl H, fun i d hi => ?_, fun i d hi => ?_, fun i j d d' a h1 _ _ _ => ?_, fun i c ns xs hi => ?_, fun a d hp _ => by cases hp⟩
  · unfold entry L2.start
    simp
    omega
  · rcases get hi with ⟨d', v, e1, e2, e3⟩ | z
    · cases e1; exact ⟨v, e2, e3⟩
    · cases z
  · rcases get hi with ⟨d', v, e1, e2, e3⟩ | z
    · cases e1
    · cases z
  · rcases get h1 with ⟨d', v, e1, e2, e3⟩ | z
    · cases e1
    · cases z
  · rcases get hi with ⟨d', v, e1, e2, e3⟩ | z
    · cases e1
    · cases z
theorem outTk_bk {C : Ct} {xa : Xa} {G : Hp} {e : Env} {σ : L2.St} {Hk H : Hp} {t : Tk} {v : V} {nw : Bool} {d : D} (r : RE C xa G e σ Hk H) (rt : RT C G e σ Hk H t v) (h : outTk t e = some (nw, d)) : Bk C G Hk H nw d v := by
  cases t with
  | val x => cases h; exact rt
  | new x =>
    cases h
    obtain ⟨a, rfl, h1, h2, _⟩ := rt
    exact ⟨a, rfl, h1, h2⟩
  | slot k =>
    have rt : σ[k]? = some (some v) := rt
    unfold outTk at h
    dsimp only at h
    split at h
    · rename_i x hx
      cases h
      obtain ⟨w, h1, h2⟩ := r.sh k _ hx
      rw [rt] at h1
      cases h1
      exact h2
    · rename_i x hx
      cases h
      obtain ⟨a, h1, h2, h3⟩ := r.ow k _ hx
      rw [rt] at h1
      cases h1
      exact ⟨a, rfl, h2, h3⟩
    · cases h
section
variable {P : Program} {w : World} {K : PySem.W.Frag} {mg : Str → Option Value} {base : Heap} {cm : Nat → Addr}
/-- what a def's body stands in -/
abbrev yF (cm : Nat → Addr) (E : XK) : Y := ⟨cm, ⟨none, none⟩, fun cls d _ H => E cls d H⟩
theorem fn_ok {x qual : Str} {st : Stmt} {f : Addr} {fd : FuncData} {N ps : List Str} {k : Nat} {body : M Fl} (F : Fun K x qual st f fd) (S : FnScope N ps (defScope st)) (hl : ps.length ≤ N.length)
    (hb : ∀ (cdv : Value) (A : Around) (outer : List PySem.Env) (s : Shared) (H : Hp) (E : XK), Room k (A.deeper (envOfC qual (defScope st) s.heap.objs.size f cdv)) →
      PSSx (cxOf (L2.CX P w) P w K mg base N qual (defScope st) f cdv A outer s H E) (yF cm E) (defBody st) body) :
    FnOk P w K mg base (L2.CX P w) (k + 1) f fd ps (spF ⟨K, cm⟩ ps.length (mkF N.length body)) := by
  refine F.okX S (fun vs H Q E h => h.1) fun cdv A outer s H vs Q E hr h => ⟨_, (hb cdv A outer s H E hr).pss, ?_⟩
  obtain ⟨hn, ds, Hk, e, rl, q⟩ := h
  refine ⟨entry N.length ds, Hk, H, entry_re e rl (by omega), ?_⟩
  unfold mkF at q
  cases z : body (entry N.length ds) with
  | bad => rw [z] at q; exact q.elim
  | ex c ns xs e1 =>
    rw [z] at q
    exact fun cls dd σ' Hk' H' k' r' rx => q cls dd Hk' H' k' r'.hk r'.g rx
  | ok fl e1 =>
    rw [z] at q
    cases fl with
    | nx => exact fun σ' Hk' H' k' r' => q .non Hk' H' k' r'.hk r'.g (rp_non (C := ⟨K, cm⟩) (H := Hk'))
    | bk => exact q.elim
    | ct => exact q.elim
    | rt t =>
      intro v σ' Hk' H' k' r' rt
      unfold fin at q
      dsimp only at q
      cases z2 : outTk t e1 with
      | none => rw [z2] at q; exact q.elim
      | some o =>
        obtain ⟨nw, d⟩ := o
        rw [z2] at q
        exact q v Hk' H' k' r'.hk r'.g (outTk_bk r' rt z2)
/-! ### defs whose first argument's object may change -/
def own0 (e : Env) : Option D := match e[(0 : Nat)]? with
  | some (.ow p) => some p
  | _ => none
def isS0 : Tk → Bool
  | .slot 0 => true
  | _ => false
def finIO (r : Rs Fl) : Rf := match r with
  | .ok .nx e => match own0 e with
    | some p => .ok false .non p
    | none => .bad
  | .ok (.rt t) e => if isS0 t = true then .bad else match outTk t e, own0 e with
    | some (nw, d), some p => .ok nw d p
    | _, _ => .bad
  | .ex c ns ds e => match own0 e with
    | some p => .ex c ns ds p
    | none => .bad
  | _ => .bad
def entryIO (n : Nat) (d0 : D) (ds : List D) : Env := .ow d0 :: entry (n - 1) ds
def mkIO (n : Nat) (body : M Fl) : List D → Rf := fun ds => match ds with
  | d0 :: r => finIO (body (entryIO n d0 r))
  | [] => .bad
abbrev yIO (cm : Nat → Addr) (a : Addr) (E : XK) : Y := ⟨cm, ⟨none, some a⟩, fun cls d _ H => E cls d H⟩
theorem own0_at {e : Env} {p : D} (h : own0 e = some p) : e[0]? = some (.ow p) := by
  unfold own0 at h
  split at h
  · rename_i z; cases h; exact z
  · cases h
theorem entryIO_re {C : Ct} {G H Hk : Hp} {N : List Str} {d0 : D} {ds : List D} {a : Addr} {vs : List V} (e : Ex Hk H) (g : Ex G H) (h0 : Hk a = none) (o : OwA C G Hk H a d0) (h : RpL C Hk ds vs) (hl : vs.length + 1 ≤ N.length) :
    RE C ⟨none, some a⟩ G (entryIO N.length d0 ds) (L2.start N (.ref a :: vs)) Hk H := by
  obtain ⟨N0, NN, rfl⟩ : ∃ n0 nn, N = n0 :: nn := by
    cases N with
    | nil => simp at hl
    | cons n0 nn => exact ⟨n0, nn, rfl⟩
  have r0 := entry_re (C := C) (H := H) (N := NN) (x := none) e h (by simpa using hl)
  have es : L2.start (N0 :: NN) (.ref a :: vs) = some (.ref a) :: L2.start NN vs := by
    unfold L2.start
    simp
  rw [es]
  have ee : entryIO (N0 :: NN).length d0 ds = .ow d0 :: entry NN.length ds := rfl
  rw [ee]
  have nosl : ∀ {i : Nat} {d : D}, (entry NN.length ds)[i]? ≠ some (.ow d) := fun {i d} hi => by
    obtain ⟨b, _, _, _⟩ := r0.ow i d hi
    unfold entry at hi
    by_cases q : i < ds.length
    · rw [List.getElem?_append_left (by simpa using q), List.getElem?_map, List.getElem?_eq_getElem q] at hi
      cases hi
    · rw [List.getElem?_append_right (by simp; omega), List.getElem?_replicate] at hi
      split at hi <;> cases hi
  refine ⟨by simpa using r0.len, e, g, fun i d hi => ?_, fun i d hi => ?_, fun i j d d' b h1 h2 _ _ => ?_, fun i c ns xs hi => ?_, fun b d hp hi => by cases hp; rfl⟩
  · cases i with
    | zero => cases hi
    | succ i => exact r0.sh i d (by simpa using hi)
  · cases i with
    | zero => cases hi; exact ⟨a, rfl, h0, o⟩
    | succ i => exact absurd (by simpa using hi) (nosl (i := i) (d := d))
  · cases i with
    | zero =>
      cases j with
      | zero => rfl
      | succ j => exact absurd (by simpa using h2) (nosl (i := j) (d := d'))
    | succ i => exact absurd (by simpa using h1) (nosl (i := i) (d := d))
  · cases i with
    | zero => cases hi
    | succ i =>
      obtain ⟨b, cls, dd, h1, _⟩ := r0.xv i c ns xs (by simpa using hi)
      cases h1
theorem fnIO_ok {x qual : Str} {st : Stmt} {f : Addr} {fd : FuncData} {N ps : List Str} {k : Nat} {body : M Fl} (F : Fun K x qual st f fd) (S : FnScope N ps (defScope st)) (hl : ps.length ≤ N.length)
    (hb : ∀ (cdv : Value) (A : Around) (outer : List PySem.Env) (s : Shared) (H : Hp) (E : XK) (a : Addr), Room k (A.deeper (envOfC qual (defScope st) s.heap.objs.size f cdv)) →
      PSSx (cxOf (L2.CX P w) P w K mg base N qual (defScope st) f cdv A outer s H E) (yIO cm a E) (defBody st) body) :
    FnOk P w K mg base (L2.CX P w) (k + 1) f fd ps (spIO ⟨K, cm⟩ ps.length (mkIO N.length body)) := by
  refine F.okX S (fun vs H Q E h => h.1) fun cdv A outer s H vs Q E hr h => ?_
  obtain ⟨hn, a, vs', d0, ds, Hk, G, rfl, g, e, h0, o, rl, q⟩ := h
  refine ⟨_, (hb cdv A outer s H E a hr).pss, ?_⟩
  refine ⟨entryIO N.length d0 ds, Hk, G, entryIO_re e g h0 o rl (by simp at hn; omega), ?_⟩
  have at0 : ∀ {e1 : Env} {p : D} {σ' : L2.St} {Hk' H' : Hp}, RE ⟨K, cm⟩ ⟨none, some a⟩ G e1 σ' Hk' H' → own0 e1 = some p → Hk' a = none ∧ OwA ⟨K, cm⟩ G Hk' H' a p := fun {e1 p σ' Hk' H'} r hp => by
    have h1 := own0_at hp
    exact r.owAt h1 (r.pn a p rfl h1)
  unfold mkIO at q
  dsimp only at q
  cases z : body (entryIO N.length d0 ds) with
  | bad => rw [z] at q; exact q.elim
  | ex c ns xs e1 =>
    rw [z] at q
    unfold finIO at q
    dsimp only at q
    cases z1 : own0 e1 with
    | none => rw [z1] at q; exact q.elim
    | some p =>
      rw [z1] at q
      exact fun cls dd σ' Hk' H' k' r' rx => q cls dd Hk' H' k' r'.hk r'.g (at0 r' z1).1 (at0 r' z1).2 rx
  | ok fl e1 =>
    rw [z] at q
    unfold finIO at q
    cases fl with
    | nx =>
      dsimp only at q
      cases z1 : own0 e1 with
      | none => rw [z1] at q; exact q.elim
      | some p =>
        rw [z1] at q
        exact fun σ' Hk' H' k' r' => q .non Hk' H' k' r'.hk r'.g (at0 r' z1).1 (at0 r' z1).2 (fun h => by cases h) (rp_non (C := ⟨K, cm⟩) (H := Hk'))
    | bk => exact q.elim
    | ct => exact q.elim
    | rt t =>
      dsimp only at q
      intro v σ' Hk' H' k' r' rt
      by_cases z0 : isS0 t = true
      · rw [if_pos z0] at q; exact q.elim
      · rw [if_neg z0] at q
        cases z2 : outTk t e1 with
        | none => rw [z2] at q; exact q.elim
        | some ob =>
          obtain ⟨nw, d⟩ := ob
          cases z1 : own0 e1 with
          | none => rw [z2, z1] at q; exact q.elim
          | some p =>
            rw [z2, z1] at q
            have a0 := own0_at z1
            have s0 := r'.pn a p rfl a0
            refine q v Hk' H' k' r'.hk r'.g (at0 r' z1).1 (at0 r' z1).2 (fun hnw hv => ?_) (outTk_bk r' rt z2)
            subst hv
            cases t with
            | val x => cases z2; cases hnw
            | new x =>
              obtain ⟨b, hb1, _, _, h4⟩ := rt
              cases hb1
              exact h4 0 p a0 s0
            | slot j =>
              have rt : σ'[j]? = some (some (.ref a)) := rt
              unfold outTk at z2
              dsimp only at z2
              split at z2
              · cases z2; cases hnw
              · rename_i x hx
                have := r'.inj j 0 x p a hx a0 rt s0
                subst this
                exact z0 rfl
              · cases z2
end

/-! ### calls that change the object of slot k -/
section
variable {C : Ct} {xa : Xa} {G Hk Hk' H H' : Hp} {a : Addr} {d : D}
/-- what others may rely on, but for the object at a -/
theorem OwA.cut (g : Ex G H) (h : OwA C G Hk H a d) : ∃ G', Ex G G' ∧ Ex G' H ∧ OwA C G' Hk H a d ∧ ∀ b o, H b = some o → b ≠ a → o ≠ .own a → G' b = some o := by
  cases d with
  | lst xs =>
    obtain ⟨g1, vs, h1, h2⟩ := h
    refine ⟨fun b => if b = a then none else H b, fun b o hb => ?_, fun b o hb => ?_, ⟨by simp, vs, h1, h2⟩, fun b o hb ne _ => by simp [ne, hb]⟩
    · have : b ≠ a := fun e => by rw [e, g1] at hb; cases hb
      simp [this, g b o hb]
    · by_cases e : b = a
      · simp [e] at hb
      · simpa [e] using hb
  | ins c ns xs =>
    obtain ⟨g1, dx, vs, h1, h2, h3, h4, h5⟩ := h
    refine ⟨fun b => if b = a ∨ b = dx then none else H b, fun b o hb => ?_, fun b o hb => ?_, ⟨by simp, dx, vs, h1, h2, h3, h4, by simp⟩, fun b o hb ne no => ?_⟩
    · have e1 : b ≠ a := fun e => by rw [e, g1] at hb; cases hb
      have e2 : b ≠ dx := fun e => by rw [e, h5] at hb; cases hb
      simp [e1, e2, g b o hb]
    · by_cases e : b = a ∨ b = dx
      · simp [e] at hb
      · simpa [e] using hb
    · have : b ≠ dx := fun e => by rw [e, h2] at hb; cases hb; exact no rfl
      simp [ne, this, hb]
  | dic ks xs =>
    obtain ⟨g1, vs, h1, h2, h3⟩ := h
    refine ⟨fun b => if b = a then none else H b, fun b o hb => ?_, fun b o hb => ?_, ⟨by simp, vs, h1, h2, h3⟩, fun b o hb ne _ => by simp [ne, hb]⟩
    · have : b ≠ a := fun e => by rw [e, g1] at hb; cases hb
      simp [this, g b o hb]
    · by_cases e : b = a
      · simp [e] at hb
      · simpa [e] using hb
  | _ => exact h.elim
theorem RE.backIO {G' : Hp} {e : Env} {σ : L2.St} {k : Nat} {p : D} (r : RE C xa G e σ Hk H) (hk : e[k]? = some (.ow d)) (hs : σ[k]? = some (some (.ref a))) (gg : Ex G G') (keep : ∀ b o, H b = some o → b ≠ a → o ≠ .own a → G' b = some o)
    (k1 : Kx G' Hk Hk') (x1 : Ex Hk' H') (x2 : Ex G' H') (h0 : Hk' a = none) (o : OwA C G' Hk' H' a p) : RE C xa G (e.set k (.ow p)) σ Hk' H' ∧ Kx G Hk Hk' := by
  have ow_keep : ∀ (i : Nat) (x : D), i ≠ k → e[i]? = some (.ow x) → ∃ b, b ≠ a ∧ σ[i]? = some (some (.ref b)) ∧ Hk' b = none ∧ OwA C G Hk' H' b x := fun i x ne hi => by
    obtain ⟨b, h1, h2, h3⟩ := r.ow i x hi
    have nb : b ≠ a := fun z => by
      subst z
      exact ne (r.inj i k x d b hi hk h1 hs)
    obtain ⟨u, hu, iu⟩ := h3.at
    have no : u ≠ .own a := fun z => by rw [z] at iu; exact iu
    refine ⟨b, nb, h1, ?_, ?_⟩
    · cases z : Hk' b with
      | none => rfl
      | some o' =>
        have := k1.new b o' z h2
        rw [keep b u hu nb no] at this
        cases this
    · cases x with
      | lst xs =>
        obtain ⟨g1, vs, g2, g3⟩ := h3
        exact ⟨g1, vs, x2 _ _ (keep _ _ g2 nb (fun z => by cases z)), g3.mono k1.ex⟩
      | ins c ns xs =>
        obtain ⟨g1, dx, vs, g2, g3, g4, g5, g6⟩ := h3
        have ndx : dx ≠ a := fun z => by
          rw [z] at g3
          obtain ⟨_, oa⟩ := r.owAt hk hs
          obtain ⟨u, hu, iu⟩ := oa.at
          rw [g3] at hu
          cases hu
          exact iu.elim
        exact ⟨g1, dx, vs, x2 _ _ (keep _ _ g2 nb (fun z => by cases z)), x2 _ _ (keep _ _ g3 ndx (fun z => by cases z; exact nb rfl)), g4, g5.mono k1.ex, g6⟩
      | dic ks xs =>
        obtain ⟨g1, vs, g2, g3, g4⟩ := h3
        exact ⟨g1, vs, x2 _ _ (keep _ _ g2 nb (fun z => by cases z)), g3, g4.mono k1.ex⟩
      | _ => exact h3.elim
  refine ⟨⟨by simpa using r.len, x1, gg.trans x2, fun i x hi => ?_, fun i x hi => ?_, fun i j x x' b h1 h2 s1 s2 => ?_, fun i c ns xs hi => ?_, fun b x hp hi => ?_⟩, k1.ex, fun b o' h1 h2 => gg.back (k1.new b o' h1 h2)⟩
  · rcases set_get hi with ⟨_, _, z⟩ | ⟨_, hi⟩
    · cases z
    · obtain ⟨v, h1, h2⟩ := r.sh i x hi
      exact ⟨v, h1, h2.mono k1.ex⟩
  · rcases set_get hi with ⟨z, _, z2⟩ | ⟨ne, hi⟩
    · subst z
      cases z2
      exact ⟨a, hs, h0, o.gmono gg⟩
    · obtain ⟨b, _, h1, h2, h3⟩ := ow_keep i x (Ne.symm ne) hi
      exact ⟨b, h1, h2, h3⟩
  · have f : ∀ {m : Nat} {y : D}, (e.set k (.ow p))[m]? = some (.ow y) → ∃ y', e[m]? = some (.ow y') := fun {m y} hm => by
      rcases set_get hm with ⟨z, _, _⟩ | ⟨_, hm⟩
      · subst z; exact ⟨d, hk⟩
      · exact ⟨y, hm⟩
    obtain ⟨y1, q1⟩ := f h1
    obtain ⟨y2, q2⟩ := f h2
    exact r.inj i j y1 y2 b q1 q2 s1 s2
  · rcases set_get hi with ⟨_, _, z⟩ | ⟨_, hi⟩
    · cases z
    · obtain ⟨b, cls, dd, h1, h2, h3, h4⟩ := r.xv i c ns xs hi
      refine ⟨b, cls, dd, h1, h2, h3, ?_⟩
      rcases h4 with h4 | ⟨dx, vs, e1, e2, e3, e4⟩
      · exact .inl h4
      · have ndx : dx ≠ a := fun z => by
          rw [z] at e2
          obtain ⟨_, oa⟩ := r.owAt hk hs
          obtain ⟨u, hu, iu⟩ := oa.at
          rw [e2] at hu
          cases hu
          exact iu.elim
        exact .inr ⟨dx, vs, e1, x2 _ _ (keep _ _ e2 ndx (fun z => by cases z)), e3, e4.mono k1.ex⟩
  · rcases set_get hi with ⟨z, _, _⟩ | ⟨_, hi⟩
    · subst z
      exact r.pn b d hp hk
    · exact r.pn b x hp hi
end
section
variable {X : Cx} {y : Y} {a b c e o : Expr} {es : List Expr} {m m1 m2 m3 : M Tk} {ma : M (List Tk)} {pos p p2 : Pos}
def isOwn (k : Nat) (env : Env) : Bool := match env[k]? with
  | some (.ow _) => true
  | _ => false
def owD (k : Nat) (env : Env) : Option D := match env[k]? with
  | some (.ow d) => some d
  | _ => none
theorem owD_at {k : Nat} {env : Env} {d : D} (h : owD k env = some d) : env[k]? = some (.ow d) := by
  unfold owD at h
  split at h
  · rename_i z; cases h; exact z
  · cases h
def mCallIO (F : List D → Rf) (k : Nat) (ma : M (List Tk)) : M Tk := fun env => match owD k env with
  | none => .bad
  | some _ => mBind ma (fun ts e1 => match forceAll ts e1 with
    | .ok ds e2 => match owD k e2 with
      | none => .bad
      | some d0 => match F (d0 :: ds) with
        | .ok nw d p => .ok (tkOf nw d) (e2.set k (.ow p))
        | .ex c ns xs p => .ex c ns xs (e2.set k (.ow p))
        | .bad => .bad
    | _ => .bad) env
variable {F : List D → Rf} {k : Nat} {f : Addr} {fd : FuncData} {ps : List Str} {x : Str} {j : Nat}
/-- f(x, e, ..), x the name of slot j, whose object f may change -/
theorem px_callIO (FO : FnOk X.prog X.w X.K X.mg X.base (L2.CX X.prog X.w) k f fd ps (spIO (y.ct X) ps.length F)) (hr : Room k X.A) (hm : X.mg x = some (.ref f)) (hk : PySem.W.keepIn X.K (.ref f) = true) (hb : Binds X.K fd ps []) (tk : Takes X y.W)
    {nn : Nat} (hn : Many ma nn) (hps : ps.length = nn + 1) (ho : PE X o (tVar j)) (ha : PAs X y es ma) (hg : Gl X x := by rfl) (hdb : (x == ("__debug__" : Str)) = false := by decide)
    (he : starEach (o :: es) X.env = (false, eval o X.env) :: starEach es X.env := by rfl) (hpl : (backTo pos (starEach es X.env)).any (·.1) = false := by rfl) :
    PX X y (.Call (.Name x p) (o :: es) [] pos) (mCallIO F j ma) := by
  refine ⟨PE_imp (pe_callSD FO hr hg hm hk hb .nil (fun σ => passAt tk σ) (pa_cons ho ha.pa he) hdb he hpl) fun σ H Q ⟨env, Hk, G, re, q⟩ => ?_⟩
  unfold mCallIO at q
  cases z : owD j env with
  | none => rw [z] at q; exact q.elim
  | some dd =>
    rw [z] at q
    obtain ⟨a0, ha0, _, _⟩ := re.ow j _ (owD_at z)
    refine ⟨.ref a0, ha0, env, Hk, G, re, pa_bindN hn q fun ts e1 vs Hk1 H1 k1 r1 rs hl q1 => ?_⟩
    show spIO (y.ct X) ps.length F (V.ref a0 :: (vs ++ [])) H1 Q (WE y.W σ)
    rw [List.append_nil]
    rcases forceAll_cases ts e1 with ⟨ds, e2, z1⟩ | z1
    · rw [z1] at q1
      dsimp only at q1
      obtain ⟨Hk2, k2, r2, rl⟩ := RVs.force r1 rs z1
      cases z2 : owD j e2 with
      | none => rw [z2] at q1; exact q1.elim
      | some d0 =>
        rw [z2] at q1
        dsimp only at q1
        have hj := owD_at z2
        obtain ⟨h0, oa⟩ := r2.owAt hj ha0
        obtain ⟨G', gg, gH, oa', keep⟩ := oa.cut r2.g
        refine ⟨by simp; rw [← rs.len, hl, hps], a0, vs, d0, ds, Hk2, G', rfl, gH, r2.hk, h0, oa', rl, ?_⟩
        cases z3 : F (d0 :: ds) with
        | bad => rw [z3] at q1; exact q1.elim
        | ok nw d p =>
          rw [z3] at q1
          dsimp only at q1 ⊢
          intro v Hk' H' kx x1 x2 n0 op hnv bk
          obtain ⟨r3, k3⟩ := r2.backIO hj ha0 gg keep kx x1 x2 n0 op
          refine q1 v Hk' H' (k2.trans k3) r3 ?_
          cases nw with
          | false => exact bk
          | true =>
            obtain ⟨b, rfl, b1, b2⟩ := bk
            refine ⟨b, rfl, b1, b2.gmono gg, fun i d' hi hs => ?_⟩
            rcases set_get hi with ⟨z, _, _⟩ | ⟨ne, hi⟩
            · subst z
              rw [ha0] at hs
              cases hs
              exact hnv rfl rfl
            · obtain ⟨_, ob⟩ := r2.owAt hi hs
              obtain ⟨u, hu, iu⟩ := ob.at
              have nb : b ≠ a0 := fun z => hnv rfl (by rw [z])
              have := b2.g
              rw [keep b u hu nb (fun z => by rw [z] at iu; exact iu)] at this
              cases this
        | ex c ns xs p =>
          rw [z3] at q1
          dsimp only at q1 ⊢
          intro cls dd Hk' H' kx x1 x2 n0 op rx
          obtain ⟨r3, k3⟩ := r2.backIO hj ha0 gg keep kx x1 x2 n0 op
          exact q1 cls dd Hk' H' (k2.trans k3) r3 rx
    · rw [z1] at q1; exact q1.elim
end
end VM

set_option Elab.async false
set_option linter.all false
set_option maxRecDepth 100000
set_option maxHeartbeats 1000000
/-! VM A: short words for the printed derivations -/
namespace VM
open PySem PySem.Spec PyProof.Rows L2
/-- a def of the text that may be called -/
structure CF (P : Program) (w : World) (K : PySem.W.Frag) (mg : Str → Option Value) (base : Heap) (cm : Nat → Addr) (x : Str) (k : Nat) (ps : List Str) (F : List D → Rf) : Prop where
  ex : ∃ f fd, FnOk P w K mg base (L2.CX P w) k f fd ps (spF ⟨K, cm⟩ ps.length F) ∧ mg x = some (.ref f) ∧ PySem.W.keepIn K (.ref f) = true ∧ Binds K fd ps []
structure CIO (P : Program) (w : World) (K : PySem.W.Frag) (mg : Str → Option Value) (base : Heap) (cm : Nat → Addr) (x : Str) (k : Nat) (ps : List Str) (F : List D → Rf) : Prop where
  ex : ∃ f fd, FnOk P w K mg base (L2.CX P w) k f fd ps (spIO ⟨K, cm⟩ ps.length F) ∧ mg x = some (.ref f) ∧ PySem.W.keepIn K (.ref f) = true ∧ Binds K fd ps []
section
variable {X : Cx} {y : Y} {a b c e o : Expr} {es rest : List Expr} {m m1 m2 m3 : M Tk} {ma : M (List Tk)} {n n1 n2 : M Bool} {pos p p2 : Pos} {F : List D → Rf} {k kk : Nat} {ps : List Str} {x : Str}
theorem px_callC (h : CF X.prog X.w X.K X.mg X.base y.cm x k ps F) (hr : Room kk X.A) (tk : Takes X y.W) (ha : PAs X y (e :: es) ma) (hn : Many ma ps.length := by repeat first | exact many_nil | refine many_cons ?_) (hk : k ≤ kk := by decide) (hg : Gl X x := by rfl) (hdb : (x == ("__debug__" : Str)) = false := by decide)
    (he : starEach (e :: es) X.env = (false, eval e X.env) :: starEach es X.env := by rfl) (hpl : (backTo pos (starEach es X.env)).any (·.1) = false := by rfl) : PX X y (.Call (.Name x p) (e :: es) [] pos) (mCallF F ma) := by
  obtain ⟨f, fd, h1, h2, h3, h4⟩ := h.ex
  exact px_call h1 (hr.mono hk) h2 h3 h4 tk hn ha hg hdb he hpl
theorem px_callI (j : Nat) (h : CIO X.prog X.w X.K X.mg X.base y.cm x k ps F) (hr : Room kk X.A) (tk : Takes X y.W) (ho : PE X o (tVar j)) (ha : PAs X y es ma) {nn : Nat} (hps : ps.length = nn + 1 := by rfl) (hn : Many ma nn := by repeat first | exact many_nil | refine many_cons ?_) (hk : k ≤ kk := by decide) (hg : Gl X x := by rfl) (hdb : (x == ("__debug__" : Str)) = false := by decide)
    (he : starEach (o :: es) X.env = (false, eval o X.env) :: starEach es X.env := by rfl) (hpl : (backTo pos (starEach es X.env)).any (·.1) = false := by rfl) : PX X y (.Call (.Name x p) (o :: es) [] pos) (mCallIO F j ma) := by
  obtain ⟨f, fd, h1, h2, h3, h4⟩ := h.ex
  exact px_callIO h1 (hr.mono hk) h2 h3 h4 tk hn hps ho ha hg hdb he hpl
theorem hu65 (hr : Room kk X.A) : X.A.units + 65 < cLine := by have := hr.un; omega
theorem px_lt (ha : PX X y a m1) (hb : PX X y b m2) : PX X y (.Compare a [.Lt] [b] pos) (mBin (lift cLt) m1 m2) := px_cmp op_lt cI_ok ha hb (nomark _)
theorem px_le (ha : PX X y a m1) (hb : PX X y b m2) : PX X y (.Compare a [.LtE] [b] pos) (mBin (lift cLe) m1 m2) := px_cmp op_le cI_ok ha hb (nomark _)
theorem px_gt (ha : PX X y a m1) (hb : PX X y b m2) : PX X y (.Compare a [.Gt] [b] pos) (mBin (lift cGt) m1 m2) := px_cmp op_gt cI_ok ha hb (nomark _)
theorem px_ge (ha : PX X y a m1) (hb : PX X y b m2) : PX X y (.Compare a [.GtE] [b] pos) (mBin (lift cGe) m1 m2) := px_cmp op_ge cI_ok ha hb (nomark _)
theorem px_eq (hr : Room kk X.A) (ha : PX X y a m1) (hb : PX X y b m2) : PX X y (.Compare a [.Eq] [b] pos) (mBin (lift cEq) m1 m2) := px_cmp (op_eqD hr.units) eq_ok ha hb (nomark _)
theorem px_ne (hr : Room kk X.A) (ha : PX X y a m1) (hb : PX X y b m2) : PX X y (.Compare a [.NotEq] [b] pos) (mBin (lift cNe) m1 m2) := px_cmp (op_neD hr.units) ne_ok ha hb (nomark _)
theorem px_is (ha : PX X y a m1) (hb : PX X y b m2) : PX X y (.Compare a [.Is] [b] pos) (mBin (lift cIs) m1 m2) := px_cmp op_isN is_ok ha hb (nomark _)
theorem px_isnot (ha : PX X y a m1) (hb : PX X y b m2) : PX X y (.Compare a [.IsNot] [b] pos) (mBin (lift cIsNot) m1 m2) := px_cmp op_notN isnot_ok ha hb (nomark _)
theorem px_in (hr : Room kk X.A) (ha : PX X y a m1) (hb : PX X y b m2) (hm : behindInMarks .In b = false := by rfl) : PX X y (.Compare a [.In] [b] pos) (mBin (lift cIn) m1 m2) := px_cmp (opR_or op_in_seq (op_inD (hu65 hr))) in_ok ha hb hm
theorem px_notin (hr : Room kk X.A) (ha : PX X y a m1) (hb : PX X y b m2) (hm : behindInMarks .NotIn b = false := by rfl) : PX X y (.Compare a [.NotIn] [b] pos) (mBin (lift cNotIn) m1 m2) := px_cmp (opR_or op_notIn_seq (op_notInD (hu65 hr))) notin_ok ha hb hm
theorem pb_lt (ha : PX X y a m1) (hb : PX X y b m2) : PB X y (.Compare a [.Lt] [b] pos) (mCmp cLt m1 m2) := pb_cmp op_lt cI_ok ha hb (nomark _)
theorem pb_le (ha : PX X y a m1) (hb : PX X y b m2) : PB X y (.Compare a [.LtE] [b] pos) (mCmp cLe m1 m2) := pb_cmp op_le cI_ok ha hb (nomark _)
theorem pb_gt (ha : PX X y a m1) (hb : PX X y b m2) : PB X y (.Compare a [.Gt] [b] pos) (mCmp cGt m1 m2) := pb_cmp op_gt cI_ok ha hb (nomark _)
theorem pb_ge (ha : PX X y a m1) (hb : PX X y b m2) : PB X y (.Compare a [.GtE] [b] pos) (mCmp cGe m1 m2) := pb_cmp op_ge cI_ok ha hb (nomark _)
theorem pb_eq (hr : Room kk X.A) (ha : PX X y a m1) (hb : PX X y b m2) : PB X y (.Compare a [.Eq] [b] pos) (mCmp cEq m1 m2) := pb_cmp (op_eqD hr.units) eq_ok ha hb (nomark _)
theorem pb_ne (hr : Room kk X.A) (ha : PX X y a m1) (hb : PX X y b m2) : PB X y (.Compare a [.NotEq] [b] pos) (mCmp cNe m1 m2) := pb_cmp (op_neD hr.units) ne_ok ha hb (nomark _)
theorem pb_is (ha : PX X y a m1) (hb : PX X y b m2) : PB X y (.Compare a [.Is] [b] pos) (mCmp cIs m1 m2) := pb_cmp op_isN is_ok ha hb (nomark _)
theorem pb_isnot (ha : PX X y a m1) (hb : PX X y b m2) : PB X y (.Compare a [.IsNot] [b] pos) (mCmp cIsNot m1 m2) := pb_cmp op_notN isnot_ok ha hb (nomark _)
theorem pb_in (hr : Room kk X.A) (ha : PX X y a m1) (hb : PX X y b m2) (hm : behindInMarks .In b = false := by rfl) : PB X y (.Compare a [.In] [b] pos) (mCmp cIn m1 m2) := pb_cmp (opR_or op_in_seq (op_inD (hu65 hr))) in_ok ha hb hm
theorem pb_notin (hr : Room kk X.A) (ha : PX X y a m1) (hb : PX X y b m2) (hm : behindInMarks .NotIn b = false := by rfl) : PB X y (.Compare a [.NotIn] [b] pos) (mCmp cNotIn m1 m2) := pb_cmp (opR_or op_notIn_seq (op_notInD (hu65 hr))) notin_ok ha hb hm
/-- a <= b <= c -/
def mChain (f g : D → D → Option Bool) (m1 m2 m3 : M Tk) : M Tk := mBind m1 fun t1 => mBind m2 fun t2 env => match look t1.settle env, look t2 env with
  | some a, some b => match f a b with
    | some true => mBind m3 (fun t3 e3 => match look t2.settle e3, look t3 e3 with
      | some b', some c => mOf ((g b' c).map fun k => .val (.bl k)) e3
      | _, _ => .bad) env
    | some false => .ok (.val (.bl false)) env
    | none => .bad
  | _, _ => .bad
/-! built-ins by their names -/
theorem px_int1 (hm : X.mg "int" = none) (ha : PAs X y [e] ma) (hg : Gl X "int" := by rfl) (he : starEach [e] X.env = (false, eval e X.env) :: starEach [] X.env := by rfl) : PX X y (.Call (.Name "int" p) [e] [] pos) (mCall (fn1 dInt) ma) := px_typ call_int1 int_ok hg hm (by decide +kernel) ha (he := he) (hpl := by rfl)
theorem px_abs (hm : X.mg "abs" = none) (ha : PAs X y [e] ma) (hg : Gl X "abs" := by rfl) (he : starEach [e] X.env = (false, eval e X.env) :: starEach [] X.env := by rfl) : PX X y (.Call (.Name "abs" p) [e] [] pos) (mCall (fn1 dAbs) ma) := px_blt call_abs abs_ok hg hm (by decide +kernel) ha (he := he) (hpl := by rfl)
theorem px_sum (hc : X.calm = true) (hm : X.mg "sum" = none) (ha : PAs X y [e] ma) (hg : Gl X "sum" := by rfl) (he : starEach [e] X.env = (false, eval e X.env) :: starEach [] X.env := by rfl) : PX X y (.Call (.Name "sum" p) [e] [] pos) (mCall (fn1 dSum) ma) := px_blt (cr_sum hc) sum_ok hg hm (by decide +kernel) ha (he := he) (hpl := by rfl)
theorem px_any (hc : X.calm = true) (hm : X.mg "any" = none) (ha : PAs X y [e] ma) (hg : Gl X "any" := by rfl) (he : starEach [e] X.env = (false, eval e X.env) :: starEach [] X.env := by rfl) : PX X y (.Call (.Name "any" p) [e] [] pos) (mCall (fn1 dAny) ma) := px_blt (cr_any hc) any_ok hg hm (by decide +kernel) ha (he := he) (hpl := by rfl)
theorem px_all (hc : X.calm = true) (hm : X.mg "all" = none) (ha : PAs X y [e] ma) (hg : Gl X "all" := by rfl) (he : starEach [e] X.env = (false, eval e X.env) :: starEach [] X.env := by rfl) : PX X y (.Call (.Name "all" p) [e] [] pos) (mCall (fn1 dAll) ma) := px_blt (cr_all hc) all_ok hg hm (by decide +kernel) ha (he := he) (hpl := by rfl)
theorem px_tuple (hm : X.mg "tuple" = none) (ha : PAs X y [e] ma) (hg : Gl X "tuple" := by rfl) (he : starEach [e] X.env = (false, eval e X.env) :: starEach [] X.env := by rfl) : PX X y (.Call (.Name "tuple" p) [e] [] pos) (mCall (fn1 dTuple) ma) := px_typ call_tuple_of tuple_ok hg hm (by decide +kernel) ha (he := he) (hpl := by rfl)
theorem px_list (hm : X.mg "list" = none) (ha : PAs X y [e] ma) (hg : Gl X "list" := by rfl) (he : starEach [e] X.env = (false, eval e X.env) :: starEach [] X.env := by rfl) : PX X y (.Call (.Name "list" p) [e] [] pos) (mCall (fn1 dList) ma) := px_typ call_list_of list_ok hg hm (by decide +kernel) ha (he := he) (hpl := by rfl)
end
section
variable {P : Program} {w : World} {K : PySem.W.Frag} {mg : Str → Option Value} {base : Heap} {N : List Str} {qual : Str} {scope : Scope} {f : Addr} {cdv : Value} {A : Around} {outer : List PySem.Env} {s : Shared} {H : Hp} {E : XK}
theorem tkF : Takes (cxOf (L2.CX P w) P w K mg base N qual scope f cdv A outer s H E) (fun cls d _ H => E cls d H) := takes_of rfl rfl rfl rfl
theorem hpF : PassesOwn (model P w) (cxOf (L2.CX P w) P w K mg base N qual scope f cdv A outer s H E).A (cxOf (L2.CX P w) P w K mg base N qual scope f cdv A outer s H E).env (cxOf (L2.CX P w) P w K mg base N qual scope f cdv A outer s H E).xe := passes_of (X := cxOf (L2.CX P w) P w K mg base N qual scope f cdv A outer s H E) rfl
end
end VM

set_option Elab.async false
set_option linter.all false
set_option maxRecDepth 100000
set_option maxHeartbeats 1000000
/-! VM B: isinstance -/
namespace VM
open PySem PySem.Spec PyProof.Rows L2
def tyNames : List String := ["NoneType", "bool", "int", "str", "list", "tuple", "dict"]
/-- a built-in type under a built-in class -/
def tyTab (a b : String) : Option Bool := if tyNames.contains a && tyNames.contains b && b != "NoneType" then some (a == b || (a == "bool" && b == "int")) else none
theorem tyTab_all : (tyNames.all fun a => tyNames.all fun b => b == "NoneType" || kitB a b == some (a == b || (a == "bool" && b == "int"))) = true := by decide +kernel
theorem tyTab_ok {a b : String} {r : Bool} (h : tyTab a b = some r) : kitB a b = some r := by
  unfold tyTab at h
  split at h
  · rename_i hc
    cases h
    rw [Bool.and_eq_true, Bool.and_eq_true] at hc
    obtain ⟨⟨h1, h2⟩, h3⟩ := hc
    have q := List.all_eq_true.mp tyTab_all a (by simpa using h1)
    have q := List.all_eq_true.mp q b (by simpa using h2)
    rw [Bool.or_eq_true] at q
    rcases q with q | q
    · simp at q; subst q; simp at h3
    · exact eq_of_beq q
  · cases h
/-- what isinstance asks of an own class -/
structure IF (K : PySem.W.Frag) (C : Addr) : Prop where
  cl : Cls K C
  ha : PySem.W.findIn K (.ref C) "__class__" = some (some (.builtin "object.__class__"))
  hn : PySem.W.specialIn K (.builtin "object.__class__") "__get__" = some (some (.builtin "getset_descriptor.__get__"))
  tk : PySem.W.takesIn K (.builtin "object.__class__") = some true
  hm : PySem.W.mroIn K C (.type "object") = some true
def valT (cm : Nat → Addr) : D → Option Value
  | .ty n => some (.type n)
  | .cl c => some (.ref (cm c))
  | _ => none
/-- which class is under which -/
structure Sub (K : PySem.W.Frag) (cm : Nat → Addr) (sub : D → D → Option Bool) (ic : List Nat) : Prop where
  ok : ∀ t c b tv cv, sub t c = some b → valT cm t = some tv → valT cm c = some cv → PySem.W.kitOne K tv cv = some b
  ic : ∀ c ∈ ic, IF K (cm c)
def sub0 : D → D → Option Bool
  | .ty a, .ty b => tyTab a b
  | _, _ => none
theorem sub0_ok {K : PySem.W.Frag} {cm : Nat → Addr} : Sub K cm sub0 [] := ⟨fun t c b tv cv h h1 h2 => by
  cases t <;> cases c <;> first
    | (cases h; done)
    | (cases h1; cases h2; exact kit_ty (tyTab_ok h)), fun c h => by cases h⟩
def tyD (ic : List Nat) : D → Option D
  | .non => some (.ty "NoneType")
  | .bl _ => some (.ty "bool")
  | .int _ => some (.ty "int")
  | .str _ => some (.ty "str")
  | .lst _ => some (.ty "list")
  | .tup _ => some (.ty "tuple")
  | .ins c _ _ => if ic.contains c = true then some (.cl c) else none
  | .dic _ _ => some (.ty "dict")
  | _ => none
def anyT (sub : D → D → Option Bool) (t : D) : List D → Option Bool
  | [] => some false
  | c :: cs => match sub t c with
    | some true => some true
    | some false => anyT sub t cs
    | none => none
def isT : D → Bool
  | .ty _ => true
  | .cl _ => true
  | _ => false
def dIsi (sub : D → D → Option Bool) (ic : List Nat) (x c : D) : Option Tk := match tyD ic x with
  | none => none
  | some t => match c with
    | .tup cs => if cs.all isT = true then (anyT sub t cs).map fun b => .val (.bl b) else none
    | c => if isT c = true then (sub t c).map fun b => .val (.bl b) else none
section
variable {X : Cx} {y : Y} {a b c e : Expr} {es : List Expr} {m m1 m2 : M Tk} {ma : M (List Tk)} {pos p p2 : Pos}
theorem ty_v {K : PySem.W.Frag} {cm : Nat → Addr} {ic : List Nat} (hic : ∀ c ∈ ic, IF K (cm c)) {Hk H : Hp} (e : Ex Hk H) {d t : D} {v : V} (h : Pk ⟨K, cm⟩ Hk H d v) (q : tyD ic d = some t) : ∃ tv, valT cm t = some tv ∧ TyX K H v tv := by
  cases d with
  | non => cases q; cases h.non; exact ⟨_, rfl, .base .non⟩
  | bl b => cases q; cases h.bl; exact ⟨_, rfl, .base (.bl b)⟩
  | int i => cases q; cases h.int; exact ⟨_, rfl, .base (.int i)⟩
  | str s => cases q; cases h.str; exact ⟨_, rfl, .base (.str s)⟩
  | lst xs => cases q; obtain ⟨a, vs, rfl, h1, _⟩ := h.lst e; exact ⟨_, rfl, .base (.lst h1)⟩
  | tup xs => cases q; obtain ⟨a, vs, rfl, h1, _⟩ := h.tup e; exact ⟨_, rfl, .base (.tup h1)⟩
  | dic ks xs => cases q; obtain ⟨a, vs, rfl, h1, _⟩ := h.dic e; exact ⟨_, rfl, .base (.dT h1)⟩
  | ins c ns xs =>
    dsimp only [tyD] at q
    split at q
    · rename_i hc
      cases q
      obtain ⟨a, dx, vs, rfl, h1, _⟩ := h.ins e
      have f := hic c (by simpa using hc)
      exact ⟨_, rfl, .base (.ins h1 f.cl f.ha f.hn f.tk f.hm)⟩
    · cases q
  | _ => cases q
theorem isT_v {K : PySem.W.Frag} {cm : Nat → Addr} {H : Hp} {d : D} {v : V} (f : isT d = true) (h : Rp ⟨K, cm⟩ H d v) : ∃ cv, valT cm d = some cv ∧ ClsV v cv := by
  cases d with
  | ty n => unfold Rp at h; subst h; exact ⟨_, rfl, .ty n⟩
  | cl c => unfold Rp at h; subst h; exact ⟨_, rfl, .own _⟩
  | _ => cases f
theorem any_v {K : PySem.W.Frag} {cm : Nat → Addr} {sub : D → D → Option Bool} {ic : List Nat} (S : Sub K cm sub ic) {H : Hp} {t : D} {tv : Value} (ht : valT cm t = some tv) : ∀ {cs : List D} {vs : List V} {r : Bool}, cs.all isT = true → RpL ⟨K, cm⟩ H cs vs → anyT sub t cs = some r → ∃ us, Paired ClsV vs us ∧ PySem.W.kitAny K tv us = some r
  | [], _, _, _, h, q => by unfold RpL at h; subst h; cases q; exact ⟨[], .nil, kitAny_nil⟩
  | c :: cs, _, r, f, h, q => by
    obtain ⟨v, vr, rfl, h1, h2⟩ := h.inv
    rw [List.all_cons, Bool.and_eq_true] at f
    obtain ⟨cv, hc, hv⟩ := isT_v f.1 h1
    unfold anyT at q
    cases z : sub t c with
    | none => rw [z] at q; cases q
    | some b =>
      rw [z] at q
      have k := S.ok t c b tv cv z ht hc
      cases b with
      | true =>
        cases q
        have ex : ∀ {cs : List D} {vr : List V}, cs.all isT = true → RpL ⟨K, cm⟩ H cs vr → ∃ us, Paired ClsV vr us := by
          intro cs
          induction cs with
          | nil => intro vr _ h; unfold RpL at h; subst h; exact ⟨[], .nil⟩
          | cons c cs ih =>
            intro vr f h
            obtain ⟨v, r, rfl, h1, h2⟩ := h.inv
            rw [List.all_cons, Bool.and_eq_true] at f
            obtain ⟨cv, _, hv⟩ := isT_v f.1 h1
            obtain ⟨us, hu⟩ := ih f.2 h2
            exact ⟨cv :: us, .cons hv hu⟩
        obtain ⟨us, hu⟩ := ex f.2 h2
        refine ⟨cv :: us, .cons hv hu, ?_⟩
        unfold PySem.W.kitAny
        rw [k]
      | false =>
        obtain ⟨us, hu, hk⟩ := any_v S ht f.2 h2 q
        exact ⟨cv :: us, .cons hv hu, kitAny_cons k (fun _ => hk) (fun z => by cases z)⟩
theorem isi_ok {sub : D → D → Option Bool} {ic : List Nat} (S : Sub X.K y.cm sub ic) : OpN X y (fn2 (dIsi sub ic)) (fun xs H Q => rIsi X.K xs H Q ∨ rIsiT X.K xs H Q) := op2N (by
  intro Hk H a b v w t Q e h pa pb q
  unfold dIsi at h
  cases z : tyD ic a with
  | none => rw [z] at h; cases h
  | some ta =>
    rw [z] at h
    obtain ⟨tv, h1, h2⟩ := ty_v S.ic e pa z
    have one : ∀ c : D, isT c = true → Pk (y.ct X) Hk H c w → ∀ r, sub ta c = some r → t = .val (.bl r) → rIsi X.K [v, w] H Q := fun c ic' pc r hr ht => by
      obtain ⟨cv, hc, hv⟩ := isT_v (K := X.K) (cm := y.cm) ic' (pc.all e)
      subst ht
      exact ⟨v, w, tv, cv, r, rfl, hv, h2, S.ok _ _ _ _ _ hr h1 hc, q _ _ (res_flat rp_bl e)⟩
    cases b with
    | tup cs =>
      dsimp only at h
      split at h
      · rename_i hc
        cases z2 : anyT sub ta cs with
        | none => rw [z2] at h; cases h
        | some r =>
          rw [z2] at h
          cases h
          obtain ⟨p, vs, rfl, g1, g2, _⟩ := pb.tup e
          obtain ⟨us, hu, hk⟩ := any_v S h1 hc g2 z2
          exact .inr ⟨v, p, vs, tv, us, r, rfl, g1, hu, h2, hk, q _ _ (res_flat rp_bl e)⟩
      · cases h
    | ty n =>
      have h : (sub ta (.ty n)).map (fun b => Tk.val (.bl b)) = some t := h
      cases z2 : sub ta (.ty n) with
      | none => rw [z2] at h; cases h
      | some r => rw [z2] at h; cases h; exact .inl (one (.ty n) rfl pb r z2 rfl)
    | cl n =>
      have h : (sub ta (.cl n)).map (fun b => Tk.val (.bl b)) = some t := h
      cases z2 : sub ta (.cl n) with
      | none => rw [z2] at h; cases h
      | some r => rw [z2] at h; cases h; exact .inl (one (.cl n) rfl pb r z2 rfl)
    | _ => exact absurd h (by simp [isT]))
theorem px_isi {sub : D → D → Option Bool} {ic : List Nat} (S : Sub X.K y.cm sub ic) (hm : X.mg "isinstance" = none) (ha : PAs X y [a, b] ma) (hg : Gl X "isinstance" := by rfl) (he : starEach [a, b] X.env = (false, eval a X.env) :: starEach [b] X.env := by rfl) (hpl : (backTo pos (starEach [b] X.env)).any (·.1) = false := by rfl) :
    PX X y (.Call (.Name "isinstance" p) [a, b] [] pos) (mCall (fn2 (dIsi sub ic)) ma) := px_blt (callR_or call_isi call_isiT) (isi_ok S) hg hm (by decide +kernel) ha (he := he) (hpl := hpl)
theorem px_ty {x : Str} {T : String} (hm : X.mg x = none) (hv : bootBuiltins x = some (.type T) := by decide +kernel) (hg : Gl X x := by rfl) (hn : x ≠ "__name__" := by decide) (hd : (x == ("__debug__" : Str)) = false := by decide) : PX X y (.Name x pos) (mC (.ty T)) :=
  px_c (pe_bltn hg hm hv (v := .ty T) rfl hn hd) fun _ => by unfold Rp; rfl
theorem px_cls {x : Str} {c : Nat} (hm : X.mg x = some (.ref (y.cm c))) (hg : Gl X x := by rfl) (hd : (x == ("__debug__" : Str)) = false := by decide) : PX X y (.Name x pos) (mC (.cl c)) :=
  px_c (pe_glob hg hm (v := .ref (y.cm c)) rfl hd) fun _ => by unfold Rp; rfl
end
end VM

set_option Elab.async false
set_option linter.all false
set_option maxRecDepth 100000
set_option maxHeartbeats 1000000
/-! VM C: the end of a law -/
namespace VM
open PySem PySem.Spec PyProof.Rows L2
theorem cx_false {P : Program} {w : World} {outer : List PySem.Env} {H : Hp} {s : Shared} {u : Value} {s' : Shared} (h : L2.CX P w outer H s (fun _ _ _ => False) u s') : False := by
  obtain ⟨_, _, _, _, _, _, _, _, _, _, _, _, z⟩ := h
  exact z.elim
theorem law_sp {K : PySem.W.Frag} {cm : Nat → Addr} {F : List D → Rf} {H : Hp} {a : Addr} {ns : List Int} (hS : SqL K H a (ns.map V.int)) (h : ∃ p, F [.scr ns] = .ok false (.bl true) p) : spF ⟨K, cm⟩ 1 F [.ref a] H (fun v _ => v = .bl true) fun _ _ _ => False := by
  obtain ⟨p, h⟩ := h
  refine ⟨rfl, [.scr ns], H, Ex.refl H, RpL.cons (by unfold Rp; exact ⟨a, rfl, hS⟩) RpL.nil, ?_⟩
  rw [h]
  intro v Hk' H' _ _ _ b
  have b : Rp ⟨K, cm⟩ Hk' (.bl true) v := b
  unfold Rp at b
  exact b
end VM

set_option Elab.async false
set_option linter.all false
set_option maxRecDepth 100000
set_option maxHeartbeats 1000000
/-! VM D: reckoning with meanings: each combinator at an environment; loops -/
namespace VM
open PySem PySem.Spec PyProof.Rows L2
def bindR {α β : Type} (r : Rs α) (k : α → Env → Rs β) : Rs β := match r with
  | .ok a e => k a e
  | .ex c ns ds e => .ex c ns ds e
  | .bad => .bad
section
variable {α β : Type} {m m1 m2 m3 : M Tk} {ma : M (List Tk)} {n n1 n2 : M Bool} {f1 f2 : M Fl} {env : Env}
theorem bindR_ok {a : α} {e : Env} {k : α → Env → Rs β} : bindR (.ok a e) k = k a e := (rfl)
theorem bindR_ex {c : Nat} {ns : List Str} {ds : List D} {e : Env} {k : α → Env → Rs β} : bindR (.ex c ns ds e) k = .ex c ns ds e := (rfl)
theorem a_bind {m : M α} {f : α → M β} : mBind m f env = bindR (m env) f := (rfl)
theorem a_of_some {a : α} : mOf (some a) env = .ok a env := (rfl)
theorem a_var {k : Nat} : mVar k env = match env[k]? with
  | some .no => .bad
  | none => .bad
  | some _ => .ok (.slot k) env := (rfl)
theorem a_c {d : D} : mC d env = .ok (.val d) env := (rfl)
theorem a_bin {f : D → D → Option Tk} : mBin f m1 m2 env = bindR (m1 env) fun t1 e1 => bindR (m2 e1) fun t2 e2 => mLook2 f t1.settle t2 e2 := (rfl)
theorem a_un {f : D → Option Tk} : mUn f m env = bindR (m env) (mLook1 f) := (rfl)
theorem a_test : mTest m env = bindR (m env) mTru := (rfl)
theorem a_tru {t : Tk} : mTru t env = match look t env with
  | some d => mOf d.tru env
  | none => .bad := (rfl)
theorem a_cmp {f : D → D → Option Bool} : mCmp f m1 m2 env = bindR (m1 env) fun t1 e1 => bindR (m2 e1) fun t2 env => match look t1.settle env, look t2 env with
  | some a, some b => mOf (f a b) env
  | _, _ => .bad := (rfl)
theorem a_and : mAnd n1 n2 env = bindR (n1 env) fun b e => if b = true then n2 e else .ok false e := by
  unfold mAnd mBind bindR; cases n1 env with
  | ok b e => cases b <;> rfl
  | _ => rfl
theorem a_or : mOr n1 n2 env = bindR (n1 env) fun b e => if b = true then .ok true e else n2 e := by
  unfold mOr mBind bindR; cases n1 env with
  | ok b e => cases b <;> rfl
  | _ => rfl
theorem a_not : mNot n env = bindR (n env) fun b e => .ok (!b) e := (rfl)
theorem a_if : mIf n m1 m2 env = bindR (n env) fun b e => if b = true then m1 e else m2 e := by
  unfold mIf mBind bindR; cases n env with
  | ok b e => cases b <;> rfl
  | _ => rfl
theorem a_andV : mAndV m1 m2 env = bindR (m1 env) fun t e => bindR (mBl t e) fun b e => if b = true then m2 e else .ok (.val (.bl false)) e := by
  unfold mAndV mBind bindR; cases m1 env with
  | ok t e =>
    dsimp only
    cases mBl t e with
    | ok b e => cases b <;> rfl
    | _ => rfl
  | _ => rfl
theorem a_orV : mOrV m1 m2 env = bindR (m1 env) fun t e => bindR (mBl t e) fun b e => if b = true then .ok (.val (.bl true)) e else m2 e := by
  unfold mOrV mBind bindR; cases m1 env with
  | ok t e =>
    dsimp only
    cases mBl t e with
    | ok b e => cases b <;> rfl
    | _ => rfl
  | _ => rfl
theorem a_notV : mNotV m env = bindR (m env) fun t e => bindR (mTru t e) fun b e => .ok (.val (.bl (!b))) e := (rfl)
theorem a_bl {t : Tk} : mBl t env = match look t env with
  | some (.bl b) => .ok b env
  | _ => .bad := (rfl)
theorem a_nil : mNil env = .ok [] env := (rfl)
theorem a_cons : mCons m ma env = bindR (m env) fun t e => bindR (ma e) fun ts e => .ok (t.settle :: ts) e := (rfl)
theorem a_tup : mTup ma env = bindR (ma env) fun ts e => bindR (forceAll ts e) fun ds e => if ds.length ≤ 1000 then .ok (.val (.tup ds)) e else .bad := by
  unfold mTup mBind bindR; cases ma env with
  | ok ts e =>
    dsimp only
    cases forceAll ts e with
    | ok ds e => dsimp only; split <;> rfl
    | _ => rfl
  | _ => rfl
theorem a_lst : mLst ma env = bindR (ma env) fun ts e => bindR (forceAll ts e) fun ds e => if ds.length ≤ 1000 then .ok (.new (.lst ds)) e else .bad := by
  unfold mLst mBind bindR; cases ma env with
  | ok ts e =>
    dsimp only
    cases forceAll ts e with
    | ok ds e => dsimp only; split <;> rfl
    | _ => rfl
  | _ => rfl
theorem a_call {f : List D → Option Tk} : mCall f ma env = bindR (ma env) fun ts env => match lookAll ts env with
  | some ds => mOf (f ds) env
  | none => .bad := (rfl)
theorem a_callF {F : List D → Rf} : mCallF F ma env = bindR (ma env) fun ts env => match lookAll ts env with
  | none => .bad
  | some ds => match F ds with
    | .ok nw d _ => if apart nw d = true then .ok (tkOf nw d) env else match forceAll ts env with
      | .ok _ e => .ok (tkOf nw d) e
      | _ => .bad
    | .ex c ns xs _ => if xs.all D.flat = true then .ex c ns xs env else match forceAll ts env with
      | .ok _ e => .ex c ns xs e
      | _ => .bad
    | .bad => .bad := (rfl)
theorem a_callIO {F : List D → Rf} {k : Nat} : mCallIO F k ma env = match owD k env with
  | none => .bad
  | some _ => bindR (ma env) fun ts e1 => match forceAll ts e1 with
    | .ok ds e2 => match owD k e2 with
      | none => .bad
      | some d0 => match F (d0 :: ds) with
        | .ok nw d p => .ok (tkOf nw d) (e2.set k (.ow p))
        | .ex c ns xs p => .ex c ns xs (e2.set k (.ow p))
        | .bad => .bad
    | _ => .bad := (rfl)
theorem a_seq : mSeq f1 f2 env = match f1 env with
  | .ok .nx e => f2 e
  | r => r := (rfl)
theorem a_next : mNext env = .ok .nx env := (rfl)
theorem a_ret : mRet m env = bindR (m env) fun t e => .ok (.rt t) e := (rfl)
theorem a_retN : mRetN env = .ok (.rt (.val .non)) env := (rfl)
theorem a_drop : mDrop m env = bindR (m env) fun _ e => .ok .nx e := (rfl)
theorem a_break : mBreak env = .ok .bk env := (rfl)
theorem a_cont : mCont env = .ok .ct env := (rfl)
theorem a_ifS : mIfS n f1 f2 env = bindR (n env) fun b e => if b = true then f1 e else f2 e := by
  unfold mIfS mBind bindR; cases n env with
  | ok b e => cases b <;> rfl
  | _ => rfl
theorem a_asg {i : Nat} : mAsg i m env = bindR (m env) (store i) := (rfl)
theorem a_asgG {g : D → Env → Option Env} : mAsgG g m env = bindR (m env) fun t env => match force t env with
  | .ok d e => match g d e with
    | some e2 => .ok .nx e2
    | none => .bad
  | _ => .bad := (rfl)
theorem a_app {k : Nat} : mApp k m env = match owL k env with
  | none => .bad
  | some _ => bindR (m env) fun t env => match force t env with
    | .ok d e => match owL k e with
      | some xs => if xs.length < lim then .ok (.val .non) (e.set k (.ow (.lst (xs ++ [d])))) else .bad
      | none => .bad
    | _ => .bad := (rfl)
theorem a_setI {k : Nat} {mi : M Tk} : mSetI k mi m env = bindR (m env) fun t env => match force t env with
  | .ok d e1 => match owL k e1 with
    | none => .bad
    | some _ => bindR (mi e1) fun ti e2 => match look ti e2, owL k e2 with
      | some (.int i), some xs => match ixN xs.length i with
        | some j => .ok .nx (e2.set k (.ow (.lst (xs.set j d))))
        | none => .bad
      | _, _ => .bad
  | _ => .bad := (rfl)
theorem a_iter : mIter m env = bindR (m env) fun t env => match force t env with
  | .ok (.lst xs) e => .ok xs e
  | .ok (.tup xs) e => .ok xs e
  | .ok (.scr ns) e => .ok (ns.map .int) e
  | _ => .bad := (rfl)
theorem a_rng : mRng ma env = bindR (ma env) fun ts env => match lookAll ts env with
  | some [.int n] => if okR n = true then .ok (rngD 0 n.toNat) env else .bad
  | some [.int lo, .int n] => if okR lo = true ∧ okR n = true then .ok (rngD lo (n - lo).toNat) env else .bad
  | _ => .bad := (rfl)
theorem a_for {mi : M (List D)} {g : D → Env → Option Env} {junk : List Nat} {body : M Fl} : mFor mi g junk body env = bindR (mi env) (mLoop g junk body) := (rfl)
theorem a_slice {ml mh : M (Option Int)} : mSlice m ml mh env = bindR (m env) fun t e => bindR (ml e) fun lo e => bindR (mh e) fun hi env => match look t.settle env with
  | some d => mOf (dSl d lo hi) env
  | none => .bad := (rfl)
theorem a_part0 : mPart none env = .ok none env := (rfl)
theorem a_part1 : mPart (some m) env = bindR (m env) fun t env => match look t env with
  | some (.int i) => .ok (some i) env
  | _ => .bad := (rfl)
theorem a_lc {mi : M (List D)} {g : D → Env → Option Env} {own : List Nat} {test : M Bool} {elt : M Tk} : mLc mi g own test elt env = bindR (mi env) fun ds e1 => if noOw own e1 = true then match mLcLoop g own test elt ds [] (wipeE own e1) with
    | .ok out e2 => .ok (.new (.lst out)) (restore own e1 e2)
    | _ => .bad
  else .bad := (rfl)
theorem a_yes : mYes env = .ok true env := (rfl)
end
/-! ### loops -/
/-- one turn -/
def turn (g : D → Env → Option Env) (junk : List Nat) (body : M Fl) (d : D) (env : Env) : Rs Fl := match g d env with
  | none => .bad
  | some e1 => match body e1 with
    | .ok .nx e2 => .ok .nx (forget junk e2)
    | .ok .ct e2 => .ok .nx (forget junk e2)
    | .ok .bk e2 => .ok .bk (forget junk e2)
    | r => r
section
variable {g : D → Env → Option Env} {junk : List Nat} {body : M Fl}
theorem loop_nil {env : Env} : mLoop g junk body [] env = .ok .nx env := rfl
theorem loop_cons {d : D} {ds : List D} {env : Env} : mLoop g junk body (d :: ds) env = match turn g junk body d env with
    | .ok .nx e => mLoop g junk body ds e
    | .ok .bk e => .ok .nx e
    | r => r := by
  unfold turn
  show (match g d env with | none => Rs.bad | some e1 => _) = _
  cases g d env with
  | none => rfl
  | some e1 =>
    dsimp only
    cases body e1 with
    | ok fl e2 => cases fl <;> rfl
    | _ => rfl
/-- every turn goes on: by a word of the turn -/
theorem loop_inv (P : Nat → Env → Prop) : ∀ (ds : List D) (k : Nat) {env : Env}, (∀ i d e, ds[i]? = some d → P (k + i) e → ∃ e', turn g junk body d e = .ok .nx e' ∧ P (k + i + 1) e') → P k env → ∃ e', mLoop g junk body ds env = .ok .nx e' ∧ P (k + ds.length) e'
  | [], k, env, _, p => ⟨env, rfl, p⟩
  | d :: ds, k, env, h, p => by
    obtain ⟨e1, t1, p1⟩ := h 0 d env rfl p
    obtain ⟨e2, t2, p2⟩ := loop_inv P ds (k + 1) (env := e1) (fun i d e hi hp => by
      have := h (i + 1) d e (by simpa using hi) (by rw [show k + (i + 1) = k + 1 + i by omega]; exact hp)
      rw [show k + (i + 1) = k + 1 + i by omega] at this
      exact this) p1
    refine ⟨e2, ?_, ?_⟩
    · rw [loop_cons, t1]; exact t2
    · rw [List.length_cons, show k + (ds.length + 1) = k + 1 + ds.length by omega]; exact p2
/-- every turn goes on: the environment a function of the turn -/
theorem loop_fn (E : Nat → Env) (ds : List D) (h : ∀ i d, ds[i]? = some d → turn g junk body d (E i) = .ok .nx (E (i + 1))) : mLoop g junk body ds (E 0) = .ok .nx (E ds.length) := by
  obtain ⟨e', h1, h2⟩ := loop_inv (g := g) (junk := junk) (body := body) (fun i e => e = E i) ds 0 (env := E 0) (fun i d e hi hp => ⟨E (i + 1), by rw [hp, Nat.zero_add]; exact h i d hi, by rw [Nat.zero_add]⟩) rfl
  rw [h1, h2, Nat.zero_add]
theorem rng_len (lo : Int) (n : Nat) : (rngD lo n).length = n := by unfold rngD; simp
theorem rng_get {lo : Int} {n i : Nat} {d : D} (h : (rngD lo n)[i]? = some d) : i < n ∧ d = .int (lo + (i : Int)) := by
  unfold rngD at h
  rw [List.getElem?_map] at h
  cases z : (List.range n)[i]? with
  | none => rw [z] at h; cases h
  | some j =>
    rw [z] at h
    cases h
    obtain ⟨hl, hj⟩ := List.getElem?_eq_some_iff.mp z
    rw [List.getElem_range] at hj
    subst hj
    exact ⟨by simpa using hl, rfl⟩
theorem loop_rng (E : Nat → Env) (lo : Int) (n : Nat) (h : ∀ i, i < n → turn g junk body (.int (lo + (i : Int))) (E i) = .ok .nx (E (i + 1))) : mLoop g junk body (rngD lo n) (E 0) = .ok .nx (E n) := by
  have := loop_fn (g := g) (junk := junk) (body := body) E (rngD lo n) fun i d hi => by
    obtain ⟨h1, rfl⟩ := rng_get hi
    exact h i h1
  rw [rng_len] at this
  exact this
/-- a comprehension over a list: each item gives one -/
theorem lc_fn {own : List Nat} {test : M Bool} {elt : M Tk} (E : Nat → Env) (out : Nat → D) : ∀ (ds : List D) (k : Nat) (acc : List D), acc.length + ds.length ≤ lim → (∀ i d, ds[i]? = some d → ∃ e1 e2 t e3 e4, g d (E (k + i)) = some e1 ∧ test e1 = .ok true e2 ∧ elt e2 = .ok t e3 ∧ force t e3 = .ok (out (k + i)) e4 ∧ wipeE own e4 = E (k + i + 1)) →
    mLcLoop g own test elt ds acc (E k) = .ok (acc ++ (List.range ds.length).map fun i => out (k + i)) (E (k + ds.length))
  | [], k, acc, _, _ => by show Rs.ok acc (E k) = _; simp
  | d :: ds, k, acc, hl, h => by
    obtain ⟨e1, e2, t, e3, e4, h1, h2, h3, h4, h5⟩ := h 0 d rfl
    rw [List.length_cons] at hl
    unfold mLcLoop
    rw [Nat.add_zero] at h1 h4 h5
    rw [h1]
    dsimp only
    rw [h2]
    dsimp only
    rw [h3]
    dsimp only
    rw [h4]
    dsimp only
    rw [if_pos (by omega), h5]
    have ih := lc_fn (own := own) (test := test) (elt := elt) E out ds (k + 1) (acc ++ [out k]) (by simp; omega) (fun i d hi => by
      have := h (i + 1) d (by simpa using hi)
      rw [show k + (i + 1) = k + 1 + i by omega] at this
      exact this)
    rw [ih, List.length_cons, List.range_succ_eq_map]
    simp [Function.comp_def, Nat.add_assoc, Nat.add_comm 1]
end
end VM

set_option Elab.async false
set_option linter.all false
set_option maxRecDepth 100000
set_option maxHeartbeats 1000000
/-! VM E: comparisons of plain data; sizes; the law's drawing hand -/
namespace VM
open PySem PySem.Spec PyProof.Rows L2
theorem pl_int {n : Nat} {i : Int} : D.pl n (.int i) = true := by cases n <;> rfl
theorem pl_bl {n : Nat} {i : Bool} : D.pl n (.bl i) = true := by cases n <;> rfl
theorem pl_non {n : Nat} : D.pl n .non = true := by cases n <;> rfl
theorem cEq_int {a b : Int} : cEq (.int a) (.int b) = some (decide (a = b)) := by
  unfold cEq
  rw [pl_int, pl_int, if_pos ⟨rfl, rfl⟩]
  show some (PyData.eqv (.int a) (.int b)) = _
  rw [PyData.eqv, Bool.beq_eq_decide_eq]
theorem cNe_int {a b : Int} : cNe (.int a) (.int b) = some (!decide (a = b)) := by
  unfold cNe
  rw [pl_int, pl_int, if_pos ⟨rfl, rfl⟩]
  show some (!PyData.eqv (.int a) (.int b)) = _
  rw [PyData.eqv, Bool.beq_eq_decide_eq]
theorem log2_le {n k : Nat} (h : n < 2 ^ (k + 1)) : n.log2 ≤ k := by
  by_cases z : n = 0
  · subst z; simp
  · have := (Nat.log2_lt z).mpr h
    omega
theorem natAbs_powI (b : Int) : ∀ n : Nat, (b ^ n).natAbs = b.natAbs ^ n
  | 0 => by simp
  | n + 1 => by rw [Int.pow_succ, Int.natAbs_mul, natAbs_powI b n, Nat.pow_succ]
theorem mulOk_of {i j : Int} (h : i.natAbs.log2 + j.natAbs.log2 < 1000000) : mulOk i j = true := decide_eq_true h
theorem mulOk_le {i j : Int} {a b : Nat} (hi : i.natAbs < 2 ^ (a + 1)) (hj : j.natAbs < 2 ^ (b + 1)) (h : a + b < 1000000) : mulOk i j = true := mulOk_of (by
  have := log2_le hi
  have := log2_le hj
  omega)
theorem divOk_of {j : Int} {b : Nat} (h0 : 0 < j) (hj : j.natAbs < 2 ^ (b + 1)) (h : b < 9000) : divOk j = true := by
  unfold divOk
  rw [decide_eq_true h0, decide_eq_true (Nat.lt_of_le_of_lt (log2_le hj) h)]
  rfl
theorem okR_of {i : Int} (h : -(2 ^ 62) ≤ i ∧ i < 2 ^ 62) : okR i = true := decide_eq_true h
theorem atI_0 {α : Type} {x : α} {xs : List α} : atI (x :: xs) 0 = some x := atI_nat (j := 0) rfl
theorem atI_1 {α : Type} {x y : α} {xs : List α} : atI (x :: y :: xs) 1 = some y := atI_nat (j := 1) rfl
theorem atI_2 {α : Type} {x y z : α} {xs : List α} : atI (x :: y :: z :: xs) 2 = some z := atI_nat (j := 2) rfl
theorem atI_3 {α : Type} {x y z u : α} {xs : List α} : atI (x :: y :: z :: u :: xs) 3 = some u := atI_nat (j := 3) rfl
theorem ixN_of {n j : Nat} (h : j < n) : ixN n (j : Int) = some j := by
  unfold ixN
  rw [if_pos (by omega), if_pos (by omega)]
  simp
theorem ixN_1 {n : Nat} (h : 1 < n) : ixN n 1 = some 1 := ixN_of h
theorem ixN_2 {n : Nat} (h : 2 < n) : ixN n 2 = some 2 := ixN_of h
theorem ixN_3 {n : Nat} (h : 3 < n) : ixN n 3 = some 3 := ixN_of h
/-! one step at a time, at written arguments -/
section
variable {env : Env} {d d' : D} {i j : Int} {k n : Nat} {b : Bool} {xs ys ds : List D} {t t1 t2 : Tk} {ts : List Tk}
theorem l_val : look (.val d) env = some d := (rfl)
theorem l_new : look (.new d) env = some d := (rfl)
theorem l_slot : look (.slot k) env = match env[k]? with
  | some (.sh d) => some d
  | some (.ow d) => some d
  | _ => none := (rfl)
theorem f_val : force (.val d) env = .ok d env := (rfl)
theorem f_new : force (.new d) env = .ok d env := (rfl)
theorem f_slot : force (.slot k) env = match env[k]? with
  | some (.sh d) => .ok d env
  | some (.ow d) => .ok d (env.set k (.sh d))
  | _ => .bad := (rfl)
theorem t_val : (Tk.val d).settle = .val d := (rfl)
theorem t_new : (Tk.new d).settle = .val d := (rfl)
theorem t_slot : (Tk.slot k).settle = .slot k := (rfl)
theorem s_val : store k (.val d) env = .ok .nx (env.set k (.sh d)) := (rfl)
theorem s_new : store k (.new d) env = .ok .nx (env.set k (.ow d)) := (rfl)
theorem s_slot {m : Nat} : store k (.slot m) env = match force (.slot m) env with
  | .ok d e => .ok .nx (e.set k (.sh d))
  | _ => .bad := (rfl)
theorem a_look2 {f : D → D → Option Tk} : mLook2 f t1 t2 env = match look t1 env, look t2 env with
  | some a, some b => mOf (f a b) env
  | _, _ => .bad := (rfl)
theorem a_look1 {f : D → Option Tk} : mLook1 f t env = match look t env with
  | some a => mOf (f a) env
  | none => .bad := (rfl)
theorem a_fa0 : forceAll [] env = .ok [] env := (rfl)
theorem a_fa1 : forceAll (t :: ts) env = match force t env with
    | .ok d e1 => match forceAll ts e1 with
      | .ok ds e2 => .ok (d :: ds) e2
      | _ => .bad
    | _ => .bad := (rfl)
theorem a_la0 : lookAll [] env = some [] := (rfl)
theorem a_la1 : lookAll (t :: ts) env = match look t env, lookAll ts env with
    | some d, some ds => some (d :: ds)
    | _, _ => none := (rfl)
theorem a_fn1 {f : D → Option Tk} : fn1 f [d] = f d := (rfl)
theorem a_fn2 {f : D → D → Option Tk} : fn2 f [d, d'] = f d d' := (rfl)
theorem a_gN : gN k d env = some (env.set k (.sh d)) := (rfl)
theorem a_gs0 : gs0 [] env = some env := (rfl)
theorem a_gs1 {g : D → Env → Option Env} {gs : List D → Env → Option Env} : gs1 g gs (d :: ds) env = match g d env with
  | some e => gs ds e
  | none => none := (rfl)
theorem a_gT {gs : List D → Env → Option Env} : gT n gs (.tup ds) env = if ds.length = n then gs ds env else none := (rfl)
theorem a_turn {g : D → Env → Option Env} {junk : List Nat} {body : M Fl} : turn g junk body d env = match g d env with
  | none => .bad
  | some e1 => match body e1 with
    | .ok .nx e2 => .ok .nx (forget junk e2)
    | .ok .ct e2 => .ok .nx (forget junk e2)
    | .ok .bk e2 => .ok .bk (forget junk e2)
    | r => r := (rfl)
theorem a_fg0 : forget [] env = env := (rfl)
theorem a_fg1 {l : List Nat} : forget (k :: l) env = forget l (env.set k .no) := (rfl)
theorem a_wp0 : wipeE [] env = env := (rfl)
theorem a_wp1 {l : List Nat} : wipeE (k :: l) env = (wipeE l env).set k .no := (rfl)
theorem a_rs0 {e : Env} : restore [] e env = env := (rfl)
theorem a_rs1 {l : List Nat} {e : Env} : restore (k :: l) e env = restore l e (env.set k (e.getD k .no)) := (rfl)
theorem a_mkF {m : M Fl} : mkF n m ds = fin (m (entry n ds)) := (rfl)
theorem a_mkIO {m : M Fl} : mkIO n m (d :: ds) = finIO (m (entryIO n d ds)) := (rfl)
theorem a_owL : owL k env = match env[k]? with
  | some (.ow (.lst xs)) => some xs
  | _ => none := (rfl)
theorem a_owD : owD k env = match env[k]? with
  | some (.ow d) => some d
  | _ => none := (rfl)
theorem a_tkT : tkOf true d = .new d := (rfl)
theorem a_tkF : tkOf false d = .val d := (rfl)
theorem a_apf : apart b (.int i) = true := (rfl)
theorem a_apb {c : Bool} : apart b (.bl c) = true := (rfl)
theorem a_apn : apart b .non = true := (rfl)
theorem a_aps {s : Str} : apart b (.str s) = true := (rfl)
theorem e_addI : dAdd (.int i) (.int j) = some (.val (.int (i + j))) := (rfl)
theorem e_addL (h : xs.length + ys.length ≤ sizeLine) : dAdd (.lst xs) (.lst ys) = some (.new (.lst (xs ++ ys))) := if_pos h
theorem e_addT (h : xs.length + ys.length ≤ sizeLine) : dAdd (.tup xs) (.tup ys) = some (.val (.tup (xs ++ ys))) := if_pos h
theorem e_subI : dSub (.int i) (.int j) = some (.val (.int (i - j))) := (rfl)
theorem e_mulI (h : mulOk i j = true) : dMul (.int i) (.int j) = some (.val (.int (i * j))) := if_pos h
theorem e_divI (h : divOk j = true) : dDiv (.int i) (.int j) = some (.val (.int (i / j))) := if_pos h
theorem e_modI (h : 0 < j) : dMod (.int i) (.int j) = some (.val (.int (i % j))) := if_pos (decide_eq_true h)
theorem e_powI (h : 0 ≤ j ∧ j ≤ 1000000 ∧ i.natAbs < 2 ^ 64) : dPow (.int i) (.int j) = some (.val (.int (i ^ j.toNat))) := if_pos (decide_eq_true h)
theorem e_negI : dNeg (.int i) = some (.val (.int (-i))) := (rfl)
theorem e_lt : cLt (.int i) (.int j) = some (decide (i < j)) := (rfl)
theorem e_le : cLe (.int i) (.int j) = some (decide (i ≤ j)) := (rfl)
theorem e_gt : cGt (.int i) (.int j) = some (decide (j < i)) := (rfl)
theorem e_ge : cGe (.int i) (.int j) = some (decide (j ≤ i)) := (rfl)
theorem e_is : cIs d .non = some d.isN := (rfl)
theorem e_isnot : cIsNot d .non = some (!d.isN) := (rfl)
theorem a_lift {f : D → D → Option Bool} : lift f d d' = match f d d' with
  | some k => some (.val (.bl k))
  | none => none := (rfl)
theorem e_lenL : dLen (.lst xs) = some (.val (.int xs.length)) := (rfl)
theorem e_lenT : dLen (.tup xs) = some (.val (.int xs.length)) := (rfl)
theorem e_lenS {ns : List Int} : dLen (.scr ns) = some (.val (.int ns.length)) := (rfl)
theorem e_intI : dInt (.int i) = some (.val (.int i)) := (rfl)
theorem e_intB : dInt (.bl b) = some (.val (.int (if b then 1 else 0))) := (rfl)
theorem e_absI : dAbs (.int i) = some (.val (.int (if i < 0 then -i else i))) := (rfl)
theorem e_truB : D.tru (.bl b) = some b := (rfl)
theorem e_truI : D.tru (.int i) = some (i != 0) := (rfl)
theorem e_truN : D.tru .non = some false := (rfl)
theorem e_truL : D.tru (.lst xs) = some !xs.isEmpty := (rfl)
theorem e_truT : D.tru (.tup xs) = some !xs.isEmpty := (rfl)
theorem e_ixL : dIx (.lst xs) (.int i) = (atI xs i).map .val := (rfl)
theorem e_ixT : dIx (.tup xs) (.int i) = (atI xs i).map .val := (rfl)
theorem e_tupL : dTuple (.lst xs) = some (.val (.tup xs)) := (rfl)
theorem e_tupT : dTuple (.tup xs) = some (.val (.tup xs)) := (rfl)
theorem e_lstL : dList (.lst xs) = some (.new (.lst xs)) := (rfl)
theorem e_lstT : dList (.tup xs) = some (.new (.lst xs)) := (rfl)
theorem e_sum {ns : List Int} : dSum (.lst (ns.map .int)) = some (.val (.int ns.sum)) := by
  show (toInts (ns.map .int)).map _ = _
  rw [toInts_map]; rfl
end
end VM

set_option Elab.async false
set_option linter.all false
set_option maxRecDepth 100000
set_option maxHeartbeats 1000000
/-! VM F: exceptions: classes of the text under one base class, raise, try .. except .. (as ..) -/
namespace VM
open PySem PySem.Spec PyProof.Rows L2
/-! ### the family's base class, at R -/
structure RB (K : PySem.W.Frag) (R : Addr) : Prop where
  ga : PySem.W.specialIn K (.ref R) "__getattribute__" = some (some (.builtin "type.__getattribute__"))
  rd : PySem.W.readsIn K R (.type "type") = true
  at_ : PySem.W.findCls K (.ref R) (.type "type") "__init__" = some (.val (.builtin "ValueError.__init__"))
section
variable {X : Cx} {R : Addr} {x : Str} {e : Expr} {es : List Expr} {ta : TA} {p1 p2 pos : Pos}
/-- R.__init__(self, ..) -/
theorem pe_rkinit {pl : Sem Bool} (B : RB X.K R) (hm : X.mg x = some (.ref R)) (ha : PA X (e :: es) ta) (hg : Gl X x := by rfl) (hdb : (x == ("__debug__" : Str)) = false := by decide)
    (hc : eval (.Call (.Attribute (.Name x p1) "__init__" p2) (e :: es) [] pos) X.env = (do
      let ov ← eval (.Name x p1) X.env
      standAt p2.atName
      let (f, first) ← holding [ov] (getMethod ov "__init__" pl)
      callWith pos f first (backTo pos (starEach (e :: es) X.env)) (backToKw pos (keywordEach [] X.env))) := by rfl)
    (he : starEach (e :: es) X.env = (false, eval e X.env) :: starEach es X.env := by rfl) (hpl : (backTo pos (starEach es X.env)).any (·.1) = false := by rfl) :
    PE X (.Call (.Attribute (.Name x p1) "__init__" p2) (e :: es) [] pos) (tVeI X.K ta) := by
  refine ⟨fun pins s σ H Q I h => ?_⟩
  refine PySem.W.methodCall_KW (ld_glob I hg hm ?_ hdb) hc
  refine PySem.W.method_cls I.kIn B.ga (PySem.W.cls_value I.kIn B.rd B.at_ rfl ?_)
  show wpAny _ _ (callWith pos (Value.builtin "ValueError.__init__") [] (backTo pos (starEach (e :: es) X.env)) []) _ _ _
  refine PyProof.Rows.callWith_method1 (thn (ha.run pos pins _ σ H _ (I.tok _) h) fun us s1 ⟨vs, H1, I1, r1, a, C, ws, ev, hl, T, ea, q⟩ => ?_) he hpl
  subst ev
  cases r1 with
  | @cons _ u0 _ ur ra rw' =>
    obtain rfl : u0 = Value.ref a := ra
    have hlen : ur.length ≤ sizeLine := by
      rw [← Paired.length rw', sizeLine_eq]
      omega
    exact oinit_ok T I1 ea hlen fun s' J => ⟨.non, H1, J, rfl, q⟩
end
/-! ### what an __init__ leaves -/
def XEnd (a C : Addr) : List (Str × V) → Hp → Hp → Prop
  | [], H, H' => H' = H
  | f :: fs, H, H' => ∃ d, H d = none ∧ d ≠ a ∧ H' = upd (upd H d (exd d (f :: fs))) a (exo a C (some d))
def spX (C : Addr) (fs : List Str) : Sp := fun vs H Q _ => ∃ a ws, vs = V.ref a :: ws ∧ ws.length = fs.length ∧ H a = some (exo a C none) ∧ ∀ H', XEnd a C (fs.zip ws).reverse H H' → Q .non H'
theorem upd2 {H : Hp} {a d : Addr} {o1 o2 o3 o4 : HO} (h : d ≠ a) : upd (upd (upd (upd H d o1) a o2) d o3) a o4 = upd (upd H d o3) a o4 := by
  funext b
  by_cases ha : b = a
  · rw [ha, upd_same, upd_same]
  · rw [upd_ne ha, upd_ne ha]
    by_cases hd : b = d
    · rw [hd, upd_same, upd_same]
    · rw [upd_ne hd, upd_ne hd, upd_ne ha, upd_ne hd]
theorem upd1 {H : Hp} {a d : Addr} {o1 o2 o3 : HO} (h : d ≠ a) : upd (upd (upd H d o1) a o2) d o3 = upd (upd H d o3) a o2 := by
  funext b
  by_cases hd : b = d
  · rw [hd, upd_same, upd_ne h, upd_same]
  · rw [upd_ne hd]
    by_cases ha : b = a
    · rw [ha, upd_same, upd_same]
    · rw [upd_ne ha, upd_ne ha, upd_ne hd, upd_ne hd]
section
variable {P : Program} {w : World} {K : PySem.W.Frag} {mg : Str → Option Value} {base : Heap} {x qual m f1 f2 : Str} {st : Stmt} {f C : Addr} {fd : FuncData} {N ps : List Str} {k : Nat}
abbrev tI0 (K : PySem.W.Frag) (m : Str) : TS := tDrop (tVeI K (tCons (tVar 0) (tCons (tC (.str m)) tNil)))
theorem init0_ok (T : OexC K C) (F : Fun K x qual st f fd) (S : FnScope N ps (defScope st)) (hp : ps.length = 1) (hN : N.length = 1)
    (hb : ∀ (cdv : Value) (A : Around) (outer : List PySem.Env) (s : Shared) (H : Hp) (E : XK), PSs (cxOf (L2.CX P w) P w K mg base N qual (defScope st) f cdv A outer s H E) (defBody st) (tI0 K m)) :
    FnOk P w K mg base (L2.CX P w) (k + 1) f fd ps (spX C []) := by
  refine F.okX S (fun vs H Q E h => ?_) fun cdv A outer s H vs Q E hr h => ⟨_, hb cdv A outer s H E, ?_⟩
  · obtain ⟨a, ws, rfl, hl, _⟩ := h
    rw [List.length_cons, hl, hp]; rfl
  · obtain ⟨a, ws, rfl, hl, ha, q⟩ := h
    obtain rfl := List.eq_nil_of_length_eq_zero hl
    refine ⟨.ref a, by unfold L2.start; rfl, a, C, [.str m], rfl, by simp, T, ha, q _ rfl⟩
theorem init1_ok (T : OexC K C) (n1 : PySem.W.findIn K (.ref C) f1 = some none) (F : Fun K x qual st f fd) (S : FnScope N ps (defScope st)) (hp : ps.length = 2) (hN : N.length = 2)
    (hb : ∀ (cdv : Value) (A : Around) (outer : List PySem.Env) (s : Shared) (H : Hp) (E : XK), PSs (cxOf (L2.CX P w) P w K mg base N qual (defScope st) f cdv A outer s H E) (defBody st) (tSeq (tI0 K m) (tOst K f1 (tVar 0) (tVar 1)))) :
    FnOk P w K mg base (L2.CX P w) (k + 1) f fd ps (spX C [f1]) := by
  refine F.okX S (fun vs H Q E h => ?_) fun cdv A outer s H vs Q E hr h => ⟨_, hb cdv A outer s H E, ?_⟩
  · obtain ⟨a, ws, rfl, hl, _⟩ := h
    rw [List.length_cons, hl, hp]; rfl
  · obtain ⟨a, ws, rfl, hl, ha, q⟩ := h
    obtain ⟨u, rfl⟩ : ∃ u, ws = [u] := by
      cases ws with
      | nil => cases hl
      | cons u r => cases r with
        | nil => exact ⟨u, rfl⟩
        | cons _ _ => cases hl
    refine ⟨.ref a, by unfold L2.start; rfl, a, C, [.str m], rfl, by simp, T, ha, ?_⟩
    refine ⟨u, by unfold L2.start; rfl, .ref a, by unfold L2.start; rfl, a, C, rfl, T, n1, .inl ⟨ha, fun d hd hne => q _ ⟨d, hd, hne, rfl⟩⟩⟩
theorem init2_ok (T : OexC K C) (n1 : PySem.W.findIn K (.ref C) f1 = some none) (n2 : PySem.W.findIn K (.ref C) f2 = some none) (F : Fun K x qual st f fd) (S : FnScope N ps (defScope st)) (hp : ps.length = 3) (hN : N.length = 3)
    (hb : ∀ (cdv : Value) (A : Around) (outer : List PySem.Env) (s : Shared) (H : Hp) (E : XK), PSs (cxOf (L2.CX P w) P w K mg base N qual (defScope st) f cdv A outer s H E) (defBody st) (tSeq (tI0 K m) (tSeq (tOst K f1 (tVar 0) (tVar 1)) (tOst K f2 (tVar 0) (tVar 2))))) :
    FnOk P w K mg base (L2.CX P w) (k + 1) f fd ps (spX C [f1, f2]) := by
  refine F.okX S (fun vs H Q E h => ?_) fun cdv A outer s H vs Q E hr h => ⟨_, hb cdv A outer s H E, ?_⟩
  · obtain ⟨a, ws, rfl, hl, _⟩ := h
    rw [List.length_cons, hl, hp]; rfl
  · obtain ⟨a, ws, rfl, hl, ha, q⟩ := h
    obtain ⟨u, u2, rfl⟩ : ∃ u u2, ws = [u, u2] := by
      cases ws with
      | nil => cases hl
      | cons u r => cases r with
        | nil => cases hl
        | cons u2 r2 => cases r2 with
          | nil => exact ⟨u, u2, rfl⟩
          | cons _ _ => cases hl
    refine ⟨.ref a, by unfold L2.start; rfl, a, C, [.str m], rfl, by simp, T, ha, ?_⟩
    refine ⟨u, by unfold L2.start; rfl, .ref a, by unfold L2.start; rfl, a, C, rfl, T, n1, .inl ⟨ha, fun d hd hne => ?_⟩⟩
    refine ⟨u2, by unfold L2.start; rfl, .ref a, by unfold L2.start; rfl, a, C, rfl, T, n2, .inr ⟨d, [(f1, u)], upd_same, by rw [upd_ne hne, upd_same], by simp, q _ ⟨d, hd, hne, ?_⟩⟩⟩
    rw [upd1 hne]
end
/-! ### raise -/
section
variable {X : Cx} {e : Expr} {es : List Expr} {ta : TA} {p pos : Pos}
/-- an exception without a dict is let go -/
theorem mk_endN {pins : List (Addr × Obj)} {σ : L2.St} {H1 : Hp} {Q : XK} {hp hp2 h2 : Heap} {g1 g2 : Array GenState} {d1 d2 : Drawn} {t1 t2 : Nat} {os1 os2 : OsState} {a C : Addr} (T : Raises X (.ref C)) (I1 : Inv X pins σ H1 ⟨hp, g1, d1, t1, os1⟩)
    (ha : hp.objs.size ≤ a) (k : ∀ b o, hp.get? b = some o → hp2.get? b = some o) (un : Un (frs X.stack) [] (upd H1 a (exo a C none)) (upd H1 a (exo a C none)) hp2 h2) (hok : HOk X.prog X.w (upd H1 a (exo a C none)) h2) (ho : os2 = os1) (hb : AllBare g2)
    (q : Q (.ref C) none H1) : MkP X pins σ Q (.ref a) ⟨h2, g2, d2, t2, os2⟩ := by
  have hn : H1 a = none := I1.hok.fresh ha
  obtain ⟨t0, hoe⟩ := exo_at hok upd_same
  obtain ⟨G, g1', g2'⟩ := restrict h2 fun b => decide (b ≠ a)
  have gk : ∀ b, b ≠ a → G.get? b = h2.get? b := fun b hb => g1' b (decide_eq_true hb)
  have ge : G.get? a = none := g2' a (by simp)
  have nha : ∀ {b : Addr} {o : Obj}, hp.get? b = some o → b ≠ a := fun {b o} z => Nat.ne_of_lt (Nat.lt_of_lt_of_le (Heap.lt_size z) ha)
  have up : ∀ {b : Addr}, b ≠ a → H1 b = none → upd H1 a (exo a C none) b = none := fun {b} hb n => by rw [upd_ne hb]; exact n
  have U : Un (frs X.stack) [] H1 H1 hp G := {
    keep := fun b o z n hf hx => by
      rw [gk b (nha z)]
      exact un.keep b o (k b o z) (up (nha z) n) hf hx
    slot := fun b o z n hf hx => by
      rw [gk b (nha z)]
      exact un.slot b o (k b o z) (up (nha z) n) hf hx
    free := fun b o z n hx => n
    there := fun b o z hx => by
      rw [gk b (nha z)]
      exact un.there b o (k b o z) hx
    tups := fun b xs z => z
    frzs := fun b o v z => z
    tbls := fun b ps z => ⟨#[], by rw [z]; simp⟩ }
  have hok3 : HOk X.prog X.w H1 G := fun b o z => by
    have hba : b ≠ a := fun e => by rw [e, hn] at z; cases z
    have noa : ∀ {c : Addr}, H1 c = some (.own b) → c ≠ a := fun {c} hc e => by rw [e, hn] at hc; cases hc
    exact (hok b o (by rw [upd_ne hba]; exact z)).stay (fun c v hc y => by
        have hca : c ≠ a := by
          rcases hc with hc | hc
          · rw [hc]
            exact hba
          · intro e
            rw [e, upd_same] at hc
            exact exo_own (Option.some.inj hc)
        rw [gk c hca]
        exact y)
      (fun c hc => by
        by_cases e : c = a
        · rw [e, upd_same] at hc; exact absurd (Option.some.inj hc) exo_own
        · rw [upd_ne e] at hc; exact hc)
      (fun c xs hc => by
        by_cases e : c = a
        · rw [e, upd_same] at hc; exact absurd (Option.some.inj hc) exo_tup
        · rw [upd_ne e] at hc; exact hc)
  have J : Inv X pins σ H1 ⟨G, g2, d2, t2, os2⟩ := I1.call' (ch := []) ho U hok3 hb (fun b z => absurd z (by simp))
  refine ⟨a, _, _, ⟨G, g2, d2, t2, os2⟩, _, .ref C, none, rfl, J, fun b o z => ?_, ge, hoe, ⟨rfl, rfl⟩, rfl, rfl, hn, rfl, hb, T, q⟩
  by_cases hba : b = a
  · rw [hba, ge] at z
    cases z
  · exact (gk b hba).symm.trans z
theorem pmk_oex0 {CX : CXT} {x : Str} {C fI : Addr} {k : Nat} {fd : FuncData} {ps : List Str} (T : OexC X.K C) (iC : PySem.W.findIn X.K (.ref C) "__init__" = some (some (.ref fI))) (tI : PySem.W.typeIn X.K (.ref fI) = some (.type "function"))
    (F1 : FnOk X.prog X.w X.K X.mg X.base CX k fI fd ps (spX C [])) (hr : Room (k + 1) X.A) (hb : Binds X.K fd ps []) (hx : Passes CX X (fun _ _ _ => False)) (hg : Gl X x) (hm : X.mg x = some (.ref C))
    (hdb : (x == ("__debug__" : Str)) = false := by decide) :
    PMk X (.Call (.Name x p) [] [] pos) (fun _ H Q => Q (.ref C) none H) := by
  intro pins s σ H1 Q I1 q1
  obtain ⟨nm, q, N, bs, bm, sn, sub, ab, col, dd, k0, k1, k2, k3, k5, hC, hbm⟩ := T.cls
  refine wpAny_Call_Name_kw (ld_glob I1 hg hm ?_ hdb)
  refine PySem.W.callWith_K0 I1.kIn T.kC ?_
  show wpAny _ _ (call (.ref C) []) _ _ _
  obtain ⟨hp, g, dr, tk, os⟩ := s
  have hsz : hp.objs.size ≤ hp.objs.size + 1 := Nat.le_succ _
  have hn : H1 (hp.objs.size + 1) = none := I1.hok.fresh hsz
  have kk : ∀ b o, hp.get? b = some o → ((hp.push (PySem.W.kdv_tup [])).push (PySem.HandSPX.excO C hp.objs.size)).get? b = some o := fun b o e => Heap.get?_push_of_some _ (Heap.get?_push_of_some _ e)
  have hget : ((hp.push (PySem.W.kdv_tup [])).push (PySem.HandSPX.excO C hp.objs.size)).get? (hp.objs.size + 1) = some (PySem.HandSPX.excO C hp.objs.size) := by heap_get
  have I2 : Inv X pins σ (upd H1 (hp.objs.size + 1) (exo (hp.objs.size + 1) C none)) ⟨(hp.push (PySem.W.kdv_tup [])).push (PySem.HandSPX.excO C hp.objs.size), g, dr, tk, os⟩ :=
    I1.laid (t' := tk) (a := hp.objs.size + 1) (o := exo (hp.objs.size + 1) C none) (h' := (hp.push (PySem.W.kdv_tup [])).push (PySem.HandSPX.excO C hp.objs.size)) kk hsz (exo_ok hget)
  have hsp : spX C [] [V.ref (hp.objs.size + 1)] (upd H1 (hp.objs.size + 1) (exo (hp.objs.size + 1) C none)) (fun v H2 => v = .non ∧ H2 = upd H1 (hp.objs.size + 1) (exo (hp.objs.size + 1) C none)) (fun _ _ _ => False) :=
    ⟨_, [], rfl, rfl, upd_same, fun H' e => ⟨rfl, e⟩⟩
  have hl : ([Value.ref (hp.objs.size + 1)] ++ []).length = ps.length := (F1.len _ _ _ _ hsp)
  refine wpAny_call (PySem.HandSPX.call_own F.excBase_ValueError (fun Y => PySem.HandSPX.refsVE_contains Y bm hbm) (I1.kIn _ _ hC) (PySem.W.looks_findIn I1.kIn iC) (fun self => PySem.W.bind_fn I1.kIn self tI) (Nat.zero_le _)
    (codeAny_mono (F1.run _ X.stack _ _ ⟨[Value.ref (hp.objs.size + 1)], []⟩ ([Value.ref (hp.objs.size + 1)] ++ []) _ _ (fun _ _ _ => False) (hr.make C [] []) (I2.env0.make C [] []) (hb _ [Value.ref (hp.objs.size + 1)] I2.kIn hl) (show Vals [V.ref (hp.objs.size + 1)] ([Value.ref (hp.objs.size + 1)] ++ []) from .cons rfl .nil) hsp) fun r s' hq' => ?_))
  cases r with
  | error er => exact hx pins σ _ _ er s' I2 hq'
  | ok fl =>
    cases fl with
    | ret u =>
      obtain ⟨v, H2, os2, bare2, un2, hok2, rv, ev, e2⟩ := hq'
      subst ev
      subst e2
      obtain ⟨h2, g2, d2, t2, os'⟩ := s'
      exact ⟨rv, mk_endN (raises_own T.exC T.tyC) I1 hsz kk un2 hok2 os2 bare2 q1⟩
    | next => exact False.elim hq'
    | brk => exact False.elim hq'
    | cont => exact False.elim hq'
end
/-- an exception class of the text: its number, the level of its __init__, its fields -/
structure EC (P : Program) (w : World) (K : PySem.W.Frag) (mg : Str → Option Value) (base : Heap) (cm : Nat → Addr) (x : Str) (c k : Nat) (fs : List Str) : Prop where
  ex : ∃ fI fd ps, OexC K (cm c) ∧ PySem.W.findIn K (.ref (cm c)) "__init__" = some (some (.ref fI)) ∧ PySem.W.typeIn K (.ref fI) = some (.type "function") ∧ FnOk P w K mg base (L2.CX P w) k fI fd ps (spX (cm c) fs) ∧ Binds K fd ps [] ∧ mg x = some (.ref (cm c))
theorem zip_rev {α β : Type} : ∀ {l : List α} {m : List β}, l.length = m.length → (l.zip m).reverse = l.reverse.zip m.reverse
  | [], [], _ => rfl
  | a :: l, b :: m, h => by
    have hl : l.length = m.length := by simpa using h
    rw [List.zip_cons_cons, List.reverse_cons, List.reverse_cons, List.reverse_cons, zip_rev hl, List.zip_append (by simpa using hl)]
    rfl
  | [], _ :: _, h => by cases h
  | _ :: _, [], h => by cases h
section
variable {X : Cx} {y : Y} {e : Expr} {es : List Expr} {ma : M (List Tk)} {p pos pos2 : Pos} {x : Str} {c k kk : Nat} {fs : List Str}
theorem as_bind {g : List Tk → M Fl} {env : Env} {G : Hp} {σ : L2.St} {Hk : Hp} {D : Ends} {R : List V → Hp → Prop} (q : PoS (y.ct X) y.xa y.W G Hk (mBind ma g env) D)
    (k : ∀ t e v Hk' H1, ma env = .ok t e → Kx G Hk Hk' → RE (y.ct X) y.xa G e σ Hk' H1 → RVs (y.ct X) σ Hk' t v → PoS (y.ct X) y.xa y.W G Hk' (g t e) D → R v H1) : PoA (y.ct X) y.xa y.W G σ Hk (ma env) R := by
  unfold mBind at q
  cases e : ma env with
  | ok t e1 => rw [e] at q; exact fun v Hk' H' k' r' h' => k t e1 v Hk' H' e k' r' h' (q.kx k')
  | ex c ns ds e1 => rw [e] at q; exact PoXS.at q
  | bad => rw [e] at q; exact q
def mRaise0 (c : Nat) : M Fl := fun env => .ex c [] [] env
def mRaise (c : Nat) (fs : List Str) (ma : M (List Tk)) : M Fl := mBind ma fun ts env => match forceAll ts env with
  | .ok ds e => .ex c fs.reverse ds.reverse e
  | _ => .bad
theorem psx_raise0 (h : EC X.prog X.w X.K X.mg X.base y.cm x c k []) (hr : Room kk X.A) (hc : X.calm = true) (tk : Takes X y.W) (hk : k + 1 ≤ kk := by decide) (hg : Gl X x := by rfl) (hdb : (x == ("__debug__" : Str)) = false := by decide) :
    PSx X y (.Raise (some (.Call (.Name x p) [] [] pos)) none pos2) (mRaise0 c) := by
  obtain ⟨fI, fd, ps, h1, h2, h3, h4, h5, h6⟩ := h.ex
  exact ⟨PS_imp (ps_raise hc tk (pmk_oex0 h1 h2 h3 h4 (hr.mono hk) h5 passL hg h6 hdb)) fun D σ H ⟨env, Hk, G, re, q⟩ => q _ _ σ Hk H (Kx.refl _ _) re ⟨rfl, .inl ⟨rfl, rfl, rfl⟩⟩⟩
theorem psx_raise {n : Nat} (h : EC X.prog X.w X.K X.mg X.base y.cm x c k fs) (hr : Room kk X.A) (hc : X.calm = true) (tk : Takes X y.W) (ha : PAs X y (e :: es) ma) (hl : fs.length = n + 1 := by rfl) (hn : Many ma (n + 1) := by repeat first | exact many_nil | refine many_cons ?_) (hn2 : n < 1000 := by decide) (hk : k + 1 ≤ kk := by decide) (hg : Gl X x := by rfl) (hdb : (x == ("__debug__" : Str)) = false := by decide)
    (he : starEach (e :: es) X.env = (false, eval e X.env) :: starEach es X.env := by rfl) (hpl : (backTo pos (starEach es X.env)).any (·.1) = false := by rfl) :
    PSx X y (.Raise (some (.Call (.Name x p) (e :: es) [] pos)) none pos2) (mRaise c fs ma) := by
  obtain ⟨fI, fd, ps, h1, h2, h3, h4, h5, h6⟩ := h.ex
  refine ⟨PS_imp (ps_raise hc tk (pmk_oex h1 h2 h3 h4 (hr.mono hk) h5 .nil passL hg h6 ha.pa hdb he hpl)) fun D σ H ⟨env, Hk, G, re, q⟩ => ⟨env, Hk, G, re, as_bind q fun ts e1 vs Hk' H1 z k1 r1 rs q1 => ?_⟩⟩
  have hlen : vs.length = fs.length := by rw [← rs.len, hn _ _ _ z, hl]
  refine ⟨by omega, fun a hfree => ⟨a, vs, by rw [List.append_nil], hlen, upd_same, fun H' hx => ⟨rfl, ?_⟩⟩⟩
  cases z2 : forceAll ts e1 with
  | bad => rw [z2] at q1; exact q1.elim
  | ex _ _ _ _ => rw [z2] at q1; exact q1.elim
  | ok ds e2 =>
    rw [z2] at q1
    obtain ⟨Hk2, k2, r2, rl⟩ := RVs.force r1 rs z2
    cases zl : (fs.zip vs).reverse with
    | nil =>
      have : (fs.zip vs).reverse.length = 0 := by rw [zl]; rfl
      rw [List.length_reverse, List.length_zip, hlen] at this
      omega
    | cons f0 fr =>
      rw [zl] at hx
      obtain ⟨d, hd, hne, rfl⟩ := hx
      have hd1 : H1 d = none := by rw [upd_ne hne] at hd; exact hd
      refine ⟨d, f0 :: fr, upd_same, by rw [upd_ne hne, upd_same], hd1, ?_⟩
      have eH : upd (del (upd (upd (upd H1 a (exo a (y.cm c) none)) d (exd d (f0 :: fr))) a (exo a (y.cm c) (some d))) a) d (.xd (f0 :: fr)) = upd H1 d (.xd (f0 :: fr)) := by
        funext b
        by_cases hb : b = d
        · rw [hb, upd_same, upd_same]
        · rw [upd_ne hb, upd_ne hb]
          by_cases hba : b = a
          · rw [hba, del_same, hfree]
          · rw [del_ne hba, upd_ne hba, upd_ne hb, upd_ne hba]
      rw [eH]
      refine q1 _ _ σ Hk2 _ k2 (r2.ext (Ex.new hd1)) ⟨rfl, .inr ⟨d, vs.reverse, rfl, ?_, by simp [hlen], rl.reverse⟩⟩
      rw [upd_same, ← zip_rev hlen.symm, zl]
end
end VM

set_option Elab.async false
set_option linter.all false
set_option maxRecDepth 100000
set_option maxHeartbeats 1000000
/-! VM G: try .. with several clauses, each with or without a name -/
namespace VM
open PySem PySem.Spec PyProof.Rows L2
abbrev Cl := Value × Option Nat × (Addr → Value → Option Addr → TS)
/-- an end of a clause: its name goes -/
def endsAt (oi : Option Nat) (D : Ends) : Ends := match oi with
  | none => D
  | some i => { nx := fun σ' H' => D.nx (σ'.set i none) H', rt := D.rt, bk := fun σ' H' => D.bk (σ'.set i none) H', ct := fun σ' H' => D.ct (σ'.set i none) H' }
def atCl (oi : Option Nat) (a : Addr) (σ : L2.St) : L2.St := match oi with
  | none => σ
  | some i => σ.set i (some (.ref a))
def wAll (K : PySem.W.Frag) (Wout : WX) (D : Ends) : List Cl → WX
  | [] => Wout
  | (c, oi, ts) :: r => fun cls d σ H => ∃ b, PySem.W.exmOne K cls c = some b ∧ (b = true → ∀ a, H a = none → ts a cls d (endsAt oi D) (atCl oi a σ) H) ∧ (b = false → wAll K Wout D r cls d σ H)
inductive ClsOk (X : Cx) : List ExceptHandler → List Cl → Prop
  | nil : ClsOk X [] []
  | cons {x : Str} {c : Value} {ts : Addr → Value → Option Addr → TS} {b₀ : Stmt} {suite : List Stmt} {np pos' : Pos} {hds : List ExceptHandler} {l : List Cl} (hc : Names X x c)
      (hsu : ∀ (a : Addr) (oe : Obj) (cls : Value) (d : Option Addr) (pn : List (Addr × Obj)), Zc cls d oe → (∃ vs, oe.data = .fields vs) → PSs (X.suite a ((a, oe) :: pn)) (b₀ :: suite) (ts a cls d)) (r : ClsOk X hds l) :
      ClsOk X (.ExceptHandler (some (.Name x np)) none (b₀ :: suite) pos' :: hds) ((c, none, ts) :: l)
  | consN {x n : Str} {c : Value} {i : Nat} {ts : Addr → Value → Option Addr → TS} {b₀ : Stmt} {suite : List Stmt} {np pos' : Pos} {hds : List ExceptHandler} {l : List Cl} (hN : X.N.Nodup) (hi : X.N[i]? = some n) (hln : X.env.kindOf n = some .local) (hc : Names X x c)
      (hsu : ∀ (a : Addr) (oe : Obj) (cls : Value) (d : Option Addr) (pn : List (Addr × Obj)), Zc cls d oe → (∃ vs, oe.data = .fields vs) → PSs (X.suite a ((a, oe) :: pn)) (b₀ :: suite) (ts a cls d)) (r : ClsOk X hds l) :
      ClsOk X (.ExceptHandler (some (.Name x np)) (some n) (b₀ :: suite) pos' :: hds) ((c, some i, ts) :: l)
section
variable {X : Cx} {body : List Stmt} {h₀ : ExceptHandler} {hds : List ExceptHandler} {l : List Cl} {pos : Pos} {tb : WX → TS} {Wout : WX}
theorem ps_try_all (hs : X.stack = X.env :: X.outer) (hf : X.env.frame = some X.env.locals) (tk : Takes X Wout)
    (hb : ∀ (W : WX) (pn : List (Addr × Obj)) (xe : Value → Shared → Prop), Takes (X.tr pn xe) W → PassesOwn (model X.prog X.w) X.A X.env xe → PSs (X.tr pn xe) body (tb W))
    (hh : ClsOk X (h₀ :: hds) l) : PS X (.Try body (h₀ :: hds) [] [] pos) (fun D σ H => tb (wAll X.K Wout D l) D σ H) := by
  refine ⟨fun pins s σ H D I h => ?_⟩
  have ok := I.ok
  have hfr : X.A.frames = some (X.env :: X.outer) := by rw [ok.frames, hs]
  refine wpAny_Try_except ?_
  refine wpAny_mono ((hb (wAll X.K Wout D l) (X.pn ++ pins) (fun e s₁ => wpAny (model X.prog X.w) X.A (noteFrame e X.env) (fun _ s₂ => wpAny (model X.prog X.w) X.A (setFlight e none) (fun _ s₃ =>
    wpAny (model X.prog X.w) X.A (handleBy e X.env (h₀ :: hds)) (SP X pins D) X.xe s₃) X.xe s₂) X.xe s₁) (fun u s' xx => ?_) PassesOwn.looking).run [] s σ H D (I.toTry _) h) (fun f s1 hsp => ?_) (fun e s1 he => he)
  · -- the catch
    obtain ⟨a, B, sI, pins', σ', H', cls, d, rfl, J', nb, up, sky, na, os, ag, w⟩ := xx
    have J : Inv X pins σ' H' sI := J'.ofTry ok
    have sky' : Sky B (X.env :: X.outer) a (Zc cls d) X.env.locals s'.heap := by rw [← hs]; exact sky
    show wpAny (model X.prog X.w) X.A (noteFrame (.ref a) X.env) _ _ _
    refine Sky.land Zc.steady hfr hf sky' fun h3 fl3 up3 => ?_
    have J3 : Inv X pins σ' H' { s' with heap := h3 } := J.landed nb fl3.1 (up.trans up3) os ag
    obtain ⟨oe3, vs3, he3, hz3, hd3⟩ := fl3.there
    have notFr : ∀ {h : Heap} {o : Obj} {vs : Array Value}, h.FunFrames B (X.env :: X.outer) → h.get? a = some o → o.data = .fields vs → a ∉ frs (X.env :: X.outer) := fun {h o vs} ff e dd hm => by
      obtain ⟨_, o', e', hnf⟩ := ff.mem hm
      rw [e] at e'; cases e'
      exact hnf _ dd
    have nfr := notFr fl3.2.2.1 he3 hd3
    have nL : a ≠ X.env.locals := fun z => nfr (List.mem_filterMap.mpr ⟨X.env, List.mem_cons_self, by rw [hf, z]⟩)
    have nF : a ∉ X.fs := fun hm => by
      obtain ⟨e, he, q⟩ := List.mem_filterMap.mp hm
      exact nfr (List.mem_filterMap.mpr ⟨e, List.mem_cons_of_mem _ he, q⟩)
    have S3 := J3.suite he3 hd3 na nL nF
    have LT : PySem.W.Looks (model X.prog X.w) h3 (typeOf (.ref a)) cls := fun A Q E s k q => wpAny_typeOf_ref (k _ _ he3) (by rw [hz3.1]; exact q)
    have test : ∀ {x : Str} {c : Value} {np : Pos} {Q : Value → Shared → Prop} {E : Value → Shared → Prop}, Names X x c → Q c { s' with heap := h3 } → wpAny (model X.prog X.w) (X.A.mark (some (.ref a))) (eval (.Name x np) X.env) Q E { s' with heap := h3 } := fun {x c np Q E} hc q => by
      obtain ⟨hg, hdbg, hm | ⟨hm, hv, hnn⟩⟩ := hc
      · exact ld_glob (X := X.suite a ((a, oe3) :: (X.pn ++ pins))) S3 hg hm q hdbg
      · exact ld_blt (X := X.suite a ((a, oe3) :: (X.pn ++ pins))) S3 hg hm hv q hnn hdbg
    have go : ∀ {hds' : List ExceptHandler} {l' : List Cl}, ClsOk X hds' l' → wAll X.K Wout D l' cls d σ' H' →
        wpAny (model X.prog X.w) X.A (handleBy (.ref a) X.env hds') (SP X pins D) X.xe { s' with heap := h3 } := by
      intro hds' l' hk
      induction hk with
      | nil =>
        intro w
        refine wpAny_handleBy_nil ?_
        obtain ⟨k1, k2, k3, oe, vs, T, oT, ts', he, hz, hd, h1, hr⟩ := id fl3
        unfold PySem.passOn
        refine wpAny_bind (wpAny_field he hd h1 ?_)
        rw [if_neg (show ¬ ((Value.ref T == Value.none) = true) from by simp)]
        have fin : wpAny (model X.prog X.w) X.A (setFlight (.ref a) X.env.frame) (fun _ s4 => wpAny (model X.prog X.w) X.A (throw (.ref a) : Sem Flow) (SP X pins D) X.xe s4) X.xe { s' with heap := h3 } := by
          rw [hf]
          refine HandSPX.setFlight_upZ fl3 fun h4 hh4 up4 => wpAny_throw (tk _ _ ?_)
          exact ⟨a, B, sI, pins, σ', H', cls, d, rfl, J, nb, (up.trans up3).trans up4, .inr (.inr (by rw [hs]; exact hh4)), na, os, ag, w⟩
        first
          | exact wpAny_bind (wpAny_pure (wpAny_bind fin))
          | exact wpAny_bind fin
      | @cons x c ts b₀ suite np pos' hds2 l2 hc hsu r ih =>
        intro w
        obtain ⟨b, hb1, hyes, hno⟩ := w
        refine wpAny_handleBy_cons (codeAny_handlers_test ?_) (by intro q; cases q)
        have LM := PySem.W.exm_one (M := model X.prog X.w) (J3.kIn) LT hb1
        refine test hc (LM.here ?_)
        cases b with
        | true =>
          refine codeAny_handlers_suite ?_
          refine HandSPX.lands_againZ fl3 fun h4 fl4 up4 => ?_
          have J4 : Inv X pins σ' H' { s' with heap := h4 } := J.landed nb fl4.1 ((up.trans up3).trans up4) os ag
          obtain ⟨oe4, vs4, he4, hz4, hd4⟩ := fl4.there
          have S4 := J4.suite he4 hd4 na nL nF
          refine wpAny_mono ((hsu a oe4 cls d (X.pn ++ pins) hz4 ⟨_, hd4⟩).run [] _ _ H' _ S4 (hyes rfl a na)) (fun f s6 hsp => ?_) (fun _ _ z => False.elim z)
          cases f with
          | next =>
            obtain ⟨σ6, H6, S6, q6⟩ := hsp
            exact ⟨_, _, S6.unsuite ok, q6⟩
          | brk =>
            obtain ⟨σ6, H6, S6, q6⟩ := hsp
            exact ⟨_, _, S6.unsuite ok, q6⟩
          | cont =>
            obtain ⟨σ6, H6, S6, q6⟩ := hsp
            exact ⟨_, _, S6.unsuite ok, q6⟩
          | ret u =>
            obtain ⟨v6, σ6, H6, S6, r6, q6⟩ := hsp
            exact ⟨_, _, _, S6.unsuite ok, r6, q6⟩
        | false =>
          show wpAny _ X.A (handleBy (.ref a) X.env hds2) _ _ _
          exact ih (hno rfl)
      | @consN x n c i ts b₀ suite np pos' hds2 l2 hN hi hln hc hsu r ih =>
        intro w
        obtain ⟨b, hb1, hyes, hno⟩ := w
        refine wpAny_handleBy_cons (codeAny_handlers_test ?_) (by intro q; cases q)
        have LM := PySem.W.exm_one (M := model X.prog X.w) (J3.kIn) LT hb1
        refine test hc (LM.here ?_)
        cases b with
        | true =>
          refine codeAny_handlers_suite_as ?_
          refine HandSPX.lands_againZ fl3 fun h4 fl4 up4 => ?_
          have J4 : Inv X pins σ' H' { s' with heap := h4 } := J.landed nb fl4.1 ((up.trans up3).trans up4) os ag
          obtain ⟨oe4, vs4, he4, hz4, hd4⟩ := fl4.there
          have S4 := J4.suite he4 hd4 na nL nF
          refine store_ok (X := X.suite a ((a, oe4) :: (X.pn ++ pins))) (v := .ref a) S4 hN hi (.inl hln) rfl (fun s5 S5 => ?_) (.inr hln)
          refine wpAny_mono ((hsu a oe4 cls d (X.pn ++ pins) hz4 ⟨_, hd4⟩).run [] s5 _ H' _ S5 (hyes rfl a na)) (fun f s6 hsp => ?_) (fun _ _ z => False.elim z)
          have end_ : ∀ {σ6 : L2.St} {H6 : Hp} {Q : Shared → Prop}, Inv (X.suite a ((a, oe4) :: (X.pn ++ pins))) [] σ6 H6 s6 → (∀ s7, Inv X pins (σ6.set i none) H6 s7 → Q s7) →
              wpAny (model X.prog X.w) X.A (do bindName X.env n .none; unbindBehindTheSuite X.env n pos') (fun _ s7 => Q s7) X.xe s6 := fun {σ6 H6 Q} S6 hq => gone_ok (S6.unsuite ok) hN hi hln hq
          cases f with
          | next =>
            obtain ⟨σ6, H6, S6, q6⟩ := hsp
            exact end_ S6 fun s7 J7 => ⟨_, _, J7, q6⟩
          | brk =>
            obtain ⟨σ6, H6, S6, q6⟩ := hsp
            exact end_ S6 fun s7 J7 => ⟨_, _, J7, q6⟩
          | cont =>
            obtain ⟨σ6, H6, S6, q6⟩ := hsp
            exact end_ S6 fun s7 J7 => ⟨_, _, J7, q6⟩
          | ret u =>
            obtain ⟨v6, σ6, H6, S6, r6, q6⟩ := hsp
            exact end_ S6 fun s7 J7 => ⟨_, _, _, J7, r6, q6⟩
        | false =>
          show wpAny _ X.A (handleBy (.ref a) X.env hds2) _ _ _
          exact ih (hno rfl)
    exact go hh w
  · cases f with
    | next =>
      obtain ⟨σ', H', J', q⟩ := hsp
      exact wpAny_execs_nil ⟨σ', H', J'.ofTry ok, q⟩
    | brk =>
      obtain ⟨σ', H', J', q⟩ := hsp
      exact ⟨σ', H', J'.ofTry ok, q⟩
    | cont =>
      obtain ⟨σ', H', J', q⟩ := hsp
      exact ⟨σ', H', J'.ofTry ok, q⟩
    | ret u =>
      obtain ⟨v, σ', H', J', r, q⟩ := hsp
      exact ⟨v, σ', H', J'.ofTry ok, r, q⟩
end
/-! ### the same over plain data -/
def clearX : S → S
  | .xv _ _ _ => .no
  | s => s
def unX (env : Env) : Env := env.map clearX
theorem unX_get {env : Env} {i : Nat} {s : S} (h : (unX env)[i]? = some s) (hs : s ≠ .no) : env[i]? = some s ∧ ∀ c ns ds, s ≠ .xv c ns ds := by
  unfold unX at h
  rw [List.getElem?_map] at h
  cases z : env[i]? with
  | none => rw [z] at h; cases h
  | some u =>
    rw [z] at h
    cases u with
    | xv c ns ds => cases h; exact absurd rfl hs
    | no => cases h; exact absurd rfl hs
    | sh d => cases h; exact ⟨rfl, fun _ _ _ e => by cases e⟩
    | ow d => cases h; exact ⟨rfl, fun _ _ _ e => by cases e⟩
section
variable {C : Ct} {G Hk H : Hp} {env : Env} {σ : L2.St} {p : Option Addr} {t : Addr × Value × Option Addr}
theorem RE.unX (r : RE C ⟨some t, p⟩ G env σ Hk H) : RE C ⟨none, p⟩ G (VM.unX env) σ Hk H := by
  refine ⟨by unfold VM.unX; rw [List.length_map]; exact r.len, r.hk, r.g, fun i d h => r.sh i d (unX_get h (by simp)).1, fun i d h => r.ow i d (unX_get h (by simp)).1,
    fun i j d d' a h1 h2 => r.inj i j d d' a (unX_get h1 (by simp)).1 (unX_get h2 (by simp)).1, fun i c ns ds h => absurd rfl ((unX_get h (by simp)).2 c ns ds), fun a d h1 h2 => r.pn a d h1 (unX_get h2 (by simp)).1⟩
theorem RE.toX (r : RE C ⟨none, p⟩ G env σ Hk H) : RE C ⟨some t, p⟩ G env σ Hk H :=
  ⟨r.len, r.hk, r.g, r.sh, r.ow, r.inj, fun i c ns ds h => (by
    obtain ⟨a, cls, dd, e, _⟩ := r.xv i c ns ds h
    cases e), r.pn⟩
theorem RE.setX (r : RE C ⟨none, p⟩ G env σ Hk H) {i c : Nat} {ns : List Str} {ds : List D} {a : Addr} {cls : Value} {dd : Option Addr} (rx : RpX C Hk H c ns ds cls dd) :
    RE C ⟨some (a, cls, dd), p⟩ G (env.set i (.xv c ns ds)) (σ.set i (some (.ref a))) Hk H := by
  have r1 := (r.dropSet i (some (.ref a))).toX (t := (a, cls, dd))
  refine ⟨by simpa using r.len, r.hk, r.g, fun j d h => ?_, fun j d h => ?_, fun j k d d' b h1 h2 => ?_, fun j c' ns' ds' h => ?_, fun b d h1 h2 => ?_⟩
  · rcases set_get h with ⟨_, _, e⟩ | ⟨ne, e⟩
    · cases e
    · exact r1.sh j d (by rw [List.getElem?_set_ne ne]; exact e)
  · rcases set_get h with ⟨_, _, e⟩ | ⟨ne, e⟩
    · cases e
    · exact r1.ow j d (by rw [List.getElem?_set_ne ne]; exact e)
  · rcases set_get h1 with ⟨_, _, e⟩ | ⟨ne1, e1⟩
    · cases e
    · rcases set_get h2 with ⟨_, _, e⟩ | ⟨ne2, e2⟩
      · cases e
      · exact r1.inj j k d d' b (by rw [List.getElem?_set_ne ne1]; exact e1) (by rw [List.getElem?_set_ne ne2]; exact e2)
  · rcases set_get h with ⟨rfl, hl, e⟩ | ⟨ne, e⟩
    · cases e
      exact ⟨a, cls, dd, rfl, by rw [List.getElem?_set_self (by rw [← r.len]; exact hl)], rx⟩
    · obtain ⟨_, _, _, e', _⟩ := r.xv j c' ns' ds' e
      cases e'
  · rcases set_get h2 with ⟨_, _, e⟩ | ⟨ne, e⟩
    · cases e
    · exact r1.pn b d h1 (by rw [List.getElem?_set_ne ne]; exact e)
end
def leave (oi : Option Nat) (env : Env) : Env := match oi with
  | none => unX env
  | some i => (unX env).set i .no
def enter (oi : Option Nat) (c : Nat) (ns : List Str) (ds : List D) (env : Env) : Env := match oi with
  | none => env
  | some i => env.set i (.xv c ns ds)
def suiteEnd (oi : Option Nat) : Rs Fl → Rs Fl
  | .ok .nx e => .ok .nx (leave oi e)
  | .ok .bk e => .ok .bk (leave oi e)
  | .ok .ct e => .ok .ct (leave oi e)
  | .ok (.rt t) e => .ok (.rt t) (unX e)
  | _ => .bad
def mHandle (sub : Nat → D → Option Bool) (c : Nat) (ns : List Str) (ds : List D) : List (D × Option Nat × M Fl) → M Fl
  | [], e => .ex c ns ds e
  | (k, oi, m) :: r, e => match sub c k with
    | some true => suiteEnd oi (m (enter oi c ns ds e))
    | some false => mHandle sub c ns ds r e
    | none => .bad
def mTry (sub : Nat → D → Option Bool) (body : M Fl) (hs : List (D × Option Nat × M Fl)) : M Fl := fun env => match body env with
  | .ex c ns ds e => mHandle sub c ns ds hs e
  | r => r
structure SubX (K : PySem.W.Frag) (cm : Nat → Addr) (sub : Nat → D → Option Bool) : Prop where
  ok : ∀ c k b cv, sub c k = some b → valT cm k = some cv → PySem.W.exmOne K (.ref (cm c)) cv = some b
abbrev ySu (y : Y) (a : Addr) (cls : Value) (d : Option Addr) : Y := ⟨y.cm, ⟨some (a, cls, d), y.xa.p⟩, fun _ _ _ _ => False⟩
inductive HxOk (X : Cx) (y : Y) : List ExceptHandler → List (D × Option Nat × M Fl) → Prop
  | nil : HxOk X y [] []
  | cons {x : Str} {k : D} {cv : Value} {m : M Fl} {b₀ : Stmt} {suite : List Stmt} {np pos' : Pos} {hds : List ExceptHandler} {l : List (D × Option Nat × M Fl)} (hv : valT y.cm k = some cv) (hc : Names X x cv)
      (hsu : ∀ (a : Addr) (oe : Obj) (cls : Value) (d : Option Addr) (pn : List (Addr × Obj)), Zc cls d oe → (∃ vs, oe.data = .fields vs) → PSSx (X.suite a ((a, oe) :: pn)) (ySu y a cls d) (b₀ :: suite) m) (r : HxOk X y hds l) :
      HxOk X y (.ExceptHandler (some (.Name x np)) none (b₀ :: suite) pos' :: hds) ((k, none, m) :: l)
  | consN {x n : Str} {k : D} {cv : Value} {i : Nat} {m : M Fl} {b₀ : Stmt} {suite : List Stmt} {np pos' : Pos} {hds : List ExceptHandler} {l : List (D × Option Nat × M Fl)} (hN : X.N.Nodup) (hi : X.N[i]? = some n) (hln : X.env.kindOf n = some .local) (hv : valT y.cm k = some cv) (hc : Names X x cv)
      (hsu : ∀ (a : Addr) (oe : Obj) (cls : Value) (d : Option Addr) (pn : List (Addr × Obj)), Zc cls d oe → (∃ vs, oe.data = .fields vs) → PSSx (X.suite a ((a, oe) :: pn)) (ySu y a cls d) (b₀ :: suite) m) (r : HxOk X y hds l) :
      HxOk X y (.ExceptHandler (some (.Name x np)) (some n) (b₀ :: suite) pos' :: hds) ((k, some i, m) :: l)
/-- a clause's reading -/
def clOf (X : Cx) (y : Y) (q : D × Option Nat × M Fl) : Cl := ((valT y.cm q.1).getD .none, q.2.1, fun a cls d D σ H => ∃ env Hk G, RE (y.ct X) ⟨some (a, cls, d), y.xa.p⟩ G env σ Hk H ∧ PoS (y.ct X) ⟨some (a, cls, d), y.xa.p⟩ (fun _ _ _ _ => False) G Hk (q.2.2 env) D)
theorem hx_cls {X : Cx} {y : Y} {hds : List ExceptHandler} {l : List (D × Option Nat × M Fl)} (h : HxOk X y hds l) : ClsOk X hds (l.map (clOf X y)) ∧ ∀ q ∈ l, ∃ cv, valT y.cm q.1 = some cv := by
  induction h with
  | nil => exact ⟨.nil, fun q hq => by cases hq⟩
  | @cons x k cv m b₀ suite np pos' hds l hv hc hsu r ih =>
    refine ⟨.cons (by show Names X x ((valT y.cm k).getD .none); rw [hv]; exact hc) (fun a oe cls d pn z f => PSs_imp (hsu a oe cls d pn z f).pss fun D σ H q => q) ih.1, fun q hq => ?_⟩
    rcases List.mem_cons.mp hq with rfl | hq
    · exact ⟨cv, hv⟩
    · exact ih.2 q hq
  | @consN x n k cv i m b₀ suite np pos' hds l hN hi hln hv hc hsu r ih =>
    refine ⟨.consN hN hi hln (by show Names X x ((valT y.cm k).getD .none); rw [hv]; exact hc) (fun a oe cls d pn z f => PSs_imp (hsu a oe cls d pn z f).pss fun D σ H q => q) ih.1, fun q hq => ?_⟩
    rcases List.mem_cons.mp hq with rfl | hq
    · exact ⟨cv, hv⟩
    · exact ih.2 q hq
section
variable {X : Cx} {y : Y} {body : List Stmt} {h₀ : ExceptHandler} {hds : List ExceptHandler} {l : List (D × Option Nat × M Fl)} {pos : Pos} {mb : M Fl} {sub : Nat → D → Option Bool}
theorem suite_go {C : Ct} {G Hk : Hp} {p : Option Addr} {t : Addr × Value × Option Addr} {W : WX} {oi : Option Nat} {D : Ends} {r : Rs Fl} (q : PoS C ⟨none, p⟩ W G Hk (suiteEnd oi r) D) : PoS C ⟨some t, p⟩ (fun _ _ _ _ => False) G Hk r (endsAt oi D) := by
  cases r with
  | bad => exact q.elim
  | ex c ns ds e => exact q.elim
  | ok fl e =>
    cases fl with
    | rt t =>
        intro v σ' Hk' H' k r rt
        have q : ∀ v σ' Hk' H', Kx G Hk Hk' → RE C ⟨none, p⟩ G (unX e) σ' Hk' H' → RT C G (unX e) σ' Hk' H' t v → D.rt v H' := q
        have q2 := q v σ' Hk' H' k r.unX (by
          cases t with
          | val d => exact rt
          | slot j => exact rt
          | new d =>
            obtain ⟨a, h1, h2, h3, h4⟩ := rt
            exact ⟨a, h1, h2, h3, fun i d' h => h4 i d' (unX_get h (by simp)).1⟩)
        cases oi <;> exact q2
    | nx =>
      cases oi with
      | none => exact fun σ' Hk' H' k r => q σ' Hk' H' k r.unX
      | some i => exact fun σ' Hk' H' k r => q (σ'.set i none) Hk' H' k (r.unX.dropSet i none)
    | bk =>
      cases oi with
      | none => exact fun σ' Hk' H' k r => q σ' Hk' H' k r.unX
      | some i => exact fun σ' Hk' H' k r => q (σ'.set i none) Hk' H' k (r.unX.dropSet i none)
    | ct =>
      cases oi with
      | none => exact fun σ' Hk' H' k r => q σ' Hk' H' k r.unX
      | some i => exact fun σ' Hk' H' k r => q (σ'.set i none) Hk' H' k (r.unX.dropSet i none)
theorem handle_go (S : SubX X.K y.cm sub) (hx : y.xa.x = none) {G Hk H : Hp} {c : Nat} {ns : List Str} {ds : List D} {σ : L2.St} {cls : Value} {dd : Option Addr} {Dd : Ends} : ∀ {l : List (D × Option Nat × M Fl)} {e : Env}, (∀ q ∈ l, ∃ cv, valT y.cm q.1 = some cv) →
    RE (y.ct X) y.xa G e σ Hk H → RpX (y.ct X) Hk H c ns ds cls dd → PoS (y.ct X) y.xa y.W G Hk (mHandle sub c ns ds l e) Dd → wAll X.K y.W Dd (l.map (clOf X y)) cls dd σ H
  | [], e, hv, re, rx, q => q cls dd σ Hk H (Kx.refl _ _) re rx
  | (k, oi, m) :: r, e, hv, re, rx, q => by
    obtain ⟨⟨xx, p⟩⟩ : Nonempty Xa := ⟨y.xa⟩
    obtain ⟨cv, hcv⟩ := hv _ List.mem_cons_self
    have hcv : valT y.cm k = some cv := hcv
    unfold mHandle at q
    cases z : sub c k with
    | none => rw [z] at q; exact q.elim
    | some b =>
      rw [z] at q
      refine ⟨b, ?_, fun hb a ha => ?_, fun hb => ?_⟩
      · rw [rx.1]
        show PySem.W.exmOne X.K (.ref (y.cm c)) ((valT y.cm k).getD .none) = some b
        rw [hcv]
        exact S.ok c k b cv z hcv
      · subst hb
        dsimp only at q
        have exa : y.xa = ⟨none, y.xa.p⟩ := by rw [← hx]
        rw [exa] at q re
        refine ⟨enter oi c ns ds e, Hk, G, ?_, suite_go q⟩
        cases oi with
        | none => exact re.toX
        | some i => exact re.setX rx
      · subst hb
        dsimp only at q
        exact handle_go S hx (fun q hq => hv q (List.mem_cons_of_mem _ hq)) re rx q
theorem psx_try (S : SubX X.K y.cm sub) (tk : Takes X y.W) 
    (hb : ∀ (W : WX) (pn : List (Addr × Obj)) (xe : Value → Shared → Prop), Takes (X.tr pn xe) W → PassesOwn (model X.prog X.w) X.A X.env xe → PSSx (X.tr pn xe) ⟨y.cm, y.xa, W⟩ body mb)
    (hh : HxOk X y (h₀ :: hds) l) (hx : y.xa.x = none := by rfl) (hs : X.stack = X.env :: X.outer := by rfl) (hf : X.env.frame = some X.env.locals := by rfl) : PSx X y (.Try body (h₀ :: hds) [] [] pos) (mTry sub mb l) := by
  obtain ⟨h1, h2⟩ := hx_cls hh
  refine ⟨PS_imp (ps_try_all (tb := fun W => tS X ⟨y.cm, y.xa, W⟩ mb) hs hf tk (fun W pn xe t p => (hb W pn xe t p).pss) h1) fun D σ H ⟨env, Hk, G, re, q⟩ => ⟨env, Hk, G, re, ?_⟩⟩
  unfold mTry at q
  cases z : mb env with
  | bad => rw [z] at q; exact q.elim
  | ok fl e => rw [z] at q; cases fl <;> exact q
  | ex c ns ds e =>
    rw [z] at q
    intro cls dd σ' Hk' H' k' r' rx
    exact handle_go S hx h2 r' rx (q.kx k')
end
/-! ### raised.f -/
def mXf (cs : List Nat) (k : Nat) (n : Str) : M Tk := fun env => match env[k]? with
  | some (.xv c ns ds) => if c ∈ cs then match (ns.zip ds).lookup n with
    | some d => .ok (.val d) env
    | none => .bad
  else .bad
  | _ => .bad
theorem look_put {α : Type} (f g : Str) (y : α) (fs : List (Str × α)) : ((f, y) :: fs).lookup g = if g = f then some y else fs.lookup g := by
  by_cases h : g = f
  · subst h
    simp [List.lookup]
  · have e : (g == f) = false := by simpa using h
    rw [if_neg h]
    simp [List.lookup, e]
theorem zip_look {C : Ct} {H : Hp} {n : Str} {d : D} : ∀ {ns : List Str} {ds : List D} {vs : List V}, RpL C H ds vs → (ns.zip ds).lookup n = some d → ∃ v, (ns.zip vs).lookup n = some v ∧ Rp C H d v
  | [], _, _, _, h => by cases h
  | _ :: _, [], _, _, h => by cases h
  | m :: ns, e :: ds, vs, r, h => by
    obtain ⟨v, r', rfl, r1, r2⟩ := r.inv
    rw [List.zip_cons_cons, look_put] at h
    rw [List.zip_cons_cons, look_put]
    by_cases q : n = m
    · rw [if_pos q] at h ⊢
      cases h
      exact ⟨v, rfl, r1⟩
    · rw [if_neg q] at h ⊢
      exact zip_look r2 h
theorem px_xf {X : Cx} {y : Y} {a : Addr} {oe : Obj} {cls : Value} {d : Option Addr} {pn : List (Addr × Obj)} {i : Nat} {pos p : Pos} {n x : Str} {cs : List Nat} (T : ∀ c ∈ cs, XfC X.K (y.cm c) ∧ PySem.W.findIn X.K (.ref (y.cm c)) n = some none)
    (hz : Zc cls d oe) (hf : ∃ vs, oe.data = .fields vs) (he : PE (X.suite a ((a, oe) :: pn)) (.Name x p) (tVar i)) (hb : attributeBase (.Name x p) n X.env (eval (.Name x p) X.env) = eval (.Name x p) X.env := by rfl) :
    PX (X.suite a ((a, oe) :: pn)) (ySu y a cls d) (.Attribute (.Name x p) n pos) (mXf cs i n) := by
  have P : PE (X.suite a ((a, oe) :: pn)) (.Attribute (.Name x p) n pos) (fun σ H Q => ∃ c ∈ cs, tXf a cls d (y.cm c) n (tVar i) σ H Q) :=
    ⟨fun pins s σ H Q I ⟨c, hc, h⟩ => (pe_xf (T c hc).1 (T c hc).2 hz hf he hb).run pins s σ H Q I h⟩
  refine ⟨PE_imp P fun σ H Q ⟨env, Hk, G, re, q⟩ => ?_⟩
  unfold mXf at q
  cases z : env[i]? with
  | none => rw [z] at q; exact q.elim
  | some s =>
    rw [z] at q
    cases s with
    | no => exact q.elim
    | sh _ => exact q.elim
    | ow _ => exact q.elim
    | xv c ns ds =>
      dsimp only at q
      by_cases hc : c ∈ cs
      · rw [if_pos hc] at q
        obtain ⟨a', cls', dd, e, hσ, rx⟩ := re.xv i c ns ds z
        cases e
        cases l : (ns.zip ds).lookup n with
        | none => rw [l] at q; exact q.elim
        | some dv =>
          rw [l] at q
          obtain ⟨ec, hh⟩ := rx
          rcases hh with ⟨rfl, rfl, _⟩ | ⟨d1, vs, ed, hd, hl, rl⟩
          · cases l
          · obtain ⟨v, hv, rv⟩ := zip_look rl l
            exact ⟨c, hc, .ref a, hσ, rfl, ec, d1, _, v, ed, hd, hv, q v Hk H (Kx.refl _ _) re rv⟩
      · rw [if_neg hc] at q; exact q.elim
end VM

set_option Elab.async false
set_option linter.all false
set_option maxRecDepth 100000
set_option maxHeartbeats 1000000
/-! VM H: more operators, walks, defaults, chains -/
namespace VM
open PySem PySem.Spec PyProof.Rows L2
section
variable {X : Cx} {y : Y} {a b c e : Expr} {es : List Expr} {m m1 m2 m3 : M Tk} {ma : M (List Tk)} {n : M Bool} {pos p : Pos}
/-! ### bits -/
def dShr : D → D → Option Tk := dI (fun _ j => decide (0 ≤ j)) fun i j => .int (i / 2 ^ j.toNat)
theorem px_shr (ha : PX X y a m1) (hb : PX X y b m2) : PX X y (.BinOp a .RShift b pos) (mBin dShr m1 m2) := px_bin op_shr (dI_ok (fun _ _ _ => rp_int) fun _ _ h => of_decide_eq_true h) ha hb
def dAnd : D → D → Option Tk := dI (fun _ _ => true) fun i j => .int (Builtin.bitAnd i j)
theorem px_band (ha : PX X y a m1) (hb : PX X y b m2) : PX X y (.BinOp a .BitAnd b pos) (mBin dAnd m1 m2) := px_bin op_and (dI0_ok fun _ _ _ => rp_int) ha hb
/-! ### str -/
def dStr : D → Option Tk
  | .int i => if i.natAbs.log2 < 1920 then some (.val (.str (toString i))) else none
  | .str s => some (.val (.str s))
  | _ => none
theorem str_ok : OpN X y (fn1 dStr) (fun xs H Q => (∃ i, xs = [.int i] ∧ i.natAbs.log2 < 1920 ∧ Q (.str (toString i)) H) ∨ ∃ a, xs = [.str a] ∧ Q (.str a) H) := op1N (by
  intro Hk H d v t Q e h pa q
  cases d <;> simp only [dStr] at h <;> first
    | (cases h; done)
    | (split at h
       · cases h; cases pa.int; exact .inl ⟨_, rfl, by assumption, q _ _ (res_flat rp_str e)⟩
       · cases h)
    | (cases h; cases pa.str; exact .inr ⟨_, rfl, q _ _ (res_flat rp_str e)⟩))
theorem px_str1 (hm : X.mg "str" = none) (ha : PAs X y [e] ma) (hg : Gl X "str" := by rfl) (he : starEach [e] X.env = (false, eval e X.env) :: starEach [] X.env := by rfl) : PX X y (.Call (.Name "str" p) [e] [] pos) (mCall (fn1 dStr) ma) := px_typ (callR_or call_str_int SkE.call_str_str) str_ok hg hm (by decide +kernel) ha (he := he) (hpl := by rfl)
/-! ### a <= b < c -/
theorem px_chain {f g : D → D → Option Bool} {r r' : R2} {op op' : CmpOp} (ho : OpR X (compareOp op) r) (ho' : OpR X (compareOp op') r') (of : ∀ Hk H a b v w k Q, Ex Hk H → f a b = some k → Pk (y.ct X) Hk H a v → Pk (y.ct X) Hk H b w → (Q (.bl k) H) → r v w H Q) (og : Op2 X y (lift g) r')
    (ha : PX X y a m1) (hb : PX X y b m2) (hc : PX X y c m3) (hm : lastMarks [op, op'] [b, c] = false := by with_unfolding_all rfl) : PX X y (.Compare a [op, op'] [b, c] pos) (mChain f g m1 m2 m3) := by
  refine ⟨PE_imp (pe_chain ho ho' ha.pe hb.pe hc.pe hm) fun σ H Q ⟨env, Hk, G, re, q⟩ => ⟨env, Hk, G, re, po_bind q fun t1 e1 v Hk1 H1 k1 r1 rt1 q1 => ?_⟩⟩
  obtain ⟨Hk1', k1', r1, rv1⟩ := rt1.settle r1
  refine ⟨e1, Hk1', G, r1, po_bind (q1.kx k1') fun t2 e2 w Hk2 H2 k2 r2 rt2 q2 => ?_⟩
  have rt1 := (rv1.kx k2).rt (G := G) (env := e2) (H := H2)
  obtain ⟨Hk2', k2', r2', rv2⟩ := rt2.settle r2
  cases z1 : look t1.settle e2 with
  | none => rw [z1] at q2; exact q2.elim
  | some d1 =>
    cases z2 : look t2 e2 with
    | none => rw [z1, z2] at q2; exact q2.elim
    | some d2 =>
      rw [z1, z2] at q2
      dsimp only at q2
      cases z3 : f d1 d2 with
      | none => rw [z3] at q2; exact q2.elim
      | some k =>
        rw [z3] at q2
        refine of Hk2 H2 d1 d2 v w k _ r2.hk z3 (rt1.look r2 z1) (rt2.look r2 z2) ⟨k, rfl, ?_⟩
        cases k with
        | false => exact q2 _ Hk2 H2 (Kx.refl _ _) r2 (rp_bl (C := y.ct X) (H := Hk2))
        | true =>
          rw [if_pos rfl]
          refine ⟨e2, Hk2', G, r2', po_bind (q2.kx k2') fun t3 e3 u Hk3 H3 k3 r3 rt3 q3 => ?_⟩
          have rt2' := (rv2.kx k3).rt (G := G) (env := e3) (H := H3)
          cases z4 : look t2.settle e3 with
          | none => rw [z4] at q3; exact q3.elim
          | some b' =>
            cases z5 : look t3 e3 with
            | none => rw [z4, z5] at q3; exact q3.elim
            | some cc =>
              rw [z4, z5] at q3
              dsimp only at q3
              unfold mOf at q3
              cases z6 : g b' cc with
              | none => rw [z6] at q3; exact q3.elim
              | some k2 =>
                rw [z6] at q3
                refine og Hk3 H3 b' cc w u (.val (.bl k2)) Q r3.hk (by unfold lift; rw [z6]) (rt2'.look r3 z4) (rt3.look r3 z5) fun z H' hz => ?_
                obtain ⟨Hk', k1, r1, rt⟩ := r3.res hz
                exact q3 z Hk' H' k1 r1 rt
theorem cI_one {c : Int → Int → Bool} {f : D → D → Option Bool} (hf : ∀ d1 d2 k, f d1 d2 = some k → ∃ i j, d1 = .int i ∧ d2 = .int j ∧ k = c i j) : ∀ (Hk H : Hp) (a b : D) (v w : V) (k : Bool) (Q : VK), Ex Hk H → f a b = some k → Pk (y.ct X) Hk H a v → Pk (y.ct X) Hk H b w → Q (.bl k) H → rI0 (fun i j => .bl (c i j)) v w H Q := by
  intro Hk H a b v w k Q e h pa pb q
  obtain ⟨i, j, rfl, rfl, rfl⟩ := hf _ _ _ h
  cases pa.int
  cases pb.int
  exact ⟨i, j, rfl, rfl, q⟩
theorem cLt_i (d1 d2 : D) (k : Bool) (h : cLt d1 d2 = some k) : ∃ i j, d1 = .int i ∧ d2 = .int j ∧ k = decide (i < j) := by
  cases d1 <;> cases d2 <;> first | (cases h; done) | (cases h; exact ⟨_, _, rfl, rfl, rfl⟩)
theorem cLe_i (d1 d2 : D) (k : Bool) (h : cLe d1 d2 = some k) : ∃ i j, d1 = .int i ∧ d2 = .int j ∧ k = decide (i ≤ j) := by
  cases d1 <;> cases d2 <;> first | (cases h; done) | (cases h; exact ⟨_, _, rfl, rfl, rfl⟩)
theorem px_lele (ha : PX X y a m1) (hb : PX X y b m2) (hc : PX X y c m3) (hm : lastMarks [.LtE, .LtE] [b, c] = false := by with_unfolding_all rfl) : PX X y (.Compare a [.LtE, .LtE] [b, c] pos) (mChain cLe cLe m1 m2 m3) := px_chain op_le op_le (cI_one cLe_i) cI_ok ha hb hc hm
theorem px_lelt (ha : PX X y a m1) (hb : PX X y b m2) (hc : PX X y c m3) (hm : lastMarks [.LtE, .Lt] [b, c] = false := by with_unfolding_all rfl) : PX X y (.Compare a [.LtE, .Lt] [b, c] pos) (mChain cLe cLt m1 m2 m3) := px_chain op_le op_lt (cI_one cLe_i) cI_ok ha hb hc hm
theorem px_ltle (ha : PX X y a m1) (hb : PX X y b m2) (hc : PX X y c m3) (hm : lastMarks [.Lt, .LtE] [b, c] = false := by with_unfolding_all rfl) : PX X y (.Compare a [.Lt, .LtE] [b, c] pos) (mChain cLt cLe m1 m2 m3) := px_chain op_lt op_le (cI_one cLt_i) cI_ok ha hb hc hm
theorem px_ltlt (ha : PX X y a m1) (hb : PX X y b m2) (hc : PX X y c m3) (hm : lastMarks [.Lt, .Lt] [b, c] = false := by with_unfolding_all rfl) : PX X y (.Compare a [.Lt, .Lt] [b, c] pos) (mChain cLt cLt m1 m2 m3) := px_chain op_lt op_lt (cI_one cLt_i) cI_ok ha hb hc hm
end
/-! ### enumerate, zip, reversed -/
def enumD : Nat → List D → List D
  | _, [] => []
  | k, x :: xs => .tup [.int (k : Nat), x] :: enumD (k + 1) xs
theorem enumD_get : ∀ {xs : List D} {k i : Nat} {d : D}, (enumD k xs)[i]? = some d → ∃ x, xs[i]? = some x ∧ d = .tup [.int ((k + i : Nat) : Int), x]
  | [], _, _, _, h => by cases h
  | x :: xs, k, 0, d, h => by cases h; exact ⟨x, rfl, rfl⟩
  | x :: xs, k, i + 1, d, h => by
    have h' : (enumD (k + 1) xs)[i]? = some d := by simpa [enumD] using h
    obtain ⟨z, h1, h2⟩ := enumD_get h'
    exact ⟨z, by simpa using h1, by rw [h2, show k + 1 + i = k + (i + 1) by omega]⟩
theorem enumD_len : ∀ {xs : List D} {k : Nat}, (enumD k xs).length = xs.length
  | [], _ => rfl
  | x :: xs, k => by show (enumD (k + 1) xs).length + 1 = _; rw [enumD_len]; rfl
def zipD : List D → List D → List D
  | x :: xs, y :: ys => .tup [x, y] :: zipD xs ys
  | _, _ => []
theorem zipD_get : ∀ {xs ys : List D} {i : Nat} {d : D}, (zipD xs ys)[i]? = some d → ∃ x y, xs[i]? = some x ∧ ys[i]? = some y ∧ d = .tup [x, y]
  | [], _, _, _, h => by simp [zipD] at h
  | _ :: _, [], _, _, h => by simp [zipD] at h
  | x :: xs, y :: ys, 0, d, h => by cases h; exact ⟨x, y, rfl, rfl, rfl⟩
  | x :: xs, y :: ys, i + 1, d, h => by
    have h' : (zipD xs ys)[i]? = some d := by simpa [zipD] using h
    obtain ⟨z, u, h1, h2, h3⟩ := zipD_get h'
    exact ⟨z, u, by simpa using h1, by simpa using h2, h3⟩
theorem zipD_len : ∀ {xs ys : List D}, (zipD xs ys).length = min xs.length ys.length
  | [], _ => by simp [zipD]
  | _ :: _, [] => by simp [zipD]
  | x :: xs, y :: ys => by
    show (zipD xs ys).length + 1 = min (xs.length + 1) (ys.length + 1)
    rw [zipD_len]; omega
theorem rpl2 {C : Ct} {H : Hp} {d1 d2 : D} {v1 v2 : V} (h1 : Rp C H d1 v1) (h2 : Rp C H d2 v2) : RpL C H [d1, d2] [v1, v2] := RpL.cons h1 (RpL.cons h2 RpL.nil)
theorem serv_enum {C : Ct} {Hk : Hp} {a : Addr} {xs : List D} {vs : List V} (h : SqL C.K Hk a vs) (r : RpL C Hk xs vs) : Serv C (Ite C.K a) Hk (enumD 0 xs) := by
  intro i Hk1 H e1 e2
  have h1 : SqL C.K H a vs := ex_l (e1.trans e2) h
  refine ⟨fun d hd => ?_, fun hi => ⟨vs, h1, by rw [enumD_len] at hi; rw [← r.len]; exact hi⟩⟩
  obtain ⟨x, hx, rfl⟩ := enumD_get hd
  obtain ⟨v, hv, rv⟩ := r.get hx
  refine ⟨⟨vs, v, h1, hv⟩, fun z H' hy => ?_⟩
  obtain ⟨T, u, rfl, hT, rfl, hu⟩ := hy
  have := hu vs h1
  rw [hv] at this
  cases this
  rw [Nat.zero_add]
  exact res_tup e2 hT (rpl2 rp_int (rv.mono e1))
theorem serv_zipL {C : Ct} {Hk : Hp} {a b : Addr} {xs ys : List D} {vs ws : List V} (h : SqL C.K Hk a vs) (r : RpL C Hk xs vs) (h' : SqL C.K Hk b ws) (r' : RpL C Hk ys ws) : Serv C (Itz C.K a b) Hk (zipD xs ys) := by
  intro i Hk1 H e1 e2
  have h1 : SqL C.K H a vs := ex_l (e1.trans e2) h
  have h2 : SqL C.K H b ws := ex_l (e1.trans e2) h'
  refine ⟨fun d hd => ?_, fun hi => ⟨vs, ws, h1, h2, by rw [zipD_len, r.len, r'.len] at hi; omega⟩⟩
  obtain ⟨x, y, hx, hy, rfl⟩ := zipD_get hd
  obtain ⟨v, hv, rv⟩ := r.get hx
  obtain ⟨w, hw, rw'⟩ := r'.get hy
  refine ⟨⟨vs, ws, v, w, h1, h2, hv, hw⟩, fun z H' hz => ?_⟩
  obtain ⟨T, p, q, rfl, hT, rfl, hp, hq⟩ := hz
  have e3 := hp vs h1
  have e4 := hq ws h2
  rw [hv] at e3
  rw [hw] at e4
  cases e3
  cases e4
  exact res_tup e2 hT (rpl2 (rv.mono e1) (rw'.mono e1))
theorem serv_zipT {C : Ct} {Hk : Hp} {a b : Addr} {xs ys : List D} {vs ws : List V} (h : Hk a = some (.tup vs)) (r : RpL C Hk xs vs) (h' : Hk b = some (.tup ws)) (r' : RpL C Hk ys ws) : Serv C (RZ.ItzT C.K a b) Hk (zipD xs ys) := by
  intro i Hk1 H e1 e2
  have h1 : SqT C.K H a vs := sqT (e2 _ _ (e1 _ _ h))
  have h2 : SqT C.K H b ws := sqT (e2 _ _ (e1 _ _ h'))
  refine ⟨fun d hd => ?_, fun hi => ⟨vs, ws, h1, h2, by rw [zipD_len, r.len, r'.len] at hi; omega⟩⟩
  obtain ⟨x, y, hx, hy, rfl⟩ := zipD_get hd
  obtain ⟨v, hv, rv⟩ := r.get hx
  obtain ⟨w, hw, rw'⟩ := r'.get hy
  refine ⟨⟨vs, ws, v, w, h1, h2, hv, hw⟩, fun z H' hz => ?_⟩
  obtain ⟨T, p, q, rfl, hT, rfl, hp, hq⟩ := hz
  have e3 := hp vs h1
  have e4 := hq ws h2
  rw [hv] at e3
  rw [hw] at e4
  cases e3
  cases e4
  exact res_tup e2 hT (rpl2 (rv.mono e1) (rw'.mono e1))
theorem serv_rev {C : Ct} {Hk : Hp} {a : Addr} {xs : List D} {vs : List V} (h : SqL C.K Hk a vs) (r : RpL C Hk xs vs) : Serv C (Itv C.K a vs.length) Hk xs.reverse := by
  intro i Hk1 H e1 e2
  have h1 : SqL C.K H a vs := ex_l (e1.trans e2) h
  have hl := r.len
  refine ⟨fun d hd => ?_, fun hi => by rw [List.length_reverse, hl] at hi; exact hi⟩
  have hi : i < xs.length := by
    have := (List.getElem?_eq_some_iff.mp hd).1
    simpa using this
  rw [List.getElem?_reverse hi, hl] at hd
  obtain ⟨v, hv, rv⟩ := r.get hd
  refine ⟨⟨by omega, vs, v, h1, hv⟩, fun z H' hz => ?_⟩
  obtain ⟨rfl, hx⟩ := hz
  have e3 := hx vs h1
  rw [hv] at e3
  cases e3
  exact res_flat (rv.mono e1) e2
theorem serv_revT {C : Ct} {Hk : Hp} {a : Addr} {xs : List D} {vs : List V} (h : Hk a = some (.tup vs)) (r : RpL C Hk xs vs) : Serv C (RT.ItvT C.K a vs.length) Hk xs.reverse := by
  intro i Hk1 H e1 e2
  have h1 : SqT C.K H a vs := sqT (e2 _ _ (e1 _ _ h))
  have hl := r.len
  refine ⟨fun d hd => ?_, fun hi => by rw [List.length_reverse, hl] at hi; exact hi⟩
  have hi : i < xs.length := by
    have := (List.getElem?_eq_some_iff.mp hd).1
    simpa using this
  rw [List.getElem?_reverse hi, hl] at hd
  obtain ⟨v, hv, rv⟩ := r.get hd
  refine ⟨⟨by omega, vs, v, h1, hv⟩, fun z H' hz => ?_⟩
  obtain ⟨rfl, hx⟩ := hz
  have e3 := hx vs h1
  rw [hv] at e3
  cases e3
  exact res_flat (rv.mono e1) e2
section
variable {X : Cx} {y : Y} {a b e : Expr} {es : List Expr} {m : M Tk} {ma : M (List Tk)} {p pos tpos : Pos} {elts : List Expr} {kk : Nat} {tg : Expr}
/-- the arguments' values, all known from now on -/
theorem ai_force {f : List D → Option (List D)} {env : Env} {G : Hp} {σ : L2.St} {Hk : Hp} {R : It → Hp → Prop} {T : List V → Hp → Prop}
    (q : PoI (y.ct X) y.xa y.W G σ Hk (mBind ma (fun ts env => match forceAll ts env with
      | .ok ds e => match f ds with
        | some xs => .ok xs e
        | none => .bad
      | _ => .bad) env) R)
    (k : ∀ ds vs xs Hk' H1, f ds = some xs → Ex Hk' H1 → RpL (y.ct X) Hk' ds vs → (∀ J, Serv (y.ct X) J Hk' xs → R J H1) → T vs H1) : PoA (y.ct X) y.xa y.W G σ Hk (ma env) T := by
  refine ai_bind q fun ts e vs Hk1 H1 k1 r1 rs q1 => ?_
  cases z : forceAll ts e with
  | bad => rw [z] at q1; exact q1.elim
  | ex c ns ds e2 => rw [z] at q1; exact q1.elim
  | ok ds e2 =>
    rw [z] at q1
    dsimp only at q1
    obtain ⟨Hk2, k2, r2, rl⟩ := RVs.force r1 rs z
    cases z2 : f ds with
    | none => rw [z2] at q1; exact q1.elim
    | some xs =>
      rw [z2] at q1
      exact k ds vs xs Hk2 H1 z2 r2.hk rl fun J s => q1 J Hk2 H1 k2 r2 s
def mWalk (f : List D → Option (List D)) (ma : M (List Tk)) : M (List D) := mBind ma fun ts env => match forceAll ts env with
  | .ok ds e => match f ds with
    | some xs => .ok xs e
    | none => .bad
  | _ => .bad
def wEnum : List D → Option (List D)
  | [.lst xs] => some (enumD 0 xs)
  | [.scr ns] => some (enumD 0 (ns.map .int))
  | _ => none
theorem pix_enum (hm : X.mg "enumerate" = none) (ha : PAs X y [e] ma) (hg : Gl X "enumerate" := by rfl) (hs : starEach [e] X.env = [(false, eval e X.env)] := by rfl) :
    PIx X y (.Tuple elts kk tpos) (.Call (.Name "enumerate" p) [e] [] pos) (mWalk wEnum ma) := by
  refine ⟨PI_imp (pi_enum hg hm ha.pa hs) fun σ H R ⟨env, Hk, G, re, q⟩ => ⟨env, Hk, G, re, ai_force q fun ds vs xs Hk' H1 hf ex rl qq => ?_⟩⟩
  unfold wEnum at hf
  split at hf
  · cases hf
    obtain ⟨v, r, rfl, rd, rn⟩ := rl.inv
    have hr : r = [] := List.eq_nil_of_length_eq_zero rn.len.symm
    subst hr
    unfold Rp at rd
    obtain ⟨a, vs', rfl, h1, h2⟩ := rd
    exact ⟨a, vs', rfl, sqL (ex _ _ h1), qq _ (serv_enum (C := y.ct X) (sqL h1) h2)⟩
  · cases hf
    obtain ⟨v, r, rfl, rd, rn⟩ := rl.inv
    have hr : r = [] := List.eq_nil_of_length_eq_zero rn.len.symm
    subst hr
    unfold Rp at rd
    obtain ⟨a, rfl, h1⟩ := rd
    exact ⟨a, _, rfl, ex_l ex h1, qq _ (serv_enum (C := y.ct X) h1 ints_rpl)⟩
  · cases hf
def wZip : List D → Option (List D)
  | [.lst xs, .lst ys] => some (zipD xs ys)
  | [.tup xs, .tup ys] => some (zipD xs ys)
  | _ => none
theorem pix_zip (hm : X.mg "zip" = none) (ha : PAs X y [a, b] ma) (hg : Gl X "zip" := by rfl) (hs : starEach [a, b] X.env = (false, eval a X.env) :: starEach [b] X.env := by rfl) (hpl : (backTo pos (starEach [b] X.env)).any (·.1) = false := by rfl) :
    PIx X y (.Tuple elts kk tpos) (.Call (.Name "zip" p) [a, b] [] pos) (mWalk wZip ma) := by
  refine ⟨PI_imp (RZ.pi_zipA hg hm ha.pa hs hpl) fun σ H R ⟨env, Hk, G, re, q⟩ => ⟨env, Hk, G, re, ai_force q fun ds vs xs Hk' H1 hf ex rl qq => ?_⟩⟩
  unfold wZip at hf
  split at hf
  · cases hf
    obtain ⟨v, r, rfl, rd, rn⟩ := rl.inv
    obtain ⟨v2, r2, rfl, rd2, rn2⟩ := rn.inv
    have hr : r2 = [] := List.eq_nil_of_length_eq_zero rn2.len.symm
    subst hr
    unfold Rp at rd rd2
    obtain ⟨a, vs', rfl, h1, h2⟩ := rd
    obtain ⟨b, ws', rfl, h3, h4⟩ := rd2
    exact ⟨a, b, vs', ws', rfl, .inl ⟨sqL (ex _ _ h1), sqL (ex _ _ h3), qq _ (serv_zipL (C := y.ct X) (sqL h1) h2 (sqL h3) h4)⟩⟩
  · cases hf
    obtain ⟨v, r, rfl, rd, rn⟩ := rl.inv
    obtain ⟨v2, r2, rfl, rd2, rn2⟩ := rn.inv
    have hr : r2 = [] := List.eq_nil_of_length_eq_zero rn2.len.symm
    subst hr
    unfold Rp at rd rd2
    obtain ⟨a, vs', rfl, h1, h2⟩ := rd
    obtain ⟨b, ws', rfl, h3, h4⟩ := rd2
    exact ⟨a, b, vs', ws', rfl, .inr ⟨sqT (ex _ _ h1), sqT (ex _ _ h3), qq _ (serv_zipT (C := y.ct X) h1 h2 h3 h4)⟩⟩
  · cases hf
def mRev (m : M Tk) : M (List D) := mBind m fun t env => match force t env with
  | .ok (.lst xs) e => .ok xs.reverse e
  | .ok (.tup xs) e => .ok xs.reverse e
  | .ok (.scr ns) e => .ok (ns.map .int).reverse e
  | _ => .bad
theorem pix_rev (hm : X.mg "reversed" = none) (h : PX X y e m) (hg : Gl X "reversed" := by rfl) (hs : starEach [e] X.env = (false, eval e X.env) :: starEach [] X.env := by rfl) :
    PIx X y tg (.Call (.Name "reversed" p) [e] [] pos) (mRev m) := by
  refine ⟨PI_imp (RT.pi_revA hg hm h.pe hs) fun σ H R ⟨env, Hk, G, re, q⟩ => ⟨env, Hk, G, re, ?_⟩⟩
  unfold mRev mBind at q
  cases z : m env with
  | ex c ns ds e1 => rw [z] at q; exact q
  | bad => rw [z] at q; exact q
  | ok t e1 =>
    rw [z] at q
    dsimp only at q
    intro v Hk1 H1 k1 r1 rt1
    rcases force_cases t e1 with ⟨d, e2, z2⟩ | z2
    · rw [z2] at q
      obtain ⟨Hk2, k2, r2, rd⟩ := rt1.force r1 z2
      cases d with
      | lst xs =>
        unfold Rp at rd
        obtain ⟨a, vs, rfl, h1, h2⟩ := rd
        exact ⟨a, vs, rfl, .inl ⟨sqL (r2.hk _ _ h1), q _ Hk2 H1 (k1.trans k2) r2 (serv_rev (C := y.ct X) (sqL h1) h2)⟩⟩
      | tup xs =>
        unfold Rp at rd
        obtain ⟨a, vs, rfl, h1, h2⟩ := rd
        exact ⟨a, vs, rfl, .inr ⟨sqT (r2.hk _ _ h1), q _ Hk2 H1 (k1.trans k2) r2 (serv_revT (C := y.ct X) h1 h2)⟩⟩
      | scr ns =>
        unfold Rp at rd
        obtain ⟨a, rfl, h1⟩ := rd
        exact ⟨a, _, rfl, .inl ⟨ex_l r2.hk h1, q _ Hk2 H1 (k1.trans k2) r2 (serv_rev (C := y.ct X) h1 ints_rpl)⟩⟩
      | _ => exact q.elim
    · rw [z2] at q; exact q.elim
/-- range(a, b, -1) -/
def rngDn (lo : Int) (n : Nat) : List D := (List.range n).map fun i => .int (lo + (i : Nat) * (-1))
theorem serv_dn {C : Ct} {Hk : Hp} {lo : Int} {n : Nat} : Serv C (Itc lo (-1) n) Hk (rngDn lo n) := by
  intro i Hk1 H e1 e2
  refine ⟨fun d hd => ?_, fun hi => show n ≤ i by unfold rngDn at hi; simpa using hi⟩
  unfold rngDn at hd
  rw [List.getElem?_map] at hd
  cases z : (List.range n)[i]? with
  | none => rw [z] at hd; cases hd
  | some j =>
    rw [z] at hd
    cases hd
    obtain ⟨hl, hj⟩ := List.getElem?_eq_some_iff.mp z
    rw [List.getElem_range] at hj
    subst hj
    refine ⟨show i < n by simpa using hl, fun x H' hx => ?_⟩
    obtain ⟨rfl, rfl⟩ := hx
    exact res_flat rp_int e2
def wDn : List D → Option (List D)
  | [.int i, .int j, .int c] => if c = -1 ∧ okR i = true ∧ okR j = true then some (rngDn i (i - j).toNat) else none
  | _ => none
theorem pix_rng3 {c : Expr} (hm : X.mg "range" = none) (ha : PAs X y [a, b, c] ma) (hg : Gl X "range" := by rfl) (hs : starEach [a, b, c] X.env = (false, eval a X.env) :: starEach [b, c] X.env := by rfl) (hpl : (backTo pos (starEach [b, c] X.env)).any (·.1) = false := by rfl) :
    PIx X y tg (.Call (.Name "range" p) [a, b, c] [] pos) (mWalk wDn ma) := by
  refine ⟨PI_imp (pi_range3 hg hm ha.pa hs hpl) fun σ H R ⟨env, Hk, G, re, q⟩ => ⟨env, Hk, G, re, ai_force q fun ds vs xs Hk' H1 hf ex rl qq => ?_⟩⟩
  unfold wDn at hf
  split at hf
  · split at hf
    · rename_i ok
      cases hf
      obtain ⟨v, r, rfl, rd, rn⟩ := rl.inv
      obtain ⟨v2, r2, rfl, rd2, rn2⟩ := rn.inv
      obtain ⟨v3, r3, rfl, rd3, rn3⟩ := rn2.inv
      have hr : r3 = [] := List.eq_nil_of_length_eq_zero rn3.len.symm
      subst hr
      unfold Rp at rd rd2 rd3
      subst rd
      subst rd2
      subst rd3
      have o := okR_at ok.2.1
      have o2 := okR_at ok.2.2
      have oc := ok.1
      subst oc
      exact ⟨_, _, _, _, rfl, RgC.neg o.1 o.2 o2.1 o2.2, qq _ serv_dn⟩
    · cases hf
  · cases hf
end
end VM

set_option Elab.async false
set_option linter.all false
set_option maxRecDepth 100000
set_option maxHeartbeats 1000000
/-! VM I: defs with defaults -/
namespace VM
open PySem PySem.Spec PyProof.Rows L2
def mPad (dds : List D) (ma : M (List Tk)) : M (List Tk) := mBind ma fun ts env => .ok (ts ++ dds.map .val) env
/-- a def of the text, called so that the last parameters have the values dds -/
structure CFD (P : Program) (w : World) (K : PySem.W.Frag) (mg : Str → Option Value) (base : Heap) (cm : Nat → Addr) (x : Str) (k : Nat) (ps : List Str) (F : List D → Rf) (dds : List D) : Prop where
  ex : ∃ f fd ds dvs, FnOk P w K mg base (L2.CX P w) k f fd ps (spF ⟨K, cm⟩ ps.length F) ∧ mg x = some (.ref f) ∧ PySem.W.keepIn K (.ref f) = true ∧ Binds K fd ps ds ∧ Vals dvs ds ∧ ∀ H, RpL ⟨K, cm⟩ H dds dvs
theorem rvs_vals {C : Ct} {σ : L2.St} {Hk : Hp} : ∀ {dds : List D} {dvs : List V}, RpL C Hk dds dvs → RVs C σ Hk (dds.map .val) dvs
  | [], dvs, h => by
    obtain rfl : dvs = [] := List.eq_nil_of_length_eq_zero h.len.symm
    exact .nil
  | d :: ds, dvs, h => by
    obtain ⟨v, r, rfl, h1, h2⟩ := h.inv
    exact .cons h1 (rvs_vals h2)
theorem RVs.pad {C : Ct} {σ : L2.St} {Hk : Hp} {dds : List D} {dvs : List V} (h : RpL C Hk dds dvs) : ∀ {ts : List Tk} {vs : List V}, RVs C σ Hk ts vs → RVs C σ Hk (ts ++ dds.map .val) (vs ++ dvs)
  | _, _, .nil => rvs_vals h
  | _, _, .cons h1 h2 => .cons h1 (RVs.pad h h2)
section
variable {X : Cx} {y : Y} {e : Expr} {es : List Expr} {ma : M (List Tk)} {pos p : Pos} {F : List D → Rf} {k kk n : Nat} {ps : List Str} {x : Str} {dds : List D}
theorem mPad_bind {α : Type} {g : List Tk → M α} : mBind (mPad dds ma) g = mBind ma fun ts => g (ts ++ dds.map .val) := by
  funext env
  unfold mPad mBind
  cases ma env <;> rfl
theorem px_callD (h : CFD X.prog X.w X.K X.mg X.base y.cm x k ps F dds) (hr : Room kk X.A) (tk : Takes X y.W) (ha : PAs X y (e :: es) ma) (hn : Many ma n := by repeat first | exact many_nil | refine many_cons ?_) (hps : n + dds.length = ps.length := by rfl) (hk : k ≤ kk := by decide) (hg : Gl X x := by rfl) (hdb : (x == ("__debug__" : Str)) = false := by decide)
    (he : starEach (e :: es) X.env = (false, eval e X.env) :: starEach es X.env := by rfl) (hpl : (backTo pos (starEach es X.env)).any (·.1) = false := by rfl) : PX X y (.Call (.Name x p) (e :: es) [] pos) (mCallF F (mPad dds ma)) := by
  obtain ⟨f, fd, ds, dvs, h1, h2, h3, h4, h5, h6⟩ := h.ex
  refine ⟨PE_imp (pe_callSD h1 (hr.mono hk) hg h2 h3 h4 h5 (fun σ => passAt tk σ) ha.pa hdb he hpl) fun σ H Q ⟨env, Hk, G, re, q⟩ => ⟨env, Hk, G, re, ?_⟩⟩
  unfold mCallF at q
  rw [mPad_bind] at q
  exact pa_bindN hn q fun ts e vs Hk' H1 k1 r1 rs hl q1 => callF_go r1 (RVs.pad (h6 Hk') rs) (by rw [List.length_append, ← rs.len, hl, ← (h6 Hk').len]; exact hps) q1
end
section
variable {P : Program} {w : World} {K : PySem.W.Frag} {mg : Str → Option Value} {base : Heap} {cm : Nat → Addr}
theorem fn_okD {x qual : Str} {st : Stmt} {dvs : List V} {kws : List (Str × V)} {f : Addr} {fd : FuncData} {N ps : List Str} {k : Nat} {body : M Fl} (F : FunD K x qual (defArgs st) (defBody st) (defScope st) dvs kws f fd) (S : FnScope N ps (defScope st)) (hl : ps.length ≤ N.length)
    (hb : ∀ (cdv : Value) (A : Around) (outer : List PySem.Env) (s : Shared) (H : Hp) (E : XK), Room k (A.deeper (envOfC qual (defScope st) s.heap.objs.size f cdv)) →
      PSSx (cxOf (L2.CX P w) P w K mg base N qual (defScope st) f cdv A outer s H E) (yF cm E) (defBody st) body) :
    FnOk P w K mg base (L2.CX P w) (k + 1) f fd ps (spF ⟨K, cm⟩ ps.length (mkF N.length body)) := by
  refine F.ok S (fun vs H Q E h => h.1) fun cdv A outer s H vs Q E hr h => ⟨_, (hb cdv A outer s H E hr).pss, ?_⟩
  obtain ⟨hn, ds, Hk, e, rl, q⟩ := h
  refine ⟨entry N.length ds, Hk, H, entry_re e rl (by omega), ?_⟩
  unfold mkF at q
  cases z : body (entry N.length ds) with
  | bad => rw [z] at q; exact q.elim
  | ex c ns xs e1 =>
    rw [z] at q
    exact fun cls dd σ' Hk' H' k' r' rx => q cls dd Hk' H' k' r'.hk r'.g rx
  | ok fl e1 =>
    rw [z] at q
    cases fl with
    | nx => exact fun σ' Hk' H' k' r' => q .non Hk' H' k' r'.hk r'.g (rp_non (C := ⟨K, cm⟩) (H := Hk'))
    | bk => exact q.elim
    | ct => exact q.elim
    | rt t =>
      intro v σ' Hk' H' k' r' rt
      unfold fin at q
      dsimp only at q
      cases z2 : outTk t e1 with
      | none => rw [z2] at q; exact q.elim
      | some o =>
        obtain ⟨nw, d⟩ := o
        rw [z2] at q
        exact q v Hk' H' k' r'.hk r'.g (outTk_bk r' rt z2)
end
theorem funD_mk {K : PySem.W.Frag} {x qual : Str} {st : Stmt} {f T : Addr} {oc tc : Value} {od td an : Option Addr} {osl tsl : Array (Option Value)} {kV doc pm cdv ct : Value} {dvs : List V} {its : List Value} {n : Nat}
    (l : K.lookup f = some ⟨oc, od, .func (PySem.W.fnOf x qual (defArgs st) (defBody st) (defScope st) (.ref T) kV doc pm an cdv ct), osl⟩) (c : PySem.W.codeIn K cdv qual = true) (k : PySem.W.keepIn K (.ref f) = true)
    (t : K.lookup T = some ⟨tc, td, .seq its.toArray n, tsl⟩) (ne : dvs ≠ []) (r : Vals dvs its) : FunD K x qual (defArgs st) (defBody st) (defScope st) dvs [] f (PySem.W.fnOf x qual (defArgs st) (defBody st) (defScope st) (.ref T) kV doc pm an cdv ct) :=
  ⟨⟨oc, od, _, kV, doc, pm, an, cdv, ct, osl, rfl, l, c, .inr ⟨ne, T, _, its, n, rfl, t, rfl, r⟩, .inl rfl⟩, k⟩
/-- the rest of the call's promise: Binds with the values behind the first j defaults -/
theorem cfd_mk {P : Program} {w : World} {K : PySem.W.Frag} {mg : Str → Option Value} {base : Heap} {cm : Nat → Addr} {x : Str} {k : Nat} {ps : List Str} {F : List D → Rf} {dds : List D} {f : Addr} {fd : FuncData} {dvs : List V} (h : FnOk P w K mg base (L2.CX P w) k f fd ps (spF ⟨K, cm⟩ ps.length F)) (hm : mg x = some (.ref f))
    (hk : PySem.W.keepIn K (.ref f) = true) (hb : ∃ ds, Vals dvs ds ∧ Binds K fd ps ds) (hd : ∀ H, RpL ⟨K, cm⟩ H dds dvs) : CFD P w K mg base cm x k ps F dds :=
  let ⟨ds, h1, h2⟩ := hb
  ⟨f, fd, ds, dvs, h, hm, hk, h2, h1, hd⟩
end VM

set_option Elab.async false
set_option linter.all false
set_option maxRecDepth 100000
set_option maxHeartbeats 1000000
/-! VM J: what the top must hold of exception classes, as checks -/
namespace VM
open PySem PySem.Spec PyProof.Rows L2
theorem ba {a b : Bool} (h : (a && b) = true) : a = true ∧ b = true := Bool.and_eq_true_iff.mp h
/-- a class over ValueError with a dict, as it lies in K -/
def oexB (K : PySem.W.Frag) (C : Addr) : Bool := match K.lookup C with
  | some ⟨.type "type", _, .cls cd, sl⟩ => (match cd.mro, sl.toList with
    | .ref C' :: bm, [_, _, _, _, some (.builtin n), _] => decide (C' = C) && (decide (n = "ValueError.__new__") && (!cd.hasDel && (cd.hasDict && PySem.HandSPX.refsVE bm)))
    | _, _ => false)
  | _ => false
theorem oexB_ok {K : PySem.W.Frag} {C : Addr} (q : oexB K C = true) : ∃ nm q N bs bm sn sub ab col dd k0 k1 k2 k3 k5, K.lookup C = some (excClassObj nm q C N bs bm true sn sub ab col dd k0 k1 k2 k3 k5 "ValueError.__new__") ∧ PySem.HandSPX.refsVE bm = true := by
  unfold oexB at q
  split at q
  · rename_i dd cd sl ho
    split at q
    · rename_i C' bm k0 k1 k2 k3 n k5 hm hs
      obtain ⟨q1, q⟩ := ba q
      obtain ⟨q2, q⟩ := ba q
      obtain ⟨q3, q⟩ := ba q
      obtain ⟨q4, q5⟩ := ba q
      have e1 := of_decide_eq_true q1
      have e2 := of_decide_eq_true q2
      subst e1
      subst e2
      obtain ⟨nm, bs, mro, ns, qn, hd, sn, sub, ab, col, del⟩ := cd
      dsimp only at hm q3 q4
      subst hm
      have hdel : del = false := by simpa using q3
      subst hdel
      subst q4
      have hsl : sl = #[k0, k1, k2, k3, some (.builtin "ValueError.__new__"), k5] := by
        obtain ⟨l⟩ := sl
        simp only at hs
        rw [hs]
      subst hsl
      exact ⟨nm, qn, ns, bs, bm, sn, sub, ab, col, dd, k0, k1, k2, k3, k5, ho, q5⟩
    · cases q
  · cases q
/-- all that a class of exceptions needs: its own fields are nowhere in the class -/
def ecB (K : PySem.W.Frag) (C fI : Addr) (fs : List Str) : Bool := oexB K C && (decide (PySem.W.findIn K (.ref C) "__setattr__" = some (some (.builtin "object.__setattr__"))) && (decide (PySem.W.subIn K (.ref C) (.type "BaseException") = some true) && (decide (PySem.W.typeIn K (.ref C) = some (.type "type")) && (PySem.W.keepIn K (.ref C) &&
  (decide (PySem.W.findIn K (.ref C) "__init__" = some (some (.ref fI))) && (decide (PySem.W.typeIn K (.ref fI) = some (.type "function")) && (xfB K C && fs.all fun f => decide (PySem.W.findIn K (.ref C) f = some none))))))))
structure EcF (K : PySem.W.Frag) (C fI : Addr) (fs : List Str) : Prop where
  o : OexC K C
  i : PySem.W.findIn K (.ref C) "__init__" = some (some (.ref fI))
  t : PySem.W.typeIn K (.ref fI) = some (.type "function")
  x : XfC K C
  n : ∀ f ∈ fs, PySem.W.findIn K (.ref C) f = some none
theorem ecB_ok {K : PySem.W.Frag} {C fI : Addr} {fs : List Str} (h : ecB K C fI fs = true) : EcF K C fI fs := by
  obtain ⟨h1, h⟩ := ba h
  obtain ⟨h2, h⟩ := ba h
  obtain ⟨h3, h⟩ := ba h
  obtain ⟨h4, h⟩ := ba h
  obtain ⟨h5, h⟩ := ba h
  obtain ⟨h6, h⟩ := ba h
  obtain ⟨h7, h⟩ := ba h
  obtain ⟨h8, h9⟩ := ba h
  exact ⟨⟨oexB_ok h1, of_decide_eq_true h2, of_decide_eq_true h3, of_decide_eq_true h4, h5⟩, of_decide_eq_true h6, of_decide_eq_true h7, xfB_ok h8, fun f hf => of_decide_eq_true (List.all_eq_true.mp h9 f hf)⟩
def rbB (K : PySem.W.Frag) (R : Addr) : Bool := decide (PySem.W.specialIn K (.ref R) "__getattribute__" = some (some (.builtin "type.__getattribute__"))) && PySem.W.readsIn K R (.type "type")
theorem rbB_ok {K : PySem.W.Frag} {R : Addr} (h : rbB K R = true) (h2 : PySem.W.findCls K (.ref R) (.type "type") "__init__" = some (.val (.builtin "ValueError.__init__"))) : RB K R := by
  obtain ⟨h1, h3⟩ := ba h
  exact ⟨of_decide_eq_true h1, h3, h2⟩
/-- which clause takes which class, as a table -/
def eqK : D → D → Bool
  | .cl a, .cl b => a == b
  | .ty a, .ty b => a == b
  | _, _ => false
theorem eqK_ok : ∀ {a b : D}, eqK a b = true → a = b
  | .cl a, .cl b, h => by rw [show a = b from eq_of_beq h]
  | .ty a, .ty b, h => by rw [show a = b from eq_of_beq h]
  | .cl _, .non, h | .cl _, .bl _, h | .cl _, .int _, h | .cl _, .str _, h | .cl _, .scr _, h | .cl _, .ty _, h | .cl _, .lst _, h | .cl _, .tup _, h | .cl _, .ins _ _ _, h => by cases h
  | .ty _, .non, h | .ty _, .bl _, h | .ty _, .int _, h | .ty _, .str _, h | .ty _, .scr _, h | .ty _, .cl _, h | .ty _, .lst _, h | .ty _, .tup _, h | .ty _, .ins _ _ _, h => by cases h
  | .non, _, h | .bl _, _, h | .int _, _, h | .str _, _, h | .scr _, _, h | .lst _, _, h | .tup _, _, h | .ins _ _ _, _, h => by cases h
def subOf (tab : List (Nat × D × Bool)) (c : Nat) (k : D) : Option Bool := (tab.find? fun q => q.1 == c && eqK q.2.1 k).map (·.2.2)
theorem subOf_ok {K : PySem.W.Frag} {cm : Nat → Addr} {tab : List (Nat × D × Bool)} (h : ∀ q ∈ tab, ∀ cv, valT cm q.2.1 = some cv → PySem.W.exmOne K (.ref (cm q.1)) cv = some q.2.2) : SubX K cm (subOf tab) := ⟨fun c k b cv h1 h2 => by
  unfold subOf at h1
  cases z : tab.find? fun q => q.1 == c && eqK q.2.1 k with
  | none => rw [z] at h1; cases h1
  | some q =>
    rw [z] at h1
    cases h1
    have hp := List.find?_some z
    obtain ⟨e1, e2⟩ := ba hp
    have e1 : q.1 = c := eq_of_beq e1
    have e2 := eqK_ok e2
    subst e1
    subst e2
    exact h q (List.mem_of_find?_eq_some z) cv h2⟩
/-- a statement of a class's body -/
def memS (s : Stmt) (j : Nat) : Stmt := match s with
  | .ClassDef _ _ _ b _ _ _ _ _ _ _ => b.getD j (.Pass ⟨0, 0, 0, 0⟩)
  | _ => .Pass ⟨0, 0, 0, 0⟩
theorem fnOk_imp {P : Program} {w : World} {K : PySem.W.Frag} {mg : Str → Option Value} {base : Heap} {CX : CXT} {k : Nat} {f : Addr} {fd : FuncData} {ps : List Str} {sp sp' : Sp} (h : FnOk P w K mg base CX k f fd ps sp) (g : ∀ vs H Q E, sp' vs H Q E → sp vs H Q E) : FnOk P w K mg base CX k f fd ps sp' :=
  ⟨fun vs H Q E q => h.len vs H Q E (g vs H Q E q), fun A outer s H args us vs Q E hr e0 hb r q => h.run A outer s H args us vs Q E hr e0 hb r (g vs H Q E q)⟩
/-- the law's promise, wherever the classes stand -/
def spL (K : PySem.W.Frag) (F : List D → Rf) : Sp := fun vs H Q E => ∀ cm, spF ⟨K, cm⟩ 1 F vs H Q E
theorem law_spL {K : PySem.W.Frag} {F : List D → Rf} {H : Hp} {a : Addr} {ns : List Int} (hS : SqL K H a (ns.map V.int)) (h : ∃ p, F [.scr ns] = .ok false (.bl true) p) : spL K F [.ref a] H (fun v _ => v = .bl true) (fun _ _ _ => False) := fun cm => law_sp (cm := cm) hS h
section
variable {X : Cx} {y : Y} {a b : Expr} {ma : M (List Tk)} {pos p : Pos}
theorem px_max2 (hc : X.calm = true) (hm : X.mg "max" = none) (ha : PAs X y [a, b] ma) (hg : Gl X "max" := by rfl) (he : starEach [a, b] X.env = (false, eval a X.env) :: starEach [b] X.env := by rfl) (hpl : (backTo pos (starEach [b] X.env)).any (·.1) = false := by rfl) : PX X y (.Call (.Name "max" p) [a, b] [] pos) (mCall (fn2 dMax) ma) := px_blt (call_max2 hc) max_ok hg hm (by decide +kernel) ha (he := he) (hpl := hpl)
theorem px_min2 (hc : X.calm = true) (hm : X.mg "min" = none) (ha : PAs X y [a, b] ma) (hg : Gl X "min" := by rfl) (he : starEach [a, b] X.env = (false, eval a X.env) :: starEach [b] X.env := by rfl) (hpl : (backTo pos (starEach [b] X.env)).any (·.1) = false := by rfl) : PX X y (.Call (.Name "min" p) [a, b] [] pos) (mCall (fn2 dMin) ma) := px_blt (call_min2 hc) min_ok hg hm (by decide +kernel) ha (he := he) (hpl := hpl)
/-- a global that is a whole number -/
theorem px_glob {i : Int} {x : Str} (hm : ∃ t, X.mg x = some (.int i t)) (hg : Gl X x) (hd : (x == ("__debug__" : Str)) = false := by decide) : PX X y (.Name x pos) (mC (.int i)) := by
  obtain ⟨t, hm⟩ := hm
  refine px_c (v := .int i) ⟨fun pins s σ H Q I h => ld_glob I hg hm ⟨.int i, H, I, ⟨_, rfl⟩, h⟩ hd⟩ fun _ => rp_int
end
theorem cf_mk {P : Program} {w : World} {K : PySem.W.Frag} {mg : Str → Option Value} {base : Heap} {cm : Nat → Addr} {x : Str} {k : Nat} {ps : List Str} {F : List D → Rf} {f : Addr} {fd : FuncData} (h : FnOk P w K mg base (L2.CX P w) k f fd ps (spF ⟨K, cm⟩ ps.length F)) (hm : mg x = some (.ref f))
    (hk : PySem.W.keepIn K (.ref f) = true) (hb : ∃ ds, Vals [] ds ∧ Binds K fd ps ds) : CF P w K mg base cm x k ps F := by
  obtain ⟨ds, h1, h2⟩ := hb
  cases h1
  exact ⟨f, fd, h, hm, hk, h2⟩
end VM

set_option Elab.async false
set_option linter.all false
set_option maxRecDepth 100000
set_option maxHeartbeats 1000000
/-! VM K: equality of plain data with itself; steps of statements; more step lemmas -/
namespace VM
open PySem PySem.Spec PyProof.Rows L2
theorem cEq_self {d : D} (h : d.pl 64 = true) : cEq d d = some true := by
  unfold cEq
  rw [if_pos ⟨h, h⟩]
  unfold D.eq
  rw [PySem.SeqAt.eqv_refl _ (depth_le 64 d h).1]
theorem cNe_self {d : D} (h : d.pl 64 = true) : cNe d d = some false := by
  unfold cNe
  rw [if_pos ⟨h, h⟩]
  unfold D.eq
  rw [PySem.SeqAt.eqv_refl _ (depth_le 64 d h).1]
  rfl
theorem pl_str {n : Nat} {s : Str} : D.pl n (.str s) = PyData.strOk s := by cases n <;> rfl
theorem pl_lst {n : Nat} {xs : List D} : D.pl (n + 1) (.lst xs) = xs.all (D.pl n) := rfl
theorem pl_tup {n : Nat} {xs : List D} : D.pl (n + 1) (.tup xs) = xs.all (D.pl n) := rfl
theorem pl_ints {n : Nat} {ns : List Int} : (ns.map D.int).all (D.pl n) = true := by
  rw [List.all_map, List.all_eq_true]
  intro x _
  exact pl_int
theorem seq_ok {m k : M Fl} {env e : Env} (h : m env = .ok .nx e) : mSeq m k env = k e := by rw [a_seq, h]
theorem seq_rt {m k : M Fl} {env e : Env} {t : Tk} (h : m env = .ok (.rt t) e) : mSeq m k env = .ok (.rt t) e := by rw [a_seq, h]
theorem seq_ex {m k : M Fl} {env e : Env} {c : Nat} {ns : List Str} {ds : List D} (h : m env = .ex c ns ds e) : mSeq m k env = .ex c ns ds e := by rw [a_seq, h]
section
variable {env e : Env} {ma : M (List Tk)}
theorem a_try_ok {sub : Nat → D → Option Bool} {body : M Fl} {hs : List (D × Option Nat × M Fl)} : mTry sub body hs env = match body env with
  | .ex c ns ds e => mHandle sub c ns ds hs e
  | r => r := (rfl)
theorem a_raise0 {c : Nat} : mRaise0 c env = .ex c [] [] env := (rfl)
theorem a_raise {c : Nat} {fs : List Str} : mRaise c fs ma env = bindR (ma env) fun ts env => match forceAll ts env with
  | .ok ds e => .ex c fs.reverse ds.reverse e
  | _ => .bad := (rfl)
theorem a_h0 {sub : Nat → D → Option Bool} {c : Nat} {ns : List Str} {ds : List D} : mHandle sub c ns ds [] e = .ex c ns ds e := (rfl)
theorem a_h1 {sub : Nat → D → Option Bool} {c : Nat} {ns : List Str} {ds : List D} {k : D} {oi : Option Nat} {m : M Fl} {r : List (D × Option Nat × M Fl)} : mHandle sub c ns ds ((k, oi, m) :: r) e = match sub c k with
    | some true => suiteEnd oi (m (enter oi c ns ds e))
    | some false => mHandle sub c ns ds r e
    | none => .bad := (rfl)
theorem a_en0 {c : Nat} {ns : List Str} {ds : List D} : enter none c ns ds env = env := (rfl)
theorem a_en1 {c : Nat} {ns : List Str} {ds : List D} {i : Nat} : enter (some i) c ns ds env = env.set i (.xv c ns ds) := (rfl)
theorem a_se_nx {oi : Option Nat} : suiteEnd oi (.ok .nx e) = .ok .nx (leave oi e) := (rfl)
theorem a_se_rt {oi : Option Nat} {t : Tk} : suiteEnd oi (.ok (.rt t) e) = .ok (.rt t) (unX e) := (rfl)
theorem a_lv0 : leave none e = unX e := (rfl)
theorem a_lv1 {i : Nat} : leave (some i) e = (unX e).set i .no := (rfl)
theorem a_un0 : unX [] = [] := (rfl)
theorem a_un1 {s : S} : unX (s :: e) = clearX s :: unX e := (rfl)
theorem a_cx0 : clearX .no = .no := (rfl)
theorem a_cx1 {d : D} : clearX (.sh d) = .sh d := (rfl)
theorem a_cx2 {d : D} : clearX (.ow d) = .ow d := (rfl)
theorem a_cx3 {c : Nat} {ns : List Str} {ds : List D} : clearX (.xv c ns ds) = .no := (rfl)
theorem a_xf {cs : List Nat} {k : Nat} {n : Str} : mXf cs k n env = match env[k]? with
  | some (.xv c ns ds) => if c ∈ cs then match (ns.zip ds).lookup n with
    | some d => .ok (.val d) env
    | none => .bad
  else .bad
  | _ => .bad := (rfl)
theorem a_pad {dds : List D} : mPad dds ma env = bindR (ma env) fun ts env => .ok (ts ++ dds.map .val) env := (rfl)
theorem a_walk {f : List D → Option (List D)} : mWalk f ma env = bindR (ma env) fun ts env => match forceAll ts env with
  | .ok ds e => match f ds with
    | some xs => .ok xs e
    | none => .bad
  | _ => .bad := (rfl)
theorem a_rev {m : M Tk} : mRev m env = bindR (m env) fun t env => match force t env with
  | .ok (.lst xs) e => .ok xs.reverse e
  | .ok (.tup xs) e => .ok xs.reverse e
  | .ok (.scr ns) e => .ok (ns.map .int).reverse e
  | _ => .bad := (rfl)
theorem w_enum {xs : List D} : wEnum [.lst xs] = some (enumD 0 xs) := (rfl)
theorem w_zipL {xs ys : List D} : wZip [.lst xs, .lst ys] = some (zipD xs ys) := (rfl)
theorem w_zipT {xs ys : List D} : wZip [.tup xs, .tup ys] = some (zipD xs ys) := (rfl)
theorem e_max {i j : Int} : dMax (.int i) (.int j) = some (.val (.int (if j > i then j else i))) := (rfl)
theorem e_min {i j : Int} : dMin (.int i) (.int j) = some (.val (.int (if j < i then j else i))) := (rfl)
theorem e_shr {i j : Int} (h : 0 ≤ j) : dShr (.int i) (.int j) = some (.val (.int (i / 2 ^ j.toNat))) := if_pos (decide_eq_true h)
theorem e_and {i j : Int} : dAnd (.int i) (.int j) = some (.val (.int (Builtin.bitAnd i j))) := (rfl)
theorem e_str {i : Int} (h : i.natAbs.log2 < 1920) : dStr (.int i) = some (.val (.str (toString i))) := if_pos h
end
theorem for_rng1 {n : Int} {g : D → Env → Option Env} {junk : List Nat} {body : M Fl} {env : Env} {m : M Tk} {e : Env} {i : Int} (h1 : m env = .ok (.val (.int i)) e) (h : okR i = true) : mFor (mRng (mCons m mNil)) g junk body env = mLoop g junk body (rngD 0 i.toNat) e := by
  rw [a_for, a_rng, a_cons, h1]
  simp only [bindR_ok, t_val, a_nil, a_la1, l_val, a_la0, h, if_true]
/-! ### sum of a list or a tuple -/
section
variable {X : Cx} {y : Y} {e : Expr} {ma : M (List Tk)} {pos p : Pos}
def rSumT (K : PySem.W.Frag) : List V → Hp → VK → Prop := fun vs H Q => ∃ (a : Addr) (ns : List Int), vs = [V.ref a] ∧ SqT K H a (ns.map V.int) ∧ Q (.int ns.sum) H
theorem cr_sumT (hc : X.calm = true) : CallR X (.builtin "sum") (rSumT X.K) := by
  intro pins s σ H vs us Q I r h
  obtain ⟨a, ns, rfl, hs, q⟩ := h
  obtain ⟨its, rv, hl, _⟩ := I.tuple hs
  rw [Vals.ref1 r]
  have hi := rv.ints
  obtain ⟨xs, hx⟩ := hi.allInts.items
  have hn : numsOf its.toArray.toList = ns := by rw [show its.toArray.toList = its from rfl, hi.numsOf]
  rw [hx] at hl hn
  rw [nums_intItems] at hn
  refine PySem.W.ktm_sumG (I.ok.hd hc) hl fun h' tk t' hk => ?_
  refine ⟨.int _, H, I.kept hk, ⟨_, rfl⟩, ?_⟩
  rw [preSum_eq, List.take_of_length_le (by simp), hn]
  exact q
def dSumA : D → Option Tk
  | .lst xs => (toInts xs).map fun ns => .val (.int ns.sum)
  | .tup xs => (toInts xs).map fun ns => .val (.int ns.sum)
  | _ => none
theorem sumA_ok : OpN X y (fn1 dSumA) (fun vs H Q => rSum X.K vs H Q ∨ rSumT X.K vs H Q) := op1N (by
  intro Hk H d v t Q e h pa q
  cases d with
  | lst xs =>
    simp only [dSumA] at h
    cases z : toInts xs with
    | none => rw [z] at h; cases h
    | some ns =>
      rw [z] at h
      cases h
      obtain ⟨a, vs, rfl, h1, h2⟩ := pa.lst e
      obtain rfl := toInts_eq z
      rw [rpl_ints h2] at h1
      exact .inl ⟨a, ns, rfl, sqL h1, q _ _ (res_flat rp_int e)⟩
  | tup xs =>
    simp only [dSumA] at h
    cases z : toInts xs with
    | none => rw [z] at h; cases h
    | some ns =>
      rw [z] at h
      cases h
      obtain ⟨a, vs, rfl, h1, h2, _⟩ := pa.tup e
      obtain rfl := toInts_eq z
      rw [rpl_ints h2] at h1
      exact .inr ⟨a, ns, rfl, sqT h1, q _ _ (res_flat rp_int e)⟩
  | _ => cases h)
theorem px_sumA (hc : X.calm = true) (hm : X.mg "sum" = none) (ha : PAs X y [e] ma) (hg : Gl X "sum" := by rfl) (he : starEach [e] X.env = (false, eval e X.env) :: starEach [] X.env := by rfl) : PX X y (.Call (.Name "sum" p) [e] [] pos) (mCall (fn1 dSumA) ma) := px_blt (callR_or (cr_sum hc) (cr_sumT hc)) sumA_ok hg hm (by decide +kernel) ha (he := he) (hpl := by rfl)
theorem e_sumA {ns : List Int} : dSumA (.lst (ns.map .int)) = some (.val (.int ns.sum)) := by
  show (toInts (ns.map .int)).map _ = _
  rw [toInts_map]; rfl
theorem e_sumAT {ns : List Int} : dSumA (.tup (ns.map .int)) = some (.val (.int ns.sum)) := by
  show (toInts (ns.map .int)).map _ = _
  rw [toInts_map]; rfl
end
end VM

set_option Elab.async false
set_option linter.all false
set_option maxRecDepth 100000
set_option maxHeartbeats 1000000
/-! VM L: a, b = x, y -/
namespace VM
open PySem PySem.Spec PyProof.Rows L2
section
variable {X : Cx} {y : Y} {a b : Expr} {ma : M (List Tk)}
def mPar (i j : Nat) (ma : M (List Tk)) : M Fl := mBind ma fun ts env => match forceAll ts env with
  | .ok [d1, d2] e => .ok .nx ((e.set i (.sh d1)).set j (.sh d2))
  | _ => .bad
theorem psx_par {i j : Nat} {x z : Str} {px py pt : Pos} {kt k2 : Nat} {pt2 pos : Pos} (hc : X.calm = true) (hN : X.N.Nodup) (ha : PAs X y [a, b] ma) (hi : X.N[i]? = some x := by rfl) (hj : X.N[j]? = some z := by rfl) (hij : i ≠ j := by decide)
    (hx : X.env.scope.names.lookup x = some .local := by rfl) (hy : X.env.scope.names.lookup z = some .local := by rfl)
    (hw : swappedStores [.Tuple [.Name x px, .Name z py] kt pt] (.Tuple [a, b] k2 pt2) X.env = pure (some [x, z]) := by rfl)
    (hs : swapsWithSole [.Tuple [.Name x px, .Name z py] kt pt] (.Tuple [a, b] k2 pt2) pos.line X.env = pure false := by rfl) :
    PSx X y (.Assign [.Tuple [.Name x px, .Name z py] kt pt] (.Tuple [a, b] k2 pt2) pos) (mPar i j ma) := by
  refine ⟨PS_imp (ps_par hc hN hi hj hij hx hy ha.pa hw hs) fun D σ H ⟨env, Hk, G, re, q⟩ => ⟨env, Hk, G, re, as_bind q fun ts e1 vs Hk' H1 _ k1 r1 rs q1 => ?_⟩⟩
  cases z2 : forceAll ts e1 with
  | bad => rw [z2] at q1; exact q1.elim
  | ex _ _ _ _ => rw [z2] at q1; exact q1.elim
  | ok ds e2 =>
    rw [z2] at q1
    obtain ⟨Hk2, k2, r2, rl⟩ := RVs.force r1 rs z2
    match ds, rl, q1 with
    | [d1, d2], rl, q1 =>
      obtain ⟨v, r, rfl, h1, rn⟩ := rl.inv
      obtain ⟨w, r', rfl, h2, rn2⟩ := rn.inv
      obtain rfl : r' = [] := List.eq_nil_of_length_eq_zero rn2.len.symm
      exact ⟨v, w, rfl, q1 _ Hk2 H1 k2 ((r2.setSh h1).setSh h2)⟩
    | [], _, q1 => exact q1.elim
    | [_], _, q1 => exact q1.elim
    | _ :: _ :: _ :: _, _, q1 => exact q1.elim
end
theorem a_par {i j : Nat} {ma : M (List Tk)} {env : Env} : mPar i j ma env = bindR (ma env) fun ts env => match forceAll ts env with
  | .ok [d1, d2] e => .ok .nx ((e.set i (.sh d1)).set j (.sh d2))
  | _ => .bad := (rfl)
/-! ### a <= b < c as a test -/
def mChainB (f g : D → D → Option Bool) (m1 m2 m3 : M Tk) : M Bool := mBind m1 fun t1 => mBind m2 fun t2 env => match look t1.settle env, look t2 env with
  | some a, some b => match f a b with
    | some true => mBind m3 (fun t3 e3 => match look t2.settle e3, look t3 e3 with
      | some b', some c => mOf (g b' c) e3
      | _, _ => .bad) env
    | some false => .ok false env
    | none => .bad
  | _, _ => .bad
section
variable {X : Cx} {y : Y} {a b c : Expr} {m1 m2 m3 : M Tk} {pos : Pos}
theorem pb_chain {f g : D → D → Option Bool} {r r' : R2} {op op' : CmpOp} (ho : OpR X (compareOp op) r) (ho' : OpR X (compareOp op') r') (of : ∀ Hk H a b v w k Q, Ex Hk H → f a b = some k → Pk (y.ct X) Hk H a v → Pk (y.ct X) Hk H b w → (Q (.bl k) H) → r v w H Q) (og : Op2 X y (lift g) r')
    (ha : PX X y a m1) (hb : PX X y b m2) (hc : PX X y c m3) (hm : lastMarks [op, op'] [b, c] = false := by with_unfolding_all rfl) : PB X y (.Compare a [op, op'] [b, c] pos) (mChainB f g m1 m2 m3) := by
  refine ⟨PT_imp (pt_chain ho ho' ha.pe hb.pe hc.pe hm) fun σ H Q ⟨env, Hk, G, re, q⟩ => ⟨env, Hk, G, re, tb_bind q fun t1 e1 v Hk1 H1 k1 r1 rt1 q1 => ?_⟩⟩
  obtain ⟨Hk1', k1', r1, rv1⟩ := rt1.settle r1
  refine ⟨e1, Hk1', G, r1, tb_bind (q1.kx k1') fun t2 e2 w Hk2 H2 k2 r2 rt2 q2 => ?_⟩
  have rt1 := (rv1.kx k2).rt (G := G) (env := e2) (H := H2)
  obtain ⟨Hk2', k2', r2', rv2⟩ := rt2.settle r2
  cases z1 : look t1.settle e2 with
  | none => rw [z1] at q2; exact q2.elim
  | some d1 =>
    cases z2 : look t2 e2 with
    | none => rw [z1, z2] at q2; exact q2.elim
    | some d2 =>
      rw [z1, z2] at q2
      dsimp only at q2
      cases z3 : f d1 d2 with
      | none => rw [z3] at q2; exact q2.elim
      | some k =>
        rw [z3] at q2
        refine of Hk2 H2 d1 d2 v w k _ r2.hk z3 (rt1.look r2 z1) (rt2.look r2 z2) ⟨k, rfl, ?_⟩
        cases k with
        | false => exact ⟨false, rfl, q2 Hk2 H2 (Kx.refl _ _) r2⟩
        | true =>
          rw [if_pos rfl]
          refine ⟨e2, Hk2', G, r2', tb_bind (q2.kx k2') fun t3 e3 u Hk3 H3 k3 r3 rt3 q3 => ?_⟩
          have rt2' := (rv2.kx k3).rt (G := G) (env := e3) (H := H3)
          cases z4 : look t2.settle e3 with
          | none => rw [z4] at q3; exact q3.elim
          | some b' =>
            cases z5 : look t3 e3 with
            | none => rw [z4, z5] at q3; exact q3.elim
            | some cc =>
              rw [z4, z5] at q3
              dsimp only at q3
              unfold mOf at q3
              cases z6 : g b' cc with
              | none => rw [z6] at q3; exact q3.elim
              | some k2 =>
                rw [z6] at q3
                refine og Hk3 H3 b' cc w u (.val (.bl k2)) _ r3.hk (by unfold lift; rw [z6]) (rt2'.look r3 z4) (rt3.look r3 z5) fun z H' hz => ?_
                obtain ⟨Hk', k1, r1, rt⟩ := r3.res hz
                have rt : Rp (y.ct X) Hk' (.bl k2) z := rt
                unfold Rp at rt
                exact ⟨k2, rt, q3 Hk' H' k1 r1⟩
theorem pb_lele (ha : PX X y a m1) (hb : PX X y b m2) (hc : PX X y c m3) (hm : lastMarks [.LtE, .LtE] [b, c] = false := by with_unfolding_all rfl) : PB X y (.Compare a [.LtE, .LtE] [b, c] pos) (mChainB cLe cLe m1 m2 m3) := pb_chain op_le op_le (cI_one cLe_i) cI_ok ha hb hc hm
theorem pb_lelt (ha : PX X y a m1) (hb : PX X y b m2) (hc : PX X y c m3) (hm : lastMarks [.LtE, .Lt] [b, c] = false := by with_unfolding_all rfl) : PB X y (.Compare a [.LtE, .Lt] [b, c] pos) (mChainB cLe cLt m1 m2 m3) := pb_chain op_le op_lt (cI_one cLe_i) cI_ok ha hb hc hm
theorem pb_ltle (ha : PX X y a m1) (hb : PX X y b m2) (hc : PX X y c m3) (hm : lastMarks [.Lt, .LtE] [b, c] = false := by with_unfolding_all rfl) : PB X y (.Compare a [.Lt, .LtE] [b, c] pos) (mChainB cLt cLe m1 m2 m3) := pb_chain op_lt op_le (cI_one cLt_i) cI_ok ha hb hc hm
theorem pb_ltlt (ha : PX X y a m1) (hb : PX X y b m2) (hc : PX X y c m3) (hm : lastMarks [.Lt, .Lt] [b, c] = false := by with_unfolding_all rfl) : PB X y (.Compare a [.Lt, .Lt] [b, c] pos) (mChainB cLt cLt m1 m2 m3) := pb_chain op_lt op_lt (cI_one cLt_i) cI_ok ha hb hc hm
end
theorem a_chainB {f g : D → D → Option Bool} {m1 m2 m3 : M Tk} {env : Env} : mChainB f g m1 m2 m3 env = bindR (m1 env) fun t1 e => bindR (m2 e) fun t2 env => match look t1.settle env, look t2 env with
  | some a, some b => match f a b with
    | some true => bindR (m3 env) fun t3 e3 => match look t2.settle e3, look t3 e3 with
      | some b', some c => mOf (g b' c) e3
      | _, _ => .bad
    | some false => .ok false env
    | none => .bad
  | _, _ => .bad := (rfl)
theorem a_chain {f g : D → D → Option Bool} {m1 m2 m3 : M Tk} {env : Env} : mChain f g m1 m2 m3 env = bindR (m1 env) fun t1 e => bindR (m2 e) fun t2 env => match look t1.settle env, look t2 env with
  | some a, some b => match f a b with
    | some true => bindR (m3 env) fun t3 e3 => match look t2.settle e3, look t3 e3 with
      | some b', some c => mOf ((g b' c).map fun k => .val (.bl k)) e3
      | _, _ => .bad
    | some false => .ok (.val (.bl false)) env
    | none => .bad
  | _, _ => .bad := (rfl)
end VM

set_option Elab.async false
set_option linter.all false
set_option maxRecDepth 100000
set_option maxHeartbeats 1000000
/-! VM M: own classes: attributes, methods, making, == by an own __eq__ -/
namespace VM
open PySem PySem.Spec PyProof.Rows L2
section
variable {X : Cx} {y : Y} {a b c e o value : Expr} {es : List Expr} {m m1 m2 : M Tk} {ma : M (List Tk)} {pos p p2 apos pos' : Pos} {f : Str} {k kk np : Nat}
/-! ### o.f -/
def dFld (cs : List Nat) (f : Str) : D → Option Tk
  | .ins c ns xs => if cs.contains c = true then ((ns.zip xs).lookup f).map .val else none
  | _ => none
/-- the classes cs may carry the attribute f -/
structure FA (K : PySem.W.Frag) (cm : Nat → Addr) (f : Str) (cs : List Nat) : Prop where
  ok : ∀ c ∈ cs, Cls K (cm c) ∧ NoAttr K (cm c) f
theorem px_fld {cs : List Nat} (T : FA X.K y.cm f cs) (ha : PX X y o m) (hb : attributeBase o f X.env (eval o X.env) = eval o X.env := by rfl) : PX X y (.Attribute o f pos) (mUn (dFld cs f) m) := by
  refine ⟨PE_imp (pe_fld ha.pe hb) fun σ H Q ⟨env, Hk, G, re, q⟩ => ⟨env, Hk, G, re, po_bind q fun t e1 v Hk1 H1 k1 r1 rt q1 => ?_⟩⟩
  unfold mLook1 at q1
  cases z : look t e1 with
  | none => rw [z] at q1; exact q1.elim
  | some d =>
    rw [z] at q1
    dsimp only at q1
    have pk := rt.look r1 z
    cases d with
    | ins c ns xs =>
      unfold dFld at q1
      dsimp only at q1
      by_cases hc : cs.contains c = true
      · rw [if_pos hc] at q1
        cases l : (ns.zip xs).lookup f with
        | none => rw [l] at q1; exact q1.elim
        | some dv =>
          rw [l] at q1
          obtain ⟨a, dx, vs, rfl, h1, h2, h3, h4⟩ := pk.ins r1.hk
          obtain ⟨vv, hv, rv⟩ := zip_look h4 l
          obtain ⟨g1, g2⟩ := T.ok c (by simpa using hc)
          exact ⟨a, y.cm c, dx, _, vv, rfl, h1, g1, g2, hv, q1 vv Hk1 H1 (Kx.refl _ _) r1 rv⟩
      · rw [if_neg hc] at q1; exact q1.elim
    | _ => exact q1.elim
/-! ### self.f = e -/
def putK (f : Str) : List Str → List Str
  | [] => [f]
  | g :: r => if g = f then g :: r else g :: putK f r
def putV {α : Type} (f : Str) (d : α) : List Str → List α → List α
  | [], _ => [d]
  | _ :: _, [] => [d]
  | g :: r, x :: xs => if g = f then d :: xs else x :: putV f d r xs
theorem put_zip {f : Str} {v : V} : ∀ {ns : List Str} {vs : List V}, ns.length = vs.length → putF f v (ns.zip vs) = (putK f ns).zip (putV f v ns vs)
  | [], [], _ => rfl
  | g :: r, x :: xs, h => by
    have ih := put_zip (f := f) (v := v) (ns := r) (vs := xs) (by simpa using h)
    rw [List.zip_cons_cons]
    show (if g = f then (g, v) :: r.zip xs else (g, x) :: putF f v (r.zip xs)) = _
    unfold putK putV
    by_cases q : g = f
    · rw [if_pos q, if_pos q, if_pos q, List.zip_cons_cons]
    · rw [if_neg q, if_neg q, if_neg q, List.zip_cons_cons, ih]
  | [], _ :: _, h => by cases h
  | _ :: _, [], h => by cases h
theorem put_len {α : Type} {f : Str} {v : α} : ∀ {ns : List Str} {vs : List α}, ns.length = vs.length → (putK f ns).length = (putV f v ns vs).length
  | [], [], _ => rfl
  | g :: r, x :: xs, h => by
    have ih := put_len (f := f) (v := v) (ns := r) (vs := xs) (by simpa using h)
    unfold putK putV
    by_cases q : g = f
    · rw [if_pos q, if_pos q]; simpa using h
    · rw [if_neg q, if_neg q]; simpa using ih
  | [], _ :: _, h => by cases h
  | _ :: _, [], h => by cases h
theorem RpL.put {C : Ct} {H : Hp} {f : Str} {d : D} {v : V} (q : Rp C H d v) : ∀ {ns : List Str} {xs : List D} {vs : List V}, RpL C H xs vs → ns.length = vs.length → RpL C H (putV f d ns xs) (putV f v ns vs)
  | [], _, _, _, _ => .cons q .nil
  | g :: r, [], _, h, l => by
    unfold RpL at h; subst h; cases l
  | g :: r, x :: xs, vs, h, l => by
    obtain ⟨v', vr, rfl, h1, h2⟩ := h.inv
    unfold putV
    by_cases z : g = f
    · rw [if_pos z, if_pos z]; exact .cons q h2
    · rw [if_neg z, if_neg z]; exact .cons h1 (RpL.put q h2 (by simpa using l))
def putD (cs : List Nat) (f : Str) (d : D) : D → Option D
  | .ins c ns xs => if cs.contains c = true ∧ ns.length < 1000 then some (.ins c (putK f ns) (putV f d ns xs)) else none
  | _ => none
/-- the object of slot k gets the attribute f -/
def mFld (k : Nat) (cs : List Nat) (f : Str) (m : M Tk) : M Fl := mBind m fun t env => match force t env with
  | .ok d e1 => match owD k e1 with
    | some o => match putD cs f d o with
      | some o' => .ok .nx (e1.set k (.ow o'))
      | none => .bad
    | none => .bad
  | _ => .bad
theorem psx_fld {cs : List Nat} (T : FA X.K y.cm f cs) (ho : PE X o (tVar k)) (hv : PX X y value m) (hs : swapsWith value (some (.Attribute o f pos')) pos.line X.env = pure false := by rfl) : PSx X y (.Assign [.Attribute o f pos'] value pos) (mFld k cs f m) := by
  refine ⟨PS_imp (ps_fld ho hv.pe hs) fun D σ H ⟨env, Hk, G, re, q⟩ => ⟨env, Hk, G, re, ps_bind q fun t e1 v Hk1 H1 k1 r1 rt q1 => ?_⟩⟩
  rcases force_cases t e1 with ⟨d, e2, z⟩ | z
  · rw [z] at q1
    dsimp only at q1
    obtain ⟨Hk2, k2, r2, rd⟩ := rt.force r1 z
    cases z2 : owD k e2 with
    | none => rw [z2] at q1; exact q1.elim
    | some ob =>
      rw [z2] at q1
      dsimp only at q1
      have hk := owD_at z2
      cases ob with
      | ins c ns xs =>
        unfold putD at q1
        dsimp only at q1
        by_cases hc : cs.contains c = true ∧ ns.length < 1000
        · rw [if_pos hc] at q1
          dsimp only at q1
          obtain ⟨a, hs, h0, oa⟩ := r2.ow k _ hk
          obtain ⟨g, dx, vs, h1, h2, h3, h4, h5⟩ := oa
          obtain ⟨g1, g2⟩ := T.ok c (by simpa using hc.1)
          refine ⟨.ref a, hs, a, y.cm c, dx, _, rfl, h1, g1, g2, ?_, ?_⟩
          · rw [List.length_zip]; omega
          · have ne : dx ≠ a := fun e => by subst e; rw [h1] at h2; cases h2
            refine q1 σ Hk2 _ k2 (r2.mut hk hs ?_)
            refine ⟨g, dx, putV f v ns vs, ?_, by rw [upd_ne ne]; exact h2, put_len h3, RpL.put rd h4 h3, h5⟩
            rw [upd_same, put_zip h3]
        · rw [if_neg hc] at q1; exact q1.elim
      | _ => exact q1.elim
  · rw [z] at q1; exact q1.elim
/-! ### calls of methods -/
/-- a call with the tokens ts -/
def mCallT (F : List D → Rf) (ts : List Tk) : M Tk := fun env => match lookAll ts env with
  | none => .bad
  | some ds => match F ds with
    | .ok nw d _ => if apart nw d = true then .ok (tkOf nw d) env else match forceAll ts env with
      | .ok _ e => .ok (tkOf nw d) e
      | _ => .bad
    | .ex c ns xs _ => if xs.all D.flat = true then .ex c ns xs env else match forceAll ts env with
      | .ok _ e => .ex c ns xs e
      | _ => .bad
    | .bad => .bad
abbrev Tab := List (Nat × (List D → Rf))
def tabF (tab : Tab) (c : Nat) : Option (List D → Rf) := tab.lookup c
theorem tab_mem {c : Nat} {F : List D → Rf} : ∀ {tab : Tab}, tabF tab c = some F → (c, F) ∈ tab
  | [], h => by cases h
  | (c', F') :: r, h => by
    unfold tabF at h
    rw [List.lookup_cons] at h
    split at h
    · rename_i q
      cases h
      rw [eq_of_beq q]
      exact List.mem_cons_self
    · exact List.mem_cons_of_mem _ (tab_mem (tab := r) h)
/-- o.m(..): the method by the object's class -/
def mMeth (n : Str) (tab : Tab) (mo : M Tk) (ma : M (List Tk)) : M Tk := mBind mo fun t env => match look t env with
  | some (.ins c ns _) => if ns.contains n = true then .bad else match tabF tab c with
    | some F => mBind ma (fun ts => mCallT F (t.settle :: ts)) env
    | none => .bad
  | _ => .bad
/-- the methods of one name -/
structure CM (P : Program) (w : World) (K : PySem.W.Frag) (mg : Str → Option Value) (base : Heap) (cm : Nat → Addr) (n : Str) (k np : Nat) (tab : Tab) : Prop where
  ne : tab ≠ []
  ok : ∀ x ∈ tab, ∃ f fd ps j, j ≤ k ∧ ps.length = np + 1 ∧ FnOk P w K mg base (L2.CX P w) j f fd ps (spF ⟨K, cm⟩ (np + 1) x.2) ∧ Cls K (cm x.1) ∧ Meth K (cm x.1) n f ∧ Binds K fd ps []
theorem look_none {n : Str} {C : Ct} {H : Hp} : ∀ {ns : List Str} {vs : List V}, ns.contains n = false → (ns.zip vs).lookup n = none
  | [], _, _ => rfl
  | _ :: _, [], _ => by simp
  | g :: r, x :: xs, h => by
    rw [List.contains_cons, Bool.or_eq_false_iff] at h
    rw [List.zip_cons_cons, List.lookup_cons, h.1]
    exact look_none (C := C) (H := H) h.2
/-- o.m(..), with the wish for exceptions at each state -/
theorem run_meth {C f : Addr} {fd : FuncData} {ps : List Str} {sp : Sp} {n : Str} {t ta : _} {E : L2.St → XK} {pl : Sem Bool} (he : PE X o ta) (c : Cls X.K C) (hm : Meth X.K C n f) (F : FnOk X.prog X.w X.K X.mg X.base (L2.CX X.prog X.w) k f fd ps sp) (hr : Room k X.A) (hb : Binds X.K fd ps []) (hx : ∀ σ, PassesAt (L2.CX X.prog X.w) X σ (E σ)) (ha : PA X (e :: es) t)
    (hst : starEach (e :: es) X.env = (false, eval e X.env) :: starEach es X.env) (hpl : (backTo pos (starEach es X.env)).any (·.1) = false)
    (ht : eval (.Call (.Attribute o n apos) (e :: es) [] pos) X.env = (do
      let ov ← eval o X.env
      standAt apos.atName
      let (f, first) ← holding [ov] (getMethod ov n pl)
      callWith pos f first (backTo pos (starEach (e :: es) X.env)) (backToKw pos (keywordEach [] X.env)))) :
    PE X (.Call (.Attribute o n apos) (e :: es) [] pos) (fun σ H Q => tMeth C n sp [] (E σ) ta t σ H Q) := by
  refine ⟨fun pins s σ H Q I h => ?_⟩
  refine PySem.W.methodCall_KW (pl := pl) (thn (he.run pins s σ H _ I h) fun u s1 ⟨x, H1, I1, rx, a, dx, fs, ex, ea, l, q⟩ => ?_) ht
  subst ex
  obtain rfl : u = Value.ref a := rx
  refine getmeth_ok I1 ea c hm l ?_
  refine PySem.W.callWith_K (first := [.ref a]) (h₀ := X.base) I.ok.mod.kin hm.kp (thn (ha.run pos pins s1 σ H1 _ I1 q) fun us s2 ⟨vs, H2, I2, r, q2⟩ => ⟨I2.kIn, ?_⟩) hst hpl
  exact run_fnSD (us := .ref a :: us) (vs := .ref a :: vs) F hr hb .nil (hx σ) I2 (.cons rfl r) q2
theorem run_meth0 {C f : Addr} {fd : FuncData} {ps : List Str} {sp : Sp} {n : Str} {ta : _} {E : L2.St → XK} {pl : Sem Bool} (he : PE X o ta) (c : Cls X.K C) (hm : Meth X.K C n f) (F : FnOk X.prog X.w X.K X.mg X.base (L2.CX X.prog X.w) k f fd ps sp) (hr : Room k X.A) (hb : Binds X.K fd ps []) (hx : ∀ σ, PassesAt (L2.CX X.prog X.w) X σ (E σ))
    (ht : eval (.Call (.Attribute o n apos) [] [] pos) X.env = (do
      let ov ← eval o X.env
      standAt apos.atName
      let (f, first) ← holding [ov] (getMethod ov n pl)
      callWith pos f first (backTo pos (starEach [] X.env)) (backToKw pos (keywordEach [] X.env)))) :
    PE X (.Call (.Attribute o n apos) [] [] pos) (fun σ H Q => tMeth C n sp [] (E σ) ta tNil σ H Q) := by
  refine ⟨fun pins s σ H Q I h => ?_⟩
  refine PySem.W.methodCall_KW (pl := pl) (thn (he.run pins s σ H _ I h) fun u s1 ⟨x, H1, I1, rx, a, dx, fs, ex, ea, l, q⟩ => ?_) ht
  subst ex
  obtain rfl : u = Value.ref a := rx
  refine getmeth_ok I1 ea c hm l ?_
  exact PySem.W.callWith_K0 (first := [.ref a]) I1.kIn hm.kp (run_fnSD (us := [.ref a]) (vs := [.ref a]) F hr hb .nil (hx σ) I1 (.cons rfl .nil) q)
/-- the reading of o.m(..) -/
theorem meth_go {n : Str} {tab : Tab} {t : TA} (M : CM X.prog X.w X.K X.mg X.base y.cm n k np tab) (hn : Many ma np) (ht : t = tA X y ma) {σ : L2.St} {H : Hp} {Q : VK} (h : tE X y (mMeth n tab m ma) σ H Q) :
    ∃ x ∈ tab, tMeth (y.cm x.1) n (spF (y.ct X) (np + 1) x.2) [] (WE y.W σ) (tE X y m) t σ H Q := by
  obtain ⟨env, Hk, G, re, q⟩ := h
  subst ht
  cases z : m env with
  | bad => unfold mMeth mBind at q; rw [z] at q; exact q.elim
  | ex c ns ds e =>
    unfold mMeth mBind at q
    rw [z] at q
    cases htab : tab with
    | nil => exact absurd htab M.ne
    | cons x r => exact ⟨x, List.mem_cons_self, env, Hk, G, re, by rw [z]; exact q⟩
  | ok t e1 =>
    have q0 := q
    unfold mMeth mBind at q
    rw [z] at q
    dsimp only at q
    cases zl : look t e1 with
    | none => rw [zl] at q; exact q.elim
    | some d =>
      rw [zl] at q
      cases d with
      | ins c ns xs =>
        dsimp only at q
        by_cases hc : ns.contains n = true
        · rw [if_pos hc] at q; exact q.elim
        · rw [if_neg hc] at q
          cases zt : tabF tab c with
          | none => rw [zt] at q; exact q.elim
          | some F =>
            rw [zt] at q
            dsimp only at q
            refine ⟨(c, F), tab_mem zt, env, Hk, G, re, ?_⟩
            rw [z]
            intro v Hk1 H1 k1 r1 rt
            obtain ⟨a, dx, vs, rfl, h1, h2, h3, h4⟩ := (rt.look r1 zl).ins r1.hk
            refine ⟨a, dx, _, rfl, h1, look_none (C := y.ct X) (H := H) (by simpa using hc), ?_⟩
            obtain ⟨Hk1', k1', r1', rv⟩ := rt.settle r1
            refine ⟨e1, Hk1', G, r1', pa_bindN hn ((q.kx k1).kx k1') fun ts e2 ws Hk2 H2 k2 r2 rs hl q2 => ?_⟩
            rw [List.append_nil]
            exact callF_go r2 (.cons (rv.kx k2) rs) (by rw [List.length_cons, ← rs.len, hl]) q2
      | _ => exact q.elim
theorem px_meth {n : Str} {tab : Tab} (M : CM X.prog X.w X.K X.mg X.base y.cm n k np tab) (hr : Room kk X.A) (tk : Takes X y.W) (ho : PX X y o m) (ha : PAs X y (e :: es) ma) (hn : Many ma np := by repeat first | exact many_nil | refine many_cons ?_) (hk : k ≤ kk := by decide) {pl : Sem Bool}
    (hst : starEach (e :: es) X.env = (false, eval e X.env) :: starEach es X.env := by rfl) (hpl : (backTo pos (starEach es X.env)).any (·.1) = false := by rfl)
    (ht : eval (.Call (.Attribute o n apos) (e :: es) [] pos) X.env = (do
      let ov ← eval o X.env
      standAt apos.atName
      let (f, first) ← holding [ov] (getMethod ov n pl)
      callWith pos f first (backTo pos (starEach (e :: es) X.env)) (backToKw pos (keywordEach [] X.env))) := by rfl) :
    PX X y (.Call (.Attribute o n apos) (e :: es) [] pos) (mMeth n tab m ma) := by
  refine ⟨⟨fun pins s σ H Q I h => ?_⟩⟩
  obtain ⟨x, hx, h⟩ := meth_go M hn rfl h
  obtain ⟨f, fd, ps, j, hj, hp, FO, c, hm, hb⟩ := M.ok x hx
  exact (run_meth ho.pe c hm FO (hr.mono (Nat.le_trans hj hk)) hb (fun σ => passAt tk σ) ha.pa hst hpl ht).run pins s σ H Q I h
theorem nil_tA : tE = tE := rfl
theorem px_meth0 {n : Str} {tab : Tab} (M : CM X.prog X.w X.K X.mg X.base y.cm n k 0 tab) (hr : Room kk X.A) (tk : Takes X y.W) (ho : PX X y o m) (hk : k ≤ kk := by decide) {pl : Sem Bool}
    (ht : eval (.Call (.Attribute o n apos) [] [] pos) X.env = (do
      let ov ← eval o X.env
      standAt apos.atName
      let (f, first) ← holding [ov] (getMethod ov n pl)
      callWith pos f first (backTo pos (starEach [] X.env)) (backToKw pos (keywordEach [] X.env))) := by rfl) :
    PX X y (.Call (.Attribute o n apos) [] [] pos) (mMeth n tab m mNil) := by
  refine ⟨⟨fun pins s σ H Q I h => ?_⟩⟩
  obtain ⟨x, hx, h⟩ := meth_go M many_nil rfl h
  obtain ⟨f, fd, ps, j, hj, hp, FO, c, hm, hb⟩ := M.ok x hx
  refine (run_meth0 ho.pe c hm FO (hr.mono (Nat.le_trans hj hk)) hb (fun σ => passAt tk σ) ht).run pins s σ H Q I ?_
  obtain ⟨env, Hk, G, re, h⟩ := h
  refine ⟨env, Hk, G, re, ?_⟩
  cases z : m env with
  | bad => rw [z] at h; exact h.elim
  | ex c ns ds e => rw [z] at h; exact h
  | ok t e1 =>
    rw [z] at h
    intro v Hk1 H1 k1 r1 rt
    obtain ⟨a, dx, fs, h1, h2, h3, env2, Hk2, G2, re2, h4⟩ := h v Hk1 H1 k1 r1 rt
    exact ⟨a, dx, fs, h1, h2, h3, h4 [] Hk2 H1 (Kx.refl _ _) re2 .nil⟩
/-! ### C(..) -/
/-- no mutable thing in it -/
def noMut : D → Bool
  | .non | .bl _ | .int _ | .str _ | .ty _ | .cl _ => true
  | .tup xs => noMutL xs
  | .tupf xs => noMutL xs
  | _ => false
where noMutL : List D → Bool
  | [] => true
  | d :: ds => noMut d && noMutL ds
def noMutI : D → Bool
  | .ins _ _ xs => noMut.noMutL xs
  | _ => false
/-- of H' what H has, and the rows beside -/
def keepH (H H' : Hp) : Hp := fun a => match H a with
  | some o => some o
  | none => match H' a with
    | some (.tup vs) => some (.tup vs)
    | some (.frz o u) => some (.frz o u)
    | _ => none
theorem keepH_ex {H H' : Hp} : Ex H (keepH H H') := fun a o h => by unfold keepH; rw [h]
theorem keepH_le {H H' : Hp} (e : Ex H H') : Ex (keepH H H') H' := fun a o h => by
  unfold keepH at h
  cases z : H a with
  | some u => rw [z] at h; cases h; exact e a _ z
  | none =>
    rw [z] at h
    dsimp only at h
    cases z2 : H' a with
    | none => rw [z2] at h; cases h
    | some u =>
      rw [z2] at h
      cases u <;> first | (cases h; rfl) | (cases h; done)
theorem keepH_t {H H' : Hp} (e : Ex H H') {a : Addr} {vs : List V} (h : H' a = some (.tup vs)) : keepH H H' a = some (.tup vs) := by
  unfold keepH
  cases z : H a with
  | some u => have := e a _ z; rw [h] at this; cases this; rfl
  | none => rw [h]
theorem keepH_f {H H' : Hp} (e : Ex H H') {a : Addr} {o : Obj} {u : HO} (h : H' a = some (.frz o u)) : keepH H H' a = some (.frz o u) := by
  unfold keepH
  cases z : H a with
  | some u => have := e a _ z; rw [h] at this; cases this; rfl
  | none => rw [h]
mutual
theorem rp_keep {C : Ct} {H H' : Hp} (e : Ex H H') : ∀ {d : D} {v : V}, noMut d = true → Rp C H' d v → Rp C (keepH H H') d v
  | .non, _, _, h | .bl _, _, _, h | .int _, _, _, h | .str _, _, _, h | .ty _, _, _, h | .cl _, _, _, h => by unfold Rp at h ⊢; exact h
  | .tup xs, v, n, h => by
    unfold Rp at h ⊢
    obtain ⟨a, vs, rfl, h1, h2⟩ := h
    exact ⟨a, vs, rfl, keepH_t e h1, rpl_keep e (by unfold noMut at n; exact n) h2⟩
  | .tupf xs, v, n, h => by
    unfold Rp at h ⊢
    obtain ⟨a, o, vs, rfl, h1, h3, h5, h4⟩ := h
    exact ⟨a, o, vs, rfl, keepH_f e h1, h3, h5, rpl_keep e (by unfold noMut at n; exact n) h4⟩
  | .scr _, _, n, _ | .lst _, _, n, _ | .ins _ _ _, _, n, _ | .dic _ _, _, n, _ => by unfold noMut at n; cases n
theorem rpl_keep {C : Ct} {H H' : Hp} (e : Ex H H') : ∀ {ds : List D} {vs : List V}, noMut.noMutL ds = true → RpL C H' ds vs → RpL C (keepH H H') ds vs
  | [], _, _, h => by unfold RpL at h ⊢; exact h
  | d :: ds, vs, n, h => by
    unfold RpL at h ⊢
    obtain ⟨v, r, rfl, h1, h2⟩ := h
    unfold noMut.noMutL at n
    rw [Bool.and_eq_true] at n
    exact ⟨v, r, rfl, rp_keep e n.1 h1, rpl_keep e n.2 h2⟩
end
def mMake (c : Nat) (F : List D → Rf) (ma : M (List Tk)) : M Tk := mBind ma fun ts env => match lookAll ts env with
  | none => .bad
  | some ds => match F (.ins c [] [] :: ds) with
    | .ok false .non p => if noMutI p = true then .ok (.new p) env else match forceAll ts env with
      | .ok _ e => .ok (.new p) e
      | _ => .bad
    | .ex c' ns xs _ => match forceAll ts env with
      | .ok _ e => .ex c' ns xs e
      | _ => .bad
    | _ => .bad
/-- shared from the start -/
def mVal (m : M Tk) : M Tk := mBind m fun t env => .ok t.settle env
structure CK (P : Program) (w : World) (K : PySem.W.Frag) (mg : Str → Option Value) (base : Heap) (cm : Nat → Addr) (x : Str) (c k np : Nat) (F : List D → Rf) : Prop where
  ex : ∃ f fd ps, Mk K (cm c) f ∧ ps.length = np + 1 ∧ FnOk P w K mg base (L2.CX P w) k f fd ps (spIO ⟨K, cm⟩ (np + 1) F) ∧ Binds K fd ps [] ∧ mg x = some (.ref (cm c))
theorem run_makeS {C f : Addr} {fd : FuncData} {ps : List Str} {sp : Sp} {E : XK} {pins : List (Addr × Obj)} {σ : L2.St} {H : Hp} {s : Shared} {Q : VK} {us : List Value} {vs : List V} (M : Mk X.K C f) (F : FnOk X.prog X.w X.K X.mg X.base (L2.CX X.prog X.w) k f fd ps sp) (hr : Room (k + 1) X.A) (hb : Binds X.K fd ps [])
    (hx : PassesAt (L2.CX X.prog X.w) X σ E) (I : Inv X pins σ H s) (r : Vals vs us)
    (h : ∀ x dx, H x = none → H dx = none → dx ≠ x → sp (.ref x :: vs) (upd (upd H dx (.own x)) x (.ins C dx [])) (fun v H2 => v = .non ∧ Q (.ref x) H2) E) :
    wpAny (model X.prog X.w) X.A (call (.ref C) us) (EP X pins σ Q) X.xe s := by
  have hq := h (s.heap.objs.size + 1) s.heap.objs.size (I.hok.fresh (Nat.le_succ _)) (I.hok.fresh (Nat.le_refl _)) (Nat.ne_of_lt (Nat.lt_succ_self _))
  have I2 := Inv.made (C := C) I
  have r2 : Vals (V.ref (s.heap.objs.size + 1) :: vs) (Value.ref (s.heap.objs.size + 1) :: us) := .cons rfl r
  have hl : ((Value.ref (s.heap.objs.size + 1) :: us) ++ []).length = ps.length := by
    rw [List.append_nil]
    have e := r2.length
    rw [F.len _ _ _ _ hq] at e
    exact e.symm
  have hbb := hb _ (Value.ref (s.heap.objs.size + 1) :: us) I2.kIn hl
  rw [List.append_nil] at hbb
  refine wpAny_call (make_map (f := f) I.kIn M.makes M.init (beq_iff_eq.mp M.fn) (codeAny_mono (F.run _ X.stack _ _ ⟨Value.ref (s.heap.objs.size + 1) :: us, []⟩ (Value.ref (s.heap.objs.size + 1) :: us) _ _ E (hr.make C us [])
    (I2.env0.make C us []) hbb r2 hq) fun r s' hq' => ?_))
  cases r with
  | error e => exact hx pins _ _ e s' I2 hq'
  | ok fl =>
    cases fl with
    | ret u =>
      obtain ⟨v, H', I3, rv, ev, q3⟩ := I2.after hq'
      subst ev
      exact ⟨rv, ⟨V.ref (s.heap.objs.size + 1), H', I3, rfl, q3⟩⟩
    | next => exact False.elim hq'
    | brk => exact False.elim hq'
    | cont => exact False.elim hq'
theorem make_go {c : Nat} {F : List D → Rf} (hn : Many ma np) {ts : List Tk} {e : Env} {σ : L2.St} {Hk G H : Hp} {vs : List V} {Q : VK} (re : RE (y.ct X) y.xa G e σ Hk H) (rs : RVs (y.ct X) σ Hk ts vs) (hl : vs.length = np)
    (q : PoE (y.ct X) y.xa y.W G σ Hk (match lookAll ts e with
      | none => .bad
      | some ds => match F (.ins c [] [] :: ds) with
        | .ok false .non p => if noMutI p = true then .ok (.new p) e else match forceAll ts e with
          | .ok _ e => .ok (.new p) e
          | _ => .bad
        | .ex c' ns xs _ => match forceAll ts e with
          | .ok _ e => .ex c' ns xs e
          | _ => .bad
        | _ => .bad) Q) (x dx : Addr) (h1 : H x = none) (h2 : H dx = none) (h3 : dx ≠ x) :
    spIO (y.ct X) (np + 1) F (.ref x :: vs) (upd (upd H dx (.own x)) x (.ins (y.cm c) dx [])) (fun v H2 => v = .non ∧ Q (.ref x) H2) (WE y.W σ) := by
  cases z : lookAll ts e with
  | none => rw [z] at q; exact q.elim
  | some ds =>
    rw [z] at q
    dsimp only at q
    obtain ⟨e2, z2⟩ := lookAll_force z
    obtain ⟨Hk2, k2, r2, rl⟩ := RVs.force re rs z2
    have ex : Ex H (upd (upd H dx (.own x)) x (.ins (y.cm c) dx [])) := (Ex.new h2).trans (Ex.new (by rw [upd_ne (Ne.symm h3)]; exact h1))
    refine ⟨by rw [List.length_cons, hl], x, vs, .ins c [] [], ds, Hk2, H, rfl, ex, r2.hk.trans ex, r2.hk.back h1, ⟨h1, dx, [], by rw [upd_same]; rfl, by rw [upd_ne h3, upd_same], rfl, .nil, h2⟩, rl, ?_⟩
    have nosl : ∀ {e2 : Env} {Hk2 : Hp}, RE (y.ct X) y.xa G e2 σ Hk2 H → ∀ (i : Nat) (d' : D), e2[i]? = some (.ow d') → σ[i]? ≠ some (some (.ref x)) := fun r2 i d' hi hs => by
      obtain ⟨_, oa⟩ := r2.owAt hi hs
      obtain ⟨u, hu, _⟩ := oa.at
      rw [h1] at hu
      cases hu
    cases zF : F (.ins c [] [] :: ds) with
    | bad => rw [zF] at q; exact q.elim
    | ok nw d p =>
      rw [zF] at q
      cases nw with
      | true => exact q.elim
      | false =>
        cases d with
        | non =>
          dsimp only at q ⊢
          intro v Hk' H' kx x1 x2 h0 oa hv bk
          have bk : Rp (y.ct X) Hk' .non v := bk
          refine ⟨by unfold Rp at bk; exact bk, ?_⟩
          by_cases nm : noMutI p = true
          · rw [if_pos nm] at q
            have eK : Ex Hk Hk' := k2.ex.trans kx.ex
            have le : Ex (keepH Hk Hk') Hk' := keepH_le eK
            refine q (.ref x) (keepH Hk Hk') H' ⟨keepH_ex, fun b o g1 g2 => ?_⟩ ((re.ext x2).know keepH_ex (le.trans x1) fun i d' a hi hs => ?_) ⟨x, rfl, le.back h0, ?_, nosl re⟩
            · cases z4 : Hk2 b with
              | some u => exact k2.new b u z4 g2
              | none => exact r2.g.back (kx.new b o (le b o g1) z4)
            · obtain ⟨g1, g2⟩ := re.owAt hi hs
              obtain ⟨u, hu, iu⟩ := g2.at
              unfold keepH
              rw [g1]
              dsimp only
              cases z4 : Hk' a with
              | none => rfl
              | some w =>
                have := x2 a u hu
                rw [x1 a w z4] at this
                cases this
                cases u <;> first | rfl | exact iu.elim
            · cases p with
              | ins c3 ns xs =>
                obtain ⟨g, dx3, vs3, m1, m2, m3, m4, m5⟩ := oa
                exact ⟨r2.g.back g, dx3, vs3, m1, m2, m3, rpl_keep eK nm m4, r2.g.back m5⟩
              | _ => cases nm
          · rw [if_neg nm, z2] at q
            obtain ⟨r3, k3⟩ := r2.back kx x1 x2
            exact q (.ref x) Hk' H' (k2.trans k3) r3 ⟨x, rfl, h0, oa.gmono r2.g, nosl r2⟩
        | _ => exact q.elim
    | ex c' ns xs p =>
      rw [zF] at q
      dsimp only at q ⊢
      rw [z2] at q
      intro cls dd Hk' H' kx x1 x2 h0 oa rx
      obtain ⟨r3, k3⟩ := r2.back kx x1 x2
      exact q cls dd Hk' H' (k2.trans k3) r3 rx
theorem px_make {x : Str} {c : Nat} {F : List D → Rf} (M : CK X.prog X.w X.K X.mg X.base y.cm x c k np F) (hr : Room kk X.A) (tk : Takes X y.W) (ha : PAs X y (e :: es) ma) (hn : Many ma np := by repeat first | exact many_nil | refine many_cons ?_) (hk : k + 1 ≤ kk := by decide) (hg : Gl X x := by rfl) (hdb : (x == ("__debug__" : Str)) = false := by decide)
    (he : starEach (e :: es) X.env = (false, eval e X.env) :: starEach es X.env := by rfl) (hpl : (backTo pos (starEach es X.env)).any (·.1) = false := by rfl) :
    PX X y (.Call (.Name x p) (e :: es) [] pos) (mMake c F ma) := by
  obtain ⟨f, fd, ps, mk, hp, FO, hb, hm⟩ := M.ex
  refine ⟨⟨fun pins s σ H Q I h => ?_⟩⟩
  refine wpAny_Call_Name_kw (ld_glob I hg hm ?_ hdb)
  have h2 : tA X y ma σ H (fun vs H1 => ∀ z dx, H1 z = none → H1 dx = none → dx ≠ z → spIO (y.ct X) (np + 1) F (.ref z :: vs) (upd (upd H1 dx (.own z)) z (.ins (y.cm c) dx [])) (fun v H2 => v = .non ∧ Q (.ref z) H2) (WE y.W σ)) := by
    obtain ⟨env, Hk, G, re, q⟩ := h
    exact ⟨env, Hk, G, re, pa_bindN hn q fun ts e1 vs Hk1 H1 k1 r1 rs hl q1 z dx g1 g2 g3 => make_go hn r1 rs (by rw [← rs.len]; exact hl) q1 z dx g1 g2 g3⟩
  refine PySem.W.callWith_K (h₀ := X.base) I.ok.mod.kin mk.kp (thn (ha.pa.run pos pins s σ H _ I h2) fun us s1 ⟨vs, H1, I1, r, q⟩ => ⟨I1.kIn, ?_⟩) he hpl
  exact run_makeS mk FO (hr.mono hk) hb (passAt tk σ) I1 r q
theorem px_val (h : PX X y e m) : PX X y e (mVal m) := by
  refine ⟨PE_imp h.pe fun σ H Q ⟨env, Hk, G, re, q⟩ => ⟨env, Hk, G, re, po_bind q fun t e1 v Hk1 H1 k1 r1 rt q1 => ?_⟩⟩
  obtain ⟨Hk2, k2, r2, rv⟩ := rt.settle r1
  exact q1 v Hk2 H1 k2 r2 rv.rt
end
end VM

set_option Elab.async false
set_option linter.all false
set_option maxRecDepth 100000
set_option maxHeartbeats 1000000
/-! VM N: == by an own __eq__; enumerate of tuples; tuple.index; any, all of numbers -/
namespace VM
open PySem PySem.Spec PyProof.Rows L2
/-! ### a == b, instances -/
section
variable {X : Cx} {y : Y} {a b e : Expr} {m m1 m2 : M Tk} {ma : M (List Tk)} {pos p : Pos} {k kk : Nat}
def rEqO (C : Ct) (c : Nat) (F : List D → Rf) : R2 := fun x y H Q => ∃ a b dx dy fs gs, x = .ref a ∧ y = .ref b ∧ H a = some (.ins (C.cm c) dx fs) ∧ H b = some (.ins (C.cm c) dy gs) ∧
  spF C 2 F [.ref a, .ref b] H (fun v H' => ∃ k, v = .bl k ∧ Q (.bl k) H') E0
structure CE (P : Program) (w : World) (K : PySem.W.Frag) (mg : Str → Option Value) (base : Heap) (cm : Nat → Addr) (k : Nat) (tab : Tab) : Prop where
  ok : ∀ x ∈ tab, ∃ f fd ps j, j ≤ k ∧ FnOk P w K mg base (L2.CX P w) j f fd ps (spF ⟨K, cm⟩ 2 x.2) ∧ PySem.W.findIn K (.ref (cm x.1)) "__eq__" = some (some (.ref f)) ∧ PySem.W.isFn K (.ref f) = true ∧ Binds K fd ps []
theorem op_eqO {c : Nat} {F : List D → Rf} {f : Addr} {fd : FuncData} {ps : List Str} (FO : FnOk X.prog X.w X.K X.mg X.base (L2.CX X.prog X.w) k f fd ps (spF (y.ct X) 2 F))
    (hs : PySem.W.findIn X.K (.ref (y.cm c)) "__eq__" = some (some (.ref f))) (hf : PySem.W.isFn X.K (.ref f) = true) (hb : Binds X.K fd ps []) (hr : Room k X.A) : OpR X (compareOp .Eq) (rEqO (y.ct X) c F) := by
  intro pins s σ H x y' v u Q I rx ry hq
  obtain ⟨a, b, dx, dy, fs, gs, rfl, rfl, ha, hb', hsp⟩ := hq
  cases rx
  cases ry
  obtain ⟨mA, J, _⟩ := ins_get I.hok ha
  obtain ⟨mB, J', _⟩ := ins_get I.hok hb'
  obtain ⟨od, J, _⟩ := J.look
  obtain ⟨od', J', _⟩ := J'.look
  obtain ⟨m, hF⟩ := I.fr
  show wpAny (model X.prog X.w) X.A (richCompare .Eq (.ref a) (.ref b)) (EP X pins σ Q) X.xe s
  refine PySem.W.cmp_K (op := .Eq) (tb := .ref (y.cm c)) hr.units0 hF I.ok.mod.kin J J'.type (by simp [PySem.W.notFirst]) hs hf ?_
  have hl := FO.len _ _ _ _ hsp
  have r2 : Vals [V.ref a, V.ref b] [Value.ref a, Value.ref b] := .cons rfl (.cons rfl .nil)
  refine wpAny_call (codeAny_mono (FO.run X.A X.stack s H ⟨[.ref a, .ref b], []⟩ [.ref a, .ref b] [.ref a, .ref b] _ _ hr I.env0 (by
    have := hb s [.ref a, .ref b] I.kIn (by simpa using hl)
    simpa using this) r2 hsp) fun r s' hq => ?_)
  cases r with
  | error e => exact passL pins σ H s e s' I hq
  | ok fl =>
    cases fl with
    | ret w =>
      obtain ⟨z, H', I', rz, kb, ez, ex⟩ := I.after hq
      subst ez
      cases rz
      exact ⟨.bl kb, H', I', rfl, ex⟩
    | next => exact False.elim hq
    | brk => exact False.elim hq
    | cont => exact False.elim hq
def cEqO (tab : Tab) : D → D → Option Bool
  | .ins c ns xs, .ins c' ns' xs' => if c = c' then match tabF tab c with
    | some F => match F [.ins c ns xs, .ins c' ns' xs'] with
      | .ok _ (.bl b) _ => some b
      | _ => none
    | none => none
    else none
  | a, b => cEq a b
def rEqG2 (X : Cx) (y : Y) (tab : Tab) : R2 := fun x y' H Q => rEqD X.K x y' H Q ∨ ∃ z ∈ tab, rEqO (y.ct X) z.1 z.2 x y' H Q
theorem op_eqG2 {tab : Tab} (T : CE X.prog X.w X.K X.mg X.base y.cm k tab) (hr : Room kk X.A) (hk : k ≤ kk) : OpR X (compareOp .Eq) (rEqG2 X y tab) := by
  intro pins s σ H x y' v u Q I rx ry hq
  rcases hq with hq | ⟨z, hz, hq⟩
  · exact op_eqD hr.units pins s σ H x y' v u Q I rx ry hq
  · obtain ⟨f, fd, ps, j, hj, FO, h1, h2, h3⟩ := T.ok z hz
    exact op_eqO FO h1 h2 h3 (hr.mono (Nat.le_trans hj hk)) pins s σ H x y' v u Q I rx ry hq
theorem eqO_ok {tab : Tab} : Op2 X y (lift (cEqO tab)) (rEqG2 X y tab) := by
  intro Hk H a b v w t Q e h pa pb q
  have other : lift cEq a b = some t → rEqG2 X y tab v w H Q := fun h => .inl (eq_ok Hk H a b v w t Q e h pa pb q)
  unfold lift at h
  cases zb : cEqO tab a b with
  | none => rw [zb] at h; cases h
  | some k0 =>
  rw [zb] at h
  cases h
  unfold cEqO at zb
  split at zb
  · rename_i c ns xs c' ns' xs'
    split at zb
    · rename_i hc
      subst hc
      cases zt : tabF tab c with
      | none => rw [zt] at zb; cases zb
      | some F =>
        rw [zt] at zb
        dsimp only at zb
        have ra := pa.all e
        have rb := pb.all e
        have ra' := ra
        have rb' := rb
        unfold Rp at ra rb
        obtain ⟨p1, d1, vs1, rfl, h1, _⟩ := ra
        obtain ⟨p2, d2, vs2, rfl, h2, _⟩ := rb
        refine .inr ⟨(c, F), tab_mem zt, p1, p2, d1, d2, _, _, rfl, rfl, h1, h2, rfl, [.ins c ns xs, .ins c ns' xs'], H, Ex.refl _, .cons ra' (.cons rb' .nil), ?_⟩
        cases zF : F [.ins c ns xs, .ins c ns' xs'] with
        | bad => rw [zF] at zb; cases zb
        | ex _ _ _ _ => rw [zF] at zb; cases zb
        | ok nw d p =>
          rw [zF] at zb
          cases d with
          | bl kb =>
            cases zb
            rw [show (c, F).2 [.ins c ns xs, .ins c ns' xs'] = Rf.ok nw (.bl k0) p from zF]
            dsimp only
            intro v' Hk' H' kx x1 x2 bk
            have ev : v' = .bl k0 := by
              unfold Bk at bk
              split at bk
              · obtain ⟨_, _, _, oa⟩ := bk; exact oa.elim
              · unfold Rp at bk; exact bk
            exact ⟨k0, ev, q _ _ ⟨x2, Hk, Kx.refl _ _, e.trans x2, rp_bl⟩⟩
          | _ => cases zb
    · cases zb
  · exact other (by unfold lift; rw [zb])
theorem pb_eqo {tab : Tab} (T : CE X.prog X.w X.K X.mg X.base y.cm k tab) (hr : Room kk X.A) (ha : PX X y a m1) (hb : PX X y b m2) (hk : k ≤ kk := by decide) : PB X y (.Compare a [.Eq] [b] pos) (mCmp (cEqO tab) m1 m2) := pb_cmp (op_eqG2 T hr hk) eqO_ok ha hb (nomark _)
theorem px_eqo {tab : Tab} (T : CE X.prog X.w X.K X.mg X.base y.cm k tab) (hr : Room kk X.A) (ha : PX X y a m1) (hb : PX X y b m2) (hk : k ≤ kk := by decide) : PX X y (.Compare a [.Eq] [b] pos) (mBin (lift (cEqO tab)) m1 m2) := px_cmp (op_eqG2 T hr hk) eqO_ok ha hb (nomark _)
end
/-! ### enumerate(tuple) -/
theorem meets_enum_new1 {v : Value} {o : Obj} {H : Heap → Prop} (B : Begins v o H) :
    Meets (Builtin.«enumerate.__new__» ⟨[.type "enumerate", v], []⟩) (fun _ R s => H s.heap ∧
      R (.ok (.ret (.ref (s.heap.push o).objs.size))) { s with heap := (s.heap.push o).push { cls := .type "enumerate", data := .fields #[.none, .bool false, .ref s.heap.objs.size, rawInt 0, .none, .none] } }) :=
  .of_wp fun prog w A R s h => by
    obtain ⟨hp, g, d, tk, os⟩ := s; obtain ⟨h1, h⟩ := h
    have hsub := sub_enumerate
    have q1 : ∀ {A' : Around} {E : Value → Shared → Prop} {Q : Value → Shared → Prop}, Q (.ref hp.objs.size) ⟨hp.push o, g, d, tk, os⟩ → wpAny (model prog w) A' (pyIter v) Q E ⟨hp, g, d, tk, os⟩ :=
      fun q => B.iter prog w _ _ ⟨hp, g, d, tk, os⟩ _ h1 q
    wp_walk using q1
    refine wpAny_stack_any fun st => wpAny_pure ?_
    split
    · rename_i c _ _ _ _ _
      cases (c == Value.type "enumerate")
      · wp_walk using q1
        exact ⟨_, rfl, h⟩
      · wp_walk using q1
        exact ⟨_, rfl, h⟩
    · wp_walk using q1
      exact ⟨_, rfl, h⟩
section
variable {prog : Program} {w : World} {A : Around} {E : Value → Shared → Prop} {s : Shared}
theorem enum_begins1 {v : Value} {o : Obj} {H : Heap → Prop} {Q : Value → Shared → Prop} (B : Begins v o H) (h1 : H s.heap)
    (h : ∀ h', IsEnum h' (s.heap.objs.size + 1) s.heap.objs.size 0 .none → h'.get? s.heap.objs.size = some o → h'.objs.size = s.heap.objs.size + 2 →
      (∀ b o, s.heap.get? b = some o → h'.get? b = some o) → Q (.ref (s.heap.objs.size + 1)) { s with heap := h' }) :
    wpAny (model prog w) A (call (.type "enumerate") [v]) Q E s := by
  refine callType_new F.called_enumerate (by decide) (F.typeCall_enumerate_1 _) (F.newCall_enumerate_1 _) (fun obj => F.args_object_init_2 obj _) F.entry_enumerate_new
    (meets_enum_new1 B) ⟨h1, ?_⟩
  have hz : (s.heap.push o).objs.size = s.heap.objs.size + 1 := Heap.size_push ..
  show _ ∧ _
  rw [hz]
  have he : IsEnum ((s.heap.push o).push { cls := .type "enumerate", data := .fields #[.none, .bool false, .ref s.heap.objs.size, rawInt 0, .none, .none] }) (s.heap.objs.size + 1) s.heap.objs.size 0 .none := by
    have := Heap.get?_push_size (s.heap.push o) (o := { cls := .type "enumerate", data := .fields #[.none, .bool false, .ref s.heap.objs.size, rawInt 0, .none, .none] }) rfl
    rw [hz] at this; exact this
  refine ⟨⟨_, he, rfl⟩, h _ he (Heap.get?_push_of_some _ (Heap.get?_push_size _ B.free)) (by rw [Heap.size_push, hz]) fun b o x => Heap.get?_push_of_some _ (Heap.get?_push_of_some _ x)⟩
end
section
variable {prog : Program} {w : World} {A : Around} {E : Value → Shared → Prop} {s : Shared}
theorem wpAny_pyNext_enum_endT {e it l : Addr} {i : Nat} {items : Array Value} {old : Value} {Q : Option Value → Shared → Prop} (hh : A.handled = none)
    (he : IsEnum s.heap e it i old) (hit : s.heap.IsTupleIter it l i) (hl : s.heap.IsTuple l items) (hx : items[i]? = none)
    (hQ : ∀ h', Heap.ExtBut it s.heap h' → Q none { s with heap := h' }) : wpAny (model prog w) A (pyNext (.ref e)) Q E s := by
  have hT : s.TypeIs (.ref e) "enumerate" := ⟨_, he, rfl⟩
  unfold pyNext
  refine wpAny_bind (wpAny_attempt (wpAny_callSpecial?_slot (name := Str.ofString "__next__") hT F.slot_enumerate_next
    (wpAny_call_entry F.slot_enumerate_next hT F.entry_enumerate_next ?_ (F.args_enumerate_next_1 _))))
  show wpAny _ _ (field (.ref e) 2 >>= _) _ _ _
  refine wpAny_bind (wpAny_field he rfl (x := .ref it) rfl ?_)
  refine wpAny_bind (wpAny_nextOf_tuple_end hh hit hl hx fun h' x he' hx' => ?_)
  obtain ⟨o, ho, hc⟩ := hx'
  refine wpAny_bind (wpAny_isInstance (T := "StopIteration") (b := true) ⟨o, ho, hc⟩ isSubtype_stop ?_)
  exact wpAny_pure (hQ _ he')
end
def IteT (K : PySem.W.Frag) (a : Addr) : It :=
  ⟨fun i H => ∃ (xs : List V) (x : V), SqT K H a xs ∧ xs[i]? = some x, fun i H v H' => ∃ T x, v = .ref T ∧ H T = none ∧ H' = upd H T (.tup [.int (i : Nat), x]) ∧ ∀ xs, SqT K H a xs → xs[i]? = some x, fun i H => ∃ xs : List V, SqT K H a xs ∧ xs.length ≤ i⟩
theorem turn_enumT {P : Program} {w : World} {K : PySem.W.Frag} {elts : List Expr} {kk : Nat} {tpos : Pos} (a e it : Addr) :
    Turn P w K (.Tuple elts kk tpos) (IteT K a) [e, it] e (fun i h => (∃ old, IsEnum h e it ((i : Nat) : Int) old) ∧ h.IsTupleIter it a i ∧ e ≠ it) where
  mem := by simp
  obj := fun i h st b hb => by
    obtain ⟨⟨old, he⟩, ⟨o, ho, hc, hd⟩, _⟩ := st
    have e' : b = e ∨ b = it := by simpa using hb
    rcases e' with z | z
    · rw [z]; exact ⟨_, he, fun v q => nomatch q⟩
    · rw [z]; exact ⟨o, ho, fun v q => by rw [hd] at q; cases q⟩
  keep := fun i h h' st k => let ⟨⟨old, he⟩, hi, hne⟩ := st; ⟨⟨old, k e (by simp) _ he⟩, hi.at fun o q => k it (by simp) o q, hne⟩
  item := by
    intro X hP hw hK hc i pins s σ H E I hf st hg
    subst hP hw hK
    obtain ⟨⟨old, he⟩, hit, hne⟩ := st
    obtain ⟨xs, x, hq, hx⟩ := hg
    obtain ⟨its, rv, p, hz⟩ := I.tuple hq
    obtain ⟨u, hu, ru⟩ := rv.get hx
    have hel : e < s.heap.objs.size := Heap.lt_size he
    have hil : it < s.heap.objs.size := by obtain ⟨_, q, _⟩ := hit; exact Heap.lt_size q
    have hai : a ≠ it := fun z => by
      obtain ⟨o, h1, h2, _⟩ := hit
      obtain ⟨o', h3, h4, _⟩ := p
      rw [z, h1] at h3
      cases h3
      rw [h2] at h4
      simp at h4
    have hea : e ≠ a := fun z => by
      obtain ⟨o', h3, h4, _⟩ := p
      have he' := he
      unfold IsEnum at he'
      rw [z, h3] at he'
      cases he'
      simp at h4
    have hlt : i < its.toArray.size := by
      have := (List.getElem?_eq_some_iff.mp hu).1
      simpa using this
    refine wpAny_pyNext_enum_itemC (fp := [it, a]) (Draws.tuple (A := X.A.in1) (I.ok.hd hc) it a hai its.toArray) he ⟨hit, p⟩ hlt hne (by simp [hne, hea]) fun z h' tk hP ho hit' hT hsz hk => ?_
    have ez : z = u := by
      have h1 : its[i]? = some z := by simpa using hP
      rw [hu] at h1
      cases h1
      rfl
    subst ez
    refine ⟨_, rfl, wpAny_letOwnedTupleGo_enum (s := { s with heap := h', toks := tk + 1 }) ho fun h'' he' sb => ?_⟩
    have hT2 : h''.get? s.heap.objs.size = some { cls := .type "tuple", data := .seq #[.int i tk, z] } := (sb.2 _ (Nat.ne_of_gt hel)).trans hT
    have new : ObjOk X.prog X.w (upd H s.heap.objs.size (.tup [.int (i : Nat), x])) h'' s.heap.objs.size (.tup [.int (i : Nat), x]) :=
      ⟨by show 2 ≤ sizeLine; decide, [.int i tk, z], .cons ⟨_, rfl⟩ (.cons ru .nil), ⟨_, hT2, rfl, _, rfl⟩⟩
    have I1 : Inv X pins σ (upd H s.heap.objs.size (.tup [.int (i : Nat), x])) { s with heap := h'', toks := tk + 1 } :=
      I.turnedNew (ch := [e, it]) (fun b ob hb q => (sb.2 b (fun z => hb (by simp [z]))).trans (hk b ob (fun z => hb (by simp [z])) (fun z => hb (by simp [z])) q)) hf (Nat.le_refl _) new
    refine ⟨.ref s.heap.objs.size, _, I1, rfl, ⟨_, x, rfl, I.hok.fresh (Nat.le_refl _), rfl, fun ys hy => by rw [I.tuple_inj hy hq]; exact hx⟩, ⟨⟨z, ?_⟩, hit'.1.at fun o q => (sb.2 it (Ne.symm hne)).trans q, hne⟩, fun b hb => ?_⟩
    · have e1 : ((i + 1 : Nat) : Int) = (i : Int) + 1 := by omega
      rw [e1]; exact he'
    · have hb' : b < s.heap.objs.size := by
        have e' : b = e ∨ b = it := by simpa using hb
        rcases e' with z | z
        · rw [z]; exact hel
        · rw [z]; exact hil
      rw [upd_ne (Nat.ne_of_lt hb')]
      exact (hf b hb).1
  done := by
    intro X hP hw hK hc i pins s σ H E I hf st hg
    subst hP hw hK
    obtain ⟨⟨old, he⟩, hit, hne⟩ := st
    obtain ⟨xs, hq, hx⟩ := hg
    obtain ⟨its, rv, p, hz⟩ := I.tuple hq
    obtain ⟨f0, f1, f2, f3, f4, f5⟩ := hf it (by simp)
    have hl := rv.length
    have hai : a ≠ it := fun z => by
      obtain ⟨o, h1, h2, _⟩ := hit
      obtain ⟨o', h3, h4, _⟩ := p
      rw [z, h1] at h3
      cases h3
      rw [h2] at h4
      simp at h4
    exact wpAny_pyNext_enum_endT (I.ok.hd hc) he hit p (by simp; omega) fun h' eb => ⟨rfl, I.turned (t' := s.toks) (fun b o hb q => eb b o hb q) f0 f1 f3 f4 f5⟩
  self := fun A i s Q E st h => let ⟨⟨_, he⟩, _⟩ := st; wpAny_pyIter_enum he h
def iEnumA (K : PySem.W.Frag) (ta : TA) : TI := fun σ H R => ta σ H fun vs H1 => ∃ a xs, vs = [.ref a] ∧ ((SqL K H1 a xs ∧ R (Ite K a) H1) ∨ (SqT K H1 a xs ∧ R (IteT K a) H1))
theorem pi_enumA {X : Cx} {e : Expr} {ta : TA} {p pos tpos : Pos} {elts : List Expr} {kk : Nat} (hg : Gl X "enumerate") (hm : X.mg "enumerate" = none) (ha : PA X [e] ta) (hs : starEach [e] X.env = [(false, eval e X.env)] := by rfl) :
    PI X (.Tuple elts kk tpos) (.Call (.Name "enumerate" p) [e] [] pos) (iEnumA X.K ta) := by
  refine ⟨fun pins s σ H R I h => ?_⟩
  refine Call_ (ld_blt I hg hm boot_enumerate (PyProof.Rows.callWith_type1 (thn (ha.run pos pins s σ H _ I h) fun us s1 ⟨vs, H1, I1, r1, q1⟩ => ?_) hs rfl))
  obtain ⟨a, xs, ex, q⟩ := q1
  subst ex
  cases r1 with
  | cons r rr =>
    cases rr
    cases r
    rcases q with ⟨hq, q⟩ | ⟨hq, q⟩
    · obtain ⟨its, rv, p', hz⟩ := I1.list hq
      refine call_enumerate_list p'.isList fun h' he hit hsz hk => wpAny_pyIter_enum he ?_
      have I2 : Inv X pins σ H1 { s1 with heap := h' } := I1.kept (t' := s1.toks) hk
      refine ⟨s1.heap.objs.size + 1, [s1.heap.objs.size + 1, s1.heap.objs.size], _, _, H1, rfl, I2, turn_enum a (s1.heap.objs.size + 1) s1.heap.objs.size, ⟨⟨.none, he⟩, hit, Nat.succ_ne_self _⟩, fun b hb => ?_, q⟩
      have e' : b = s1.heap.objs.size + 1 ∨ b = s1.heap.objs.size := by simpa using hb
      have hle : s1.heap.objs.size ≤ b := by
        rcases e' with z | z
        · rw [z]; exact Nat.le_add_right _ _
        · rw [z]; exact Nat.le_refl _
      exact I1.fpOk hle (I1.hok.fresh hle)
    · obtain ⟨its, rv, p', hz⟩ := I1.tuple hq
      refine enum_begins1 (begins_tuple a its.toArray) p' fun h' he hit hsz hk => wpAny_pyIter_enum he ?_
      have I2 : Inv X pins σ H1 { s1 with heap := h' } := I1.kept (t' := s1.toks) hk
      refine ⟨s1.heap.objs.size + 1, [s1.heap.objs.size + 1, s1.heap.objs.size], _, _, H1, rfl, I2, turn_enumT a (s1.heap.objs.size + 1) s1.heap.objs.size, ⟨⟨.none, he⟩, ⟨_, hit, rfl, rfl⟩, Nat.succ_ne_self _⟩, fun b hb => ?_, q⟩
      have e' : b = s1.heap.objs.size + 1 ∨ b = s1.heap.objs.size := by simpa using hb
      have hle : s1.heap.objs.size ≤ b := by
        rcases e' with z | z
        · rw [z]; exact Nat.le_add_right _ _
        · rw [z]; exact Nat.le_refl _
      exact I1.fpOk hle (I1.hok.fresh hle)
theorem serv_enumT {C : Ct} {Hk : Hp} {a : Addr} {xs : List D} {vs : List V} (h : Hk a = some (.tup vs)) (r : RpL C Hk xs vs) : Serv C (IteT C.K a) Hk (enumD 0 xs) := by
  intro i Hk1 H e1 e2
  have h1 : SqT C.K H a vs := sqT (e2 _ _ (e1 _ _ h))
  refine ⟨fun d hd => ?_, fun hi => ⟨vs, h1, by rw [enumD_len] at hi; rw [← r.len]; exact hi⟩⟩
  obtain ⟨x, hx, rfl⟩ := enumD_get hd
  obtain ⟨v, hv, rv⟩ := r.get hx
  refine ⟨⟨vs, v, h1, hv⟩, fun z H' hy => ?_⟩
  obtain ⟨T, u, rfl, hT, rfl, hu⟩ := hy
  have := hu vs h1
  rw [hv] at this
  cases this
  rw [Nat.zero_add]
  exact res_tup e2 hT (rpl2 rp_int (rv.mono e1))
def wEnumA : List D → Option (List D)
  | [.lst xs] => some (enumD 0 xs)
  | [.tup xs] => some (enumD 0 xs)
  | [.scr ns] => some (enumD 0 (ns.map .int))
  | _ => none
section
variable {X : Cx} {y : Y} {a b e : Expr} {es : List Expr} {m m1 m2 : M Tk} {ma : M (List Tk)} {pos p tpos : Pos} {k kk : Nat} {elts : List Expr}
theorem pix_enumA (hm : X.mg "enumerate" = none) (ha : PAs X y [e] ma) (hg : Gl X "enumerate" := by rfl) (hs : starEach [e] X.env = [(false, eval e X.env)] := by rfl) :
    PIx X y (.Tuple elts kk tpos) (.Call (.Name "enumerate" p) [e] [] pos) (mWalk wEnumA ma) := by
  refine ⟨PI_imp (pi_enumA hg hm ha.pa hs) fun σ H R ⟨env, Hk, G, re, q⟩ => ⟨env, Hk, G, re, ai_force q fun ds vs xs Hk' H1 hf ex rl qq => ?_⟩⟩
  unfold wEnumA at hf
  split at hf
  · cases hf
    obtain ⟨v, r, rfl, rd, rn⟩ := rl.inv
    have hr : r = [] := List.eq_nil_of_length_eq_zero rn.len.symm
    subst hr
    unfold Rp at rd
    obtain ⟨a, vs', rfl, h1, h2⟩ := rd
    exact ⟨a, vs', rfl, .inl ⟨sqL (ex _ _ h1), qq _ (serv_enum (C := y.ct X) (sqL h1) h2)⟩⟩
  · cases hf
    obtain ⟨v, r, rfl, rd, rn⟩ := rl.inv
    have hr : r = [] := List.eq_nil_of_length_eq_zero rn.len.symm
    subst hr
    unfold Rp at rd
    obtain ⟨a, vs', rfl, h1, h2⟩ := rd
    exact ⟨a, vs', rfl, .inr ⟨sqT (ex _ _ h1), qq _ (serv_enumT (C := y.ct X) h1 h2)⟩⟩
  · cases hf
    obtain ⟨v, r, rfl, rd, rn⟩ := rl.inv
    have hr : r = [] := List.eq_nil_of_length_eq_zero rn.len.symm
    subst hr
    unfold Rp at rd
    obtain ⟨a, rfl, h1⟩ := rd
    exact ⟨a, _, rfl, .inl ⟨ex_l ex h1, qq _ (serv_enum (C := y.ct X) h1 ints_rpl)⟩⟩
  · cases hf
/-! ### t.index(i), numbers -/
def rIxT (K : PySem.W.Frag) : V → List V → Hp → VK → Prop := fun x xs H Q => ∃ p, ∃ ys : List Int, ∃ z j, x = .ref p ∧ xs = [.int z] ∧ SqT K H p (ys.map V.int) ∧ ys[j]? = some z ∧ (∀ m, m < j → ys[m]? ≠ some z) ∧ Q (.int (j : Nat)) H
theorem flat_ints (ys : List Int) : (ys.map V.int).all flatV = true := by
  rw [List.all_map]
  exact List.all_eq_true.mpr fun _ _ => rfl
theorem mt_tup_ixI : MtR X "tuple.index" (rIxT X.K) := by
  intro pins s σ H x xs v us Q I rx rs h
  obtain ⟨p, ys, z, j, rfl, rfl, hq, hy, hno, q⟩ := h
  cases rx
  obtain ⟨u, rfl, t, rfl⟩ := vals1 rs
  obtain ⟨its, r, pl, hz⟩ := I.tuple hq
  obtain ⟨⟨cls, dd, dt, sl⟩, ho, hc, n, hd⟩ := pl
  simp only at hc hd
  subst hc
  subst hd
  have hl : its.toArray.size = ys.length := by rw [List.size_toArray, ← r.length, List.length_map]
  have hj : j < its.toArray.size := by rw [hl]; exact (List.getElem?_eq_some_iff.mp hy).1
  have at' : ∀ (m : Nat) (hm : m < its.toArray.size), ∃ y t', ys[m]? = some y ∧ its.toArray[m] = Value.int y t' := fun m hm => by
    have hm' : m < ys.length := by rw [← hl]; exact hm
    obtain ⟨w, hw, t', hw'⟩ := r.get (i := m) (x := .int ys[m]) (by simp [hm'])
    refine ⟨ys[m], t', List.getElem?_eq_getElem hm', ?_⟩
    have e := (List.getElem?_eq_some_iff.mp hw).2
    rw [← hw', ← e]
    simp
  refine call_meets PySem.F.slot_tuple_index ⟨_, ho, rfl⟩ PySem.F.entry_tuple_index (PySem.F.args_tuple_index_2 _ _) (TI.tuple_indexAt p its.toArray n dd sl (.int z t) (eqU (.int z)) j hj ?_ ?_)
    ⟨ho, fun w hw => mem_eqAt (x := .int z) ⟨t, rfl⟩ rfl r (flat_ints ys) w (by simpa using hw), ⟨.int (j : Nat), H, I.tok _, ⟨_, rfl⟩, q⟩⟩
  · obtain ⟨y, t', h1, h2⟩ := at' j hj
    rw [hy] at h1
    cases h1
    rw [h2]
    show (z == z) = true
    simp
  · intro m hm hmj
    obtain ⟨y, t', h1, h2⟩ := at' m hm
    rw [h2]
    show (y == z) = false
    have := hno m hmj
    rw [h1] at this
    simp
    intro e
    exact this (by rw [e])
end
end VM

set_option Elab.async false
set_option linter.all false
set_option maxRecDepth 100000
set_option maxHeartbeats 4000000
/-! VM O: isinstance of a caught error with attributes; any, all of numbers; t.index; the empty dict -/
namespace VM
open PySem PySem.Spec PyProof.Rows L2
/-! ### isinstance(raised, C) -/
section
variable {prog : Program} {w : World} {A : Around} {E : Value → Shared → Prop} {s : Shared} {K : PySem.W.Frag} {x C : Addr} {ox : Obj} {od : Option Obj}
theorem fo_data {n : Str} {a g : Value} (hc : (PySem.W.clsIn K C).isSome = true) (ha : PySem.W.findIn K (.ref C) n = some (some a)) (hg : PySem.W.specialIn K a "__get__" = some (some g)) (ht : PySem.W.takesIn K a = some true) : PySem.W.findObj K C od n = some (.bind g a) := by
  cases h : PySem.W.clsIn K C with
  | none => rw [h] at hc; cases hc
  | some cd => simp only [PySem.W.findObj, h, ha, hg, ht, Option.bind_some]
/-- e.__class__ is its class -/
theorem class_at {Q : Option Value → Shared → Prop} (B : ExcC K C) (X : K.In s.heap) (I : PySem.W.InstAt s.heap x ox C od) (q : Q (some (.ref C)) { s with toks := s.toks + 1 }) : wpAny (model prog w) A (getAttr? (.ref x) "__class__") Q E s := by
  have cs : (PySem.W.clsIn K C).isSome = true := by
    obtain ⟨cd, e, _⟩ := PySem.W.any_some B.hd
    rw [e]; rfl
  have fo := fo_data (od := od) (n := "__class__") cs B.ha B.hn B.ht
  have gb : ((Value.builtin "BaseException.__getattribute__") == Value.builtin "object.__getattribute__") = false := by decide +kernel
  have gc : (onTheHeap (Value.ref C) && Value.builtin "BaseException.__getattribute__" == Value.builtin "object.__getattribute__") = false := by rw [gb, Bool.and_false]
  cases s with
  | mk hp g d t os =>
  have ty := I.type (M := model prog w)
  have l1 := PySem.W.looks_findIn (M := model prog w) X B.hg
  have l2 := PySem.W.looks_findIn (M := model prog w) X B.hk
  have l3 := PySem.W.looks_find (M := model prog w) X I fo
  have isb : PySem.W.Looks (model prog w) hp (isInstance (.ref x) (.type "BaseException")) true := ty.andThen (PySem.W.looks_subIn X B.hs)
  unfold getAttr? getAttrBy? getAttrBy
  refine wpAny_bind (wpAny_mkText (wpAny_bind (wpAny_attempt (wpAny_holding (wpAny_bind (ty.at (wpAny_bind (l1.at ?_))))))))
  show wpAny _ _ (ite (_ = true) _ _) _ _ _
  rw [gc, if_neg (by simp)]
  unfold getAttrByItsOwn hookBefore
  apply wpAny_bind
  rw [if_pos (by rfl)]
  apply l2.at
  apply wpAny_bind
  apply wpAny_attempt
  apply wpAny_holding
  unfold callGetattribute
  rw [show (false && onTheHeap (Value.builtin "BaseException.__getattribute__")) = false from rfl, if_neg (by simp)]
  unfold boundAndCalled
  rw [F.excAttr_ValueError.ga.bind (.ref x)]
  apply wpAny_bind
  apply wpAny_pure
  show wpAny _ _ (call (.builtin "BaseException.__getattribute__") [.ref x, .str "__class__" t]) _ _ _
  apply wpAny_call
  refine codeAny_call_builtin F.excAttr_ValueError.ga.plain F.entry_bexc_ga ?_
  refine @PySem.W.check_slot (model prog w) _ _ ⟨hp, g, d, t + 1, os⟩ "BaseException.__getattribute__" "BaseException" "__getattribute__" (.ref x) [.str "__class__" t] [] _ (by decide +kernel) (by decide +kernel) isb (F.args_bexc_ga _ _) ?_
  unfold Builtin.«object.__getattribute__»
  refine wpAny_bind (wpAny_of_eq (a := ((Value.ref x : Value), [Value.str "__class__" t])) (by first | rfl | (simp only [slotArgs]; rfl)) ?_)
  apply wpAny_bind
  apply wpAny_pure
  apply wpAny_bind
  apply ty.at
  apply wpAny_bind
  apply l3.at
  show wpAny _ _ (holding [Value.builtin "object.__class__"] (call (.builtin "getset_descriptor.__get__") [.builtin "object.__class__", .ref x, .ref C]) >>= ret) _ _ _
  refine wpAny_bind (wpAny_holding (wpAny_call (PySem.W.class_get (s := ⟨hp, g, d, t + 1, os⟩) (ox := ox) (od := od) X I B.hm ?_)))
  apply wpAny_pure
  show wpAny _ _ (handedOut (.ref C)) _ _ _
  rw [PySem.W.handedOut_of (v := .ref C) rfl]
  first
    | exact wpAny_pure (wpAny_pure q)
    | exact wpAny_pure q
    | exact wpAny_pure (wpAny_bind (wpAny_pure (wpAny_pure q)))
/-- an error at hand, asked for its class -/
theorem kit_err (B : ExcC K C) : PySem.W.KitX K (.ref x) (.ref C) (fun h => PySem.W.InstAt h x ox C od) := by
  obtain ⟨cd, hcd, _⟩ := PySem.W.any_some B.hd
  have sp : ∃ a b u, K.lookup C = some ⟨a, b, .cls cd, u⟩ := by
    unfold PySem.W.clsIn at hcd
    split at hcd
    · rename_i a b cd' u ho
      cases hcd
      exact ⟨a, b, u, ho⟩
    · cases hcd
  obtain ⟨a, b, u, ho⟩ := sp
  constructor
  · exact fun _ _ _ I => I.type
  · intro M h X _ A' Q' E' s' k q
    unfold isType loadHead
    exact wpAny_bind (wpAny_loadPart (k _ _ (X _ _ ho)) (wpAny_pure q))
  · intro h tp dd its n sl X htp
    apply Bool.eq_false_iff.mpr
    intro q
    cases Value.ref.inj (beq_iff_eq.mp q)
    have z := (X _ _ ho).symm.trans htp
    cases z
  · exact fun X I q => class_at B X I q
end
def rIsX (K : PySem.W.Frag) (a : Addr) (cls : Value) (d : Option Addr) : List V → Hp → VK → Prop := fun xs H Q => ∃ (c : V) (cv : Value) (C : Addr) (b : Bool), xs = [.ref a, c] ∧ ClsV c cv ∧ cls = .ref C ∧ ExcC K C ∧ (∀ dd, d = some dd → ∃ fs, H dd = some (.xd fs)) ∧ PySem.W.kitOne K (.ref C) cv = some b ∧ Q (.bl b) H
theorem call_isX {X : Cx} {a : Addr} {cls : Value} {d : Option Addr} {oe : Obj} {pn : List (Addr × Obj)} (hz : Zc cls d oe) (hf : ∃ vs, oe.data = .fields vs) : CallR (X.suite a ((a, oe) :: pn)) (.builtin "isinstance") (rIsX X.K a cls d) := by
  intro pins s σ H xs us Q I r h
  obtain ⟨c, cv, C, b, rfl, hcv, rfl, B, hd, e, q⟩ := h
  cases r with
  | cons rx rr =>
    cases rr with
    | cons rt rr =>
      cases rr
      cases rx
      have ec : _ = cv := hcv.eq rt
      subst ec
      obtain ⟨hget, _⟩ := I.pin (a, oe) (List.mem_append.mpr (.inl List.mem_cons_self))
      obtain ⟨vs, hv⟩ := hf
      have nc : PySem.W.notCls oe = true := by unfold PySem.W.notCls; rw [hv]
      have J : ∃ od, PySem.W.InstAt s.heap a oe C od := by
        cases d with
        | none => exact ⟨none, hget, hz.1, nc, by rw [hz.2]; trivial⟩
        | some dd =>
          obtain ⟨fs, hfs⟩ := hd dd rfl
          obtain ⟨mA, hns, hr⟩ : ObjOk X.prog X.w H s.heap dd (.xd fs) := I.hok dd _ hfs
          obtain ⟨od, ho, _⟩ := lookIn_ns hns
          exact ⟨some od, hget, hz.1, nc, by rw [hz.2]; exact ho⟩
      obtain ⟨od, J⟩ := J
      exact PySem.W.kia_one (kit_err B) I.kIn J e (fun z => nomatch z) fun tk => ⟨.bl b, H, I.kept (t' := tk) fun _ _ z => z, rfl, q⟩
/-- isinstance(e, c), e the name of slot i that holds the error at hand -/
def mIsX (sub : Nat → D → Option Bool) (i : Nat) (mc : M Tk) : M Tk := fun env => match env[i]? with
  | some (.xv _ _ _) => mBind mc (fun t env => match env[i]? with
    | some (.xv c _ _) => match look t env with
      | some d => if isT d = true then mOf ((sub c d).map fun b => .val (.bl b)) env else .bad
      | none => .bad
    | _ => .bad) env
  | _ => .bad
structure SubK (K : PySem.W.Frag) (cm : Nat → Addr) (sub : Nat → D → Option Bool) : Prop where
  ok : ∀ c k b cv, sub c k = some b → valT cm k = some cv → PySem.W.kitOne K (.ref (cm c)) cv = some b
  xc : ∀ c k b, sub c k = some b → ExcC K (cm c)
theorem px_isX {X : Cx} {y : Y} {a : Addr} {oe : Obj} {cls : Value} {d : Option Addr} {pn : List (Addr × Obj)} {i : Nat} {p p2 pos : Pos} {x : Str} {c : Expr} {mc : M Tk} {sub : Nat → D → Option Bool} (S : SubK X.K y.cm sub) (hz : Zc cls d oe) (hf : ∃ vs, oe.data = .fields vs)
    (hm : X.mg "isinstance" = none) (he : PE (X.suite a ((a, oe) :: pn)) (.Name x p) (tVar i)) (hc : PX (X.suite a ((a, oe) :: pn)) (ySu y a cls d) c mc)
    (hg : Gl X "isinstance" := by rfl) (hs : starEach [.Name x p, c] X.env = (false, eval (.Name x p) X.env) :: starEach [c] X.env := by rfl) (hs2 : starEach [c] X.env = [(false, eval c X.env)] := by rfl) (hpl : (backTo pos (starEach [c] X.env)).any (·.1) = false := by rfl) :
    PX (X.suite a ((a, oe) :: pn)) (ySu y a cls d) (.Call (.Name "isinstance" p2) [.Name x p, c] [] pos) (mIsX sub i mc) := by
  refine ⟨PE_imp (pe_callB (X := X.suite a ((a, oe) :: pn)) (call_isX hz hf) hg hm (by decide +kernel) (pa_cons he (pa_cons hc.pe pa_nil hs2) hs) (he := hs) (hpl := hpl)) fun σ H Q ⟨env, Hk, G, re, q⟩ => ?_⟩
  unfold mIsX at q
  cases z : env[i]? with
  | none => rw [z] at q; exact q.elim
  | some s =>
    rw [z] at q
    cases s with
    | no => exact q.elim
    | sh _ => exact q.elim
    | ow _ => exact q.elim
    | xv k ns ds =>
      dsimp only at q
      obtain ⟨a', cls', dd, e, hσ, _⟩ := re.xv i k ns ds z
      cases e
      refine ⟨.ref a, hσ, env, Hk, G, re, po_bind q fun t e1 v Hk1 H1 k1 r1 rt q1 => ?_⟩
      cases z1 : e1[i]? with
      | none => rw [z1] at q1; exact q1.elim
      | some s1 =>
        rw [z1] at q1
        cases s1 with
        | no => exact q1.elim
        | sh _ => exact q1.elim
        | ow _ => exact q1.elim
        | xv k ns ds =>
          obtain ⟨a2, cls2, dd2, e2, _, rx⟩ := r1.xv i k ns ds z1
          cases e2
          cases zl : look t e1 with
          | none => rw [zl] at q1; exact q1.elim
          | some dv =>
            rw [zl] at q1
            dsimp only at q1
            by_cases ht : isT dv = true
            · rw [if_pos ht] at q1
              cases zs : sub k dv with
              | none => rw [zs] at q1; exact q1.elim
              | some b =>
                rw [zs] at q1
                obtain ⟨cv, hcv, hv⟩ := isT_v (K := X.K) (cm := y.cm) ht ((rt.look r1 zl).all r1.hk)
                refine ⟨v, cv, y.cm k, b, rfl, hv, rx.1, S.xc k dv b zs, fun dd' hd' => ?_, S.ok k dv b cv zs hcv, q1 _ Hk1 H1 (Kx.refl _ _) r1 (rp_bl (C := (ySu y a cls d).ct (X.suite a ((a, oe) :: pn))) (H := Hk1))⟩
                rcases rx.2 with ⟨_, _, h3⟩ | ⟨d1, vs, h1, h2, _⟩
                · rw [h3] at hd'; cases hd'
                · rw [h1] at hd'; cases hd'; exact ⟨_, h2⟩
            · rw [if_neg ht] at q1; exact q1.elim
/-! ### any, all of numbers -/
def truI : D → Option Bool
  | .int i => some (i != 0)
  | .bl b => some b
  | _ => none
def truIs : List D → Option (List Bool)
  | [] => some []
  | d :: ds => match truI d, truIs ds with
    | some b, some bs => some (b :: bs)
    | _, _ => none
/-- a value that says b -/
def TrV (b : Bool) (v : V) : Prop := v = .bl b ∨ ∃ i : Int, v = .int i ∧ (i != 0) = b
theorem truIs_v {C : Ct} {H : Hp} : ∀ {ds : List D} {vs : List V} {bs : List Bool}, truIs ds = some bs → RpL C H ds vs → Paired TrV bs vs
  | [], _, _, h, r => by
    cases h; unfold RpL at r; subst r; exact .nil
  | d :: ds, _, bs, h, r => by
    obtain ⟨v, vr, rfl, r1, r2⟩ := r.inv
    unfold truIs at h
    cases z1 : truI d with
    | none => rw [z1] at h; cases h
    | some b =>
      cases z2 : truIs ds with
      | none => rw [z1, z2] at h; cases h
      | some bs' =>
        rw [z1, z2] at h
        cases h
        refine .cons ?_ (truIs_v z2 r2)
        cases d with
        | int i => cases z1; unfold Rp at r1; exact .inr ⟨i, r1, rfl⟩
        | bl k => cases z1; unfold Rp at r1; exact .inl r1
        | _ => cases z1
theorem Paired.at {α β : Type} {R : α → β → Prop} : ∀ {xs : List α} {ys : List β} {i : Nat} {y : β}, Paired R xs ys → ys[i]? = some y → ∃ x, xs[i]? = some x ∧ R x y
  | _, _, _, _, .nil, h => by cases h
  | _, _, 0, _, .cons h _, e => by cases e; exact ⟨_, rfl, h⟩
  | _, _, i + 1, _, .cons _ t, e => by simpa using Paired.at t (by simpa using e)
theorem truth_num {prog : Program} {w : World} {A : Around} {bs : List Bool} {vs : List V} {its : List Value} (p : Paired TrV bs vs) (r : Vals vs its) :
    TruthOf prog w A (fun i v => its.toArray[i]? = some v) (fun i => bs.getD i false) := fun i v s Q E hv hq => by
  have hv' : its[i]? = some v := by simpa using hv
  obtain ⟨x, hx, rx⟩ := Paired.at r hv'
  obtain ⟨b, hb, tb⟩ := Paired.at p hx
  have hg : bs.getD i false = b := by rw [List.getD_eq_getElem?_getD, hb]; rfl
  have hq : Q (bs.getD i false) s := hq
  rw [hg] at hq
  rcases tb with rfl | ⟨k, rfl, hk⟩
  · obtain rfl : v = Value.bool b := rx
    exact wpAny_truthy_bool hq
  · obtain ⟨t, rfl⟩ := rx
    exact P.truthy_int (by rw [hk]; exact hq)
section
variable {X : Cx} {y : Y}
def rAnyN (K : PySem.W.Frag) : List V → Hp → VK → Prop := fun vs H Q => ∃ (a : Addr) (bs : List Bool) (xs : List V), vs = [V.ref a] ∧ (SqL K H a xs ∨ SqT K H a xs) ∧ Paired TrV bs xs ∧ Q (.bl (bs.any id)) H
def rAllN (K : PySem.W.Frag) : List V → Hp → VK → Prop := fun vs H Q => ∃ (a : Addr) (bs : List Bool) (xs : List V), vs = [V.ref a] ∧ (SqL K H a xs ∨ SqT K H a xs) ∧ Paired TrV bs xs ∧ Q (.bl (bs.all id)) H
theorem iter_tup {prog : Program} {w : World} {A : Around} {E : Value → Shared → Prop} {s : Shared} {l : Addr} {items : Array Value} {Q : Value → Shared → Prop} (hl : s.heap.IsTuple l items)
    (h : ∀ s₂ : Shared, s₂ = { s with heap := s.heap.push { cls := .type "tuple_iterator", data := .fields #[.ref l, .int 0 0] } } →
      (s₂.heap.IsTupleIter s.heap.objs.size l 0 ∧ s₂.heap.IsTuple l items) → l ≠ s.heap.objs.size → Q (.ref s.heap.objs.size) s₂) : wpAny (model prog w) A (pyIter (.ref l)) Q E s := by
  have hlt : l < s.heap.objs.size := by obtain ⟨_, e, _⟩ := hl; exact Heap.lt_size e
  exact wpAny_pyIter_tuple hl (h _ rfl ⟨⟨_, Heap.get?_push_size _ rfl, rfl, rfl⟩, hl.at fun o e => Heap.get?_push_of_some _ e⟩ (Nat.ne_of_lt hlt))
theorem cr_anyN (hc : X.calm = true) : CallR X (.builtin "any") (rAnyN X.K) := by
  intro pins s σ H vs us Q I r h
  obtain ⟨a, bs, xs, rfl, hs, hp, q⟩ := h
  rw [Vals.ref1 r]
  have fin : ∀ {its : List Value} {h' : Heap} {tk : Nat} {o : Obj}, Vals xs its → (∀ b ob, b ∉ [s.heap.objs.size] → (s.heap.push o).get? b = some ob → h'.get? b = some ob) → EP X pins σ Q (.bool ((List.range its.toArray.size).any fun i => bs.getD i false)) { s with heap := h', toks := tk } := by
    intro its h' tk o rv hk
    refine ⟨.bl _, H, I.kept fun b ob eo => hk b ob (fun hmem => ?_) (Heap.get?_push_of_some _ eo), ?_, q⟩
    · rw [List.mem_singleton.mp hmem] at eo
      exact absurd (Heap.lt_size eo) (Nat.lt_irrefl _)
    · show Value.bool _ = Value.bool _
      rw [← L2.any_range, List.size_toArray, ← rv.length, ← Paired.length hp]
  rcases hs with hs | hs
  · obtain ⟨its, rv, hl, _⟩ := I.list hs
    refine call_any_walk (iter_any hl.isList fun s₂ e2 st hne => ?_)
    subst e2
    exact ⟨_, _, _, _, _, _, _, rfl, Walks.list (A := X.A.in1) (I.ok.hd hc) _ a hne its.toArray, st, truth_num hp rv, fun h' tk hk => fin rv hk⟩
  · obtain ⟨its, rv, hl, _⟩ := I.tuple hs
    refine call_any_walk (iter_tup hl fun s₂ e2 st hne => ?_)
    subst e2
    exact ⟨_, _, _, _, _, _, _, rfl, Walks.tuple (A := X.A.in1) (I.ok.hd hc) _ a hne its.toArray, st, truth_num hp rv, fun h' tk hk => fin rv hk⟩
theorem cr_allN (hc : X.calm = true) : CallR X (.builtin "all") (rAllN X.K) := by
  intro pins s σ H vs us Q I r h
  obtain ⟨a, bs, xs, rfl, hs, hp, q⟩ := h
  rw [Vals.ref1 r]
  have fin : ∀ {its : List Value} {h' : Heap} {tk : Nat} {o : Obj}, Vals xs its → (∀ b ob, b ∉ [s.heap.objs.size] → (s.heap.push o).get? b = some ob → h'.get? b = some ob) → EP X pins σ Q (.bool ((List.range its.toArray.size).all fun i => bs.getD i false)) { s with heap := h', toks := tk } := by
    intro its h' tk o rv hk
    refine ⟨.bl _, H, I.kept fun b ob eo => hk b ob (fun hmem => ?_) (Heap.get?_push_of_some _ eo), ?_, q⟩
    · rw [List.mem_singleton.mp hmem] at eo
      exact absurd (Heap.lt_size eo) (Nat.lt_irrefl _)
    · show Value.bool _ = Value.bool _
      rw [← L2.all_range, List.size_toArray, ← rv.length, ← Paired.length hp]
  rcases hs with hs | hs
  · obtain ⟨its, rv, hl, _⟩ := I.list hs
    refine call_all_walk (iter_any hl.isList fun s₂ e2 st hne => ?_)
    subst e2
    exact ⟨_, _, _, _, _, _, _, rfl, Walks.list (A := X.A.in1) (I.ok.hd hc) _ a hne its.toArray, st, truth_num hp rv, fun h' tk hk => fin rv hk⟩
  · obtain ⟨its, rv, hl, _⟩ := I.tuple hs
    refine call_all_walk (iter_tup hl fun s₂ e2 st hne => ?_)
    subst e2
    exact ⟨_, _, _, _, _, _, _, rfl, Walks.tuple (A := X.A.in1) (I.ok.hd hc) _ a hne its.toArray, st, truth_num hp rv, fun h' tk hk => fin rv hk⟩
def dAnyN : D → Option Tk
  | .lst xs => (truIs xs).map fun bs => .val (.bl (bs.any id))
  | .tup xs => (truIs xs).map fun bs => .val (.bl (bs.any id))
  | _ => none
def dAllN : D → Option Tk
  | .lst xs => (truIs xs).map fun bs => .val (.bl (bs.all id))
  | .tup xs => (truIs xs).map fun bs => .val (.bl (bs.all id))
  | _ => none
theorem anyN_ok : OpN X y (fn1 dAnyN) (rAnyN X.K) := op1N (by
  intro Hk H d v t Q e h pa q
  cases d <;> simp only [dAnyN] at h <;> first
    | (cases h; done)
    | (rename_i xs
       cases z : truIs xs with
       | none => rw [z] at h; cases h
       | some ns =>
         rw [z] at h
         cases h
         first
           | (obtain ⟨a, vs, rfl, h1, h2⟩ := pa.lst e
              exact ⟨a, ns, vs, rfl, .inl (sqL h1), truIs_v z h2, q _ _ (res_flat rp_bl e)⟩)
           | (obtain ⟨a, vs, rfl, h1, h2, _⟩ := pa.tup e
              exact ⟨a, ns, vs, rfl, .inr (sqT h1), truIs_v z h2, q _ _ (res_flat rp_bl e)⟩)))
theorem allN_ok : OpN X y (fn1 dAllN) (rAllN X.K) := op1N (by
  intro Hk H d v t Q e h pa q
  cases d <;> simp only [dAllN] at h <;> first
    | (cases h; done)
    | (rename_i xs
       cases z : truIs xs with
       | none => rw [z] at h; cases h
       | some ns =>
         rw [z] at h
         cases h
         first
           | (obtain ⟨a, vs, rfl, h1, h2⟩ := pa.lst e
              exact ⟨a, ns, vs, rfl, .inl (sqL h1), truIs_v z h2, q _ _ (res_flat rp_bl e)⟩)
           | (obtain ⟨a, vs, rfl, h1, h2, _⟩ := pa.tup e
              exact ⟨a, ns, vs, rfl, .inr (sqT h1), truIs_v z h2, q _ _ (res_flat rp_bl e)⟩)))
variable {e b : Expr} {es : List Expr} {m m1 m2 : M Tk} {ma : M (List Tk)} {pos p apos : Pos} {k kk : Nat}
theorem px_anyN (hc : X.calm = true) (hm : X.mg "any" = none) (ha : PAs X y [e] ma) (hg : Gl X "any" := by rfl) (he : starEach [e] X.env = (false, eval e X.env) :: starEach [] X.env := by rfl) : PX X y (.Call (.Name "any" p) [e] [] pos) (mCall (fn1 dAnyN) ma) := px_blt (cr_anyN hc) anyN_ok hg hm (by decide +kernel) ha (he := he)
theorem px_allN (hc : X.calm = true) (hm : X.mg "all" = none) (ha : PAs X y [e] ma) (hg : Gl X "all" := by rfl) (he : starEach [e] X.env = (false, eval e X.env) :: starEach [] X.env := by rfl) : PX X y (.Call (.Name "all" p) [e] [] pos) (mCall (fn1 dAllN) ma) := px_blt (cr_allN hc) allN_ok hg hm (by decide +kernel) ha (he := he)
/-! ### {} -/
def mNewD : M Tk := fun env => .ok (.new (.dic [] [])) env
theorem px_newD : PX X y (.Dict [] [] pos) mNewD := ⟨PE_imp pe_dnewT fun σ H Q ⟨env, Hk, G, re, q⟩ p hp => by
  refine q (.ref p) Hk _ (Kx.refl _ _) (re.ext (Ex.new hp)) ⟨p, rfl, re.hk.back hp, ⟨re.g.back hp, [], upd_same, rfl, .nil⟩, fun i d' hi hs => ?_⟩
  obtain ⟨_, oa⟩ := re.owAt hi hs
  obtain ⟨u, hu, _⟩ := oa.at
  rw [hp] at hu
  cases hu⟩
/-! ### t.index(i) -/
def idxI (z : Int) : List Int → Option Nat
  | [] => none
  | x :: xs => if x = z then some 0 else (idxI z xs).map (· + 1)
theorem idxI_at {z : Int} : ∀ {xs : List Int} {j : Nat}, idxI z xs = some j → xs[j]? = some z ∧ ∀ m, m < j → xs[m]? ≠ some z
  | [], _, h => by cases h
  | x :: xs, j, h => by
    unfold idxI at h
    split at h
    · rename_i e
      cases h
      exact ⟨by rw [e]; rfl, fun m hm => absurd hm (Nat.not_lt_zero _)⟩
    · rename_i e
      cases z1 : idxI z xs with
      | none => rw [z1] at h; cases h
      | some i =>
        rw [z1] at h
        cases h
        obtain ⟨h1, h2⟩ := idxI_at z1
        refine ⟨by simpa using h1, fun m hm => ?_⟩
        cases m with
        | zero => simpa using e
        | succ m => simpa using h2 m (Nat.lt_of_succ_lt_succ hm)
/-- o.index(i), o a tuple of numbers that was made by tuple(list) -/
def dIndex : D → D → Option Tk
  | .tupf xs, .int z => match toInts xs with
    | some ns => (idxI z ns).map fun j => .val (.int (j : Nat))
    | none => none
  | _, _ => none
def mIndex (m1 m2 : M Tk) : M Tk := mBind m1 fun t1 env => match look t1 env with
  | some (.tupf xs) => mBind m2 (fun t2 env => match look t2 env with
    | some d2 => mOf (dIndex (.tupf xs) d2) env
    | none => .bad) env
  | _ => .bad
/-- the tuple's own record is known -/
def tTI (K : PySem.W.Frag) (to tb : TE) : TE := fun σ H Q => to σ H fun x H1 => (∃ p o ys, x = .ref p ∧ H1 p = some (.frz o (.tup ys)) ∧ o.cls = .type "tuple" ∧ o.dict = none) ∧ tb σ H1 fun z H2 => rIxT K x [z] H2 Q
theorem pe_ixF {to tb : TE} (ho : PE X e to) (hi : PE X b tb) (hbase : attributeBase e "index" X.env (eval e X.env) = eval e X.env) (hline : (apos.endLine == pos.line) = true) (hs : starEach [b] X.env = [(false, eval b X.env)])
    (hfew : ((backTo pos (starEach [b] X.env)).all (fun x => !x.1) && (backToKw pos (keywordEach [] X.env)).all (fun x => x.1.isSome)
      && decide (([b] : List Expr).length + ([] : List Keyword).length + (if ([] : List Keyword).isEmpty then 0 else 1) < 30)) = true) : PE X (.Call (.Attribute e "index" apos) [b] [] pos) (tTI X.K to tb) := by
  constructor
  intro pins s σ H Q I h
  apply wpAny_Call_method_late hbase hfew hline rfl
  apply thn (ho.run pins s σ H _ I h)
  rintro v s1 ⟨x, H1, I1, r1, ⟨p, o, ys, rfl, hp, hc, hd⟩, q1⟩
  obtain rfl : v = Value.ref p := r1
  have hg : s1.heap.get? p = some o := (show ObjOk X.prog X.w H1 s1.heap p (.frz o (.tup ys)) from I1.hok p _ hp).1
  refine ⟨"tuple", "tuple.index", F.plainAttrs_tuple, F.slot_tuple_index, F.type_tuple_index, ⟨o, hg, hc⟩, fun a e => by cases e; exact ⟨o, hg, hd⟩, ?_⟩
  have run := (pa_cons hi pa_nil (by rw [hs]; rfl)).run pos pins s1 σ H1 (fun xs H2 => rIxT X.K (.ref p) xs H2 Q) I1 q1
  rw [hs] at run ⊢
  exact Calls.callWith_builtin rfl (Calls.evalArgs_plain (thn run fun us s2 ⟨vs, H2, I2, r2, q2⟩ => mt_tup_ixI pins s2 σ H2 (.ref p) vs (.ref p) us Q I2 rfl r2 q2))
theorem px_index (ho : PX X y e m1) (ha : PX X y b m2) (hbase : attributeBase e "index" X.env (eval e X.env) = eval e X.env := by rfl) (hline : (apos.endLine == pos.line) = true := by rfl) (hs : starEach [b] X.env = [(false, eval b X.env)] := by rfl)
    (hfew : ((backTo pos (starEach [b] X.env)).all (fun x => !x.1) && (backToKw pos (keywordEach [] X.env)).all (fun x => x.1.isSome)
      && decide (([b] : List Expr).length + ([] : List Keyword).length + (if ([] : List Keyword).isEmpty then 0 else 1) < 30)) = true := by rfl) :
    PX X y (.Call (.Attribute e "index" apos) [b] [] pos) (mIndex m1 m2) := by
  refine ⟨PE_imp (pe_ixF ho.pe ha.pe hbase hline hs hfew) fun σ H Q ⟨env, Hk, G, re, q⟩ => ⟨env, Hk, G, re, ?_⟩⟩
  unfold mIndex at q
  refine po_bind q fun t1 e1 v Hk1 H1 k1 r1 rt1 q1 => ?_
  cases z1 : look t1 e1 with
  | none => rw [z1] at q1; exact q1.elim
  | some d1 =>
    rw [z1] at q1
    have pk := rt1.look r1 z1
    cases d1 with
    | tupf xs =>
      dsimp only at q1
      obtain ⟨p, o, vs, rfl, h1, h2, h3, h4⟩ : ∃ p o vs, v = .ref p ∧ Hk1 p = some (.frz o (.tup vs)) ∧ o.cls = .type "tuple" ∧ o.dict = none ∧ RpL (y.ct X) Hk1 xs vs := by
        rcases pk with h | ⟨_, _, _, h⟩
        · unfold Rp at h; exact h
        · exact h.elim
      refine ⟨⟨p, o, vs, rfl, r1.hk _ _ h1, h2, h3⟩, e1, Hk1, G, r1, po_bind q1 fun t2 e2 w Hk2 H2 k2 r2 rt2 q2 => ?_⟩
      cases z2 : look t2 e2 with
      | none => rw [z2] at q2; exact q2.elim
      | some d2 =>
        rw [z2] at q2
        have pk2 := rt2.look r2 z2
        cases d2 with
        | int z =>
          dsimp only [dIndex] at q2
          have ew := pk2.int
          subst ew
          cases zi : toInts xs with
          | none => rw [zi] at q2; exact q2.elim
          | some ns =>
            rw [zi] at q2
            dsimp only at q2
            cases zj : idxI z ns with
            | none => rw [zj] at q2; exact q2.elim
            | some j =>
              rw [zj] at q2
              obtain ⟨g1, g2⟩ := idxI_at zj
              have h4' := h4.mono k2.ex
              rw [toInts_eq zi] at h4'
              have ev := rpl_ints h4'
              refine ⟨p, ns, z, j, rfl, rfl, .inl (.inr ⟨o, ?_⟩), g1, g2, q2 _ Hk2 H2 (Kx.refl _ _) r2 (rp_int (C := y.ct X) (H := Hk2))⟩
              rw [← ev]
              exact r2.hk _ _ (k2.ex _ _ h1)
        | _ => exact q2.elim
    | _ => exact q1.elim
/-! ### tuple(list), its record known -/
theorem call_tupF : CallR X (.type "tuple") (fun xs H Q => ∃ p ys, xs = [.ref p] ∧ SqL X.K H p ys ∧ ∀ l o, H l = none → o.cls = .type "tuple" → o.dict = none → Q (.ref l) (upd H l (.frz o (.tup ys)))) := by
  intro pins s σ H xs us Q I r h
  obtain ⟨p, ys, rfl, hq, q⟩ := h
  obtain ⟨u, rfl, rx⟩ := vals1 r
  cases rx
  obtain ⟨its, rv, pl, hz⟩ := I.list hq
  have hlen := rv.length
  refine call_tuple_list pl.isList (fun h' kp => ?_) (by simp only [List.size_toArray]; omega)
  have J : Inv X pins σ H { s with heap := h' } := I.kept (t' := s.toks) kp
  have fresh := J.hok.fresh (Nat.le_refl h'.objs.size)
  have new : ObjOk X.prog X.w (upd H h'.objs.size (.frz { cls := .type "tuple", data := .seq its.toArray } (.tup ys))) (h'.push { cls := .type "tuple", data := .seq its.toArray }) h'.objs.size (.frz { cls := .type "tuple", data := .seq its.toArray } (.tup ys)) :=
    ⟨Heap.get?_push_size _ rfl, hz, its, rv, IsTup.new _ _⟩
  exact ⟨.ref h'.objs.size, _, J.laid (t' := s.toks) (fun b o e => Heap.get?_push_of_some _ e) (Nat.le_refl _) new, rfl, q _ _ fresh rfl rfl⟩
def dTupleF : D → Option Tk
  | .lst xs => some (.val (.tupf xs))
  | _ => none
theorem tupF_ok : OpN X y (fn1 dTupleF) (fun xs H Q => ∃ p ys, xs = [.ref p] ∧ SqL X.K H p ys ∧ ∀ l o, H l = none → o.cls = .type "tuple" → o.dict = none → Q (.ref l) (upd H l (.frz o (.tup ys)))) := op1N (by
  intro Hk H d v t Q e h pa q
  cases d <;> simp only [dTupleF] at h <;> first
    | (cases h; done)
    | (cases h
       obtain ⟨a, vs, rfl, h1, h2⟩ := pa.lst e
       refine ⟨a, vs, rfl, sqL h1, fun l o hl hc hd => q _ _ ?_⟩
       have e1 : Ex Hk (upd Hk l (.frz o (.tup vs))) := Ex.new (e.back hl)
       refine ⟨Ex.new hl, upd Hk l (.frz o (.tup vs)), ⟨e1, fun b u g1 g2 => ?_⟩, Ex.updB (e.trans (Ex.new hl)) upd_same, ?_⟩
       · by_cases z : b = l
         · rw [z]; exact hl
         · rw [upd_ne z, g2] at g1; cases g1
       · unfold Rp
         exact ⟨l, o, vs, rfl, upd_same, hc, hd, h2.mono e1⟩))
theorem px_tupleF (hm : X.mg "tuple" = none) (ha : PAs X y [e] ma) (hg : Gl X "tuple" := by rfl) (he : starEach [e] X.env = (false, eval e X.env) :: starEach [] X.env := by rfl) : PX X y (.Call (.Name "tuple" p) [e] [] pos) (mCall (fn1 dTupleF) ma) := px_typ call_tupF tupF_ok hg hm (by decide +kernel) ha (he := he)
end
end VM

set_option Elab.async false
set_option linter.all false
set_option maxRecDepth 100000
set_option maxHeartbeats 1000000
/-! VM P: own classes, what the written part must say; isinstance of own classes -/
namespace VM
open PySem PySem.Spec PyProof.Rows L2
section
variable {K : PySem.W.Frag} {C f : Addr} {cm : Nat → Addr}
def clB (K : PySem.W.Frag) (C : Addr) (fs : List Str) : Bool := PySem.W.plainGet K C Str.empty && (PySem.W.hasDictIn K C && (PySem.W.plainOver K C &&
  (decide (PySem.W.findIn K (.ref C) "__setattr__" = some (some (.builtin "object.__setattr__"))) && fs.all fun f => decide (PySem.W.findIn K (.ref C) f = some none))))
theorem clB_ok {fs : List Str} (h : clB K C fs = true) : Cls K C ∧ ∀ f ∈ fs, NoAttr K C f := by
  unfold clB at h
  simp only [Bool.and_eq_true, decide_eq_true_eq] at h
  obtain ⟨h1, h2, h3, h4, h5⟩ := h
  exact ⟨⟨h1, h2, h3, h4⟩, fun f hf => show PySem.W.findIn K (.ref C) f = some none from of_decide_eq_true (List.all_eq_true.mp h5 f hf)⟩
def mkB (K : PySem.W.Frag) (C f : Addr) : Bool := PySem.W.makesIn K C && (PySem.W.isFn K (.ref f) && PySem.W.keepIn K (.ref C))
theorem mkB_ok (i : PySem.W.findIn K (.ref C) "__init__" = some (some (.ref f))) (h : mkB K C f = true) : Mk K C f := by
  unfold mkB at h
  simp only [Bool.and_eq_true] at h
  exact ⟨h.1, i, h.2.1, h.2.2⟩
theorem me_ok {m : Str} (i : PySem.W.findIn K (.ref C) m = some (some (.ref f))) (h : PySem.W.isFn K (.ref f) = true) (k : PySem.W.keepIn K (.ref f) = true) : Meth K C m f := ⟨i, h, k⟩
def ifB (K : PySem.W.Frag) (C : Addr) : Bool := decide (PySem.W.findIn K (.ref C) "__class__" = some (some (.builtin "object.__class__"))) && (decide (PySem.W.specialIn K (.builtin "object.__class__") "__get__" = some (some (.builtin "getset_descriptor.__get__"))) &&
  (decide (PySem.W.takesIn K (.builtin "object.__class__") = some true) && decide (PySem.W.mroIn K C (.type "object") = some true)))
theorem ifB_ok (c : Cls K C) (h : ifB K C = true) : IF K C := by
  unfold ifB at h
  simp only [Bool.and_eq_true, decide_eq_true_eq] at h
  obtain ⟨h1, h2, h3, h4⟩ := h
  exact ⟨c, h1, h2, h3, h4⟩
def excB (K : PySem.W.Frag) (C : Addr) : Bool := xfB K C && (decide (PySem.W.findIn K (.ref C) "__class__" = some (some (.builtin "object.__class__"))) && (decide (PySem.W.specialIn K (.builtin "object.__class__") "__get__" = some (some (.builtin "getset_descriptor.__get__"))) &&
  (decide (PySem.W.takesIn K (.builtin "object.__class__") = some true) && decide (PySem.W.mroIn K C (.type "object") = some true))))
theorem excB_ok (h : excB K C = true) : ExcC K C := by
  unfold excB at h
  simp only [Bool.and_eq_true, decide_eq_true_eq] at h
  obtain ⟨h0, h1, h2, h3, h4⟩ := h
  have x := xfB_ok h0
  exact ⟨x.ga, x.gg, x.exC, x.hdC, h1, h2, h3, h4⟩
/-- isinstance by a table -/
def tyK : D → Option (Sum String Nat)
  | .ty n => some (.inl n)
  | .cl c => some (.inr c)
  | _ => none
abbrev STab := List (Sum String Nat × Sum String Nat × Bool)
def sLook (a b : Sum String Nat) : STab → Option Bool
  | [] => none
  | (x, y, r) :: t => if x = a ∧ y = b then some r else sLook a b t
def subC (tab : STab) (t c : D) : Option Bool := match tyK t, tyK c with
  | some (.inl a), some (.inl b) => tyTab a b
  | some a, some b => sLook a b tab
  | _, _ => none
def valS (cm : Nat → Addr) : Sum String Nat → Value
  | .inl n => .type n
  | .inr c => .ref (cm c)
theorem tyK_val {d : D} {k : Sum String Nat} {v : Value} (h : tyK d = some k) (e : valT cm d = some v) : v = valS cm k := by
  cases d <;> first | (cases h; done) | (cases h; cases e; rfl)
theorem sLook_mem {a b : Sum String Nat} {r : Bool} : ∀ {t : STab}, sLook a b t = some r → (a, b, r) ∈ t
  | [], h => by cases h
  | (x, y, z) :: t, h => by
    unfold sLook at h
    split at h
    · rename_i e
      cases h
      rw [e.1, e.2]
      exact List.mem_cons_self
    · exact List.mem_cons_of_mem _ (sLook_mem h)
theorem subC_ok {tab : STab} {ic : List Nat} (T : ∀ x ∈ tab, PySem.W.kitOne K (valS cm x.1) (valS cm x.2.1) = some x.2.2) (I : ∀ c ∈ ic, IF K (cm c)) : Sub K cm (subC tab) ic := by
  refine ⟨fun t c b tv cv h h1 h2 => ?_, I⟩
  unfold subC at h
  cases k1 : tyK t with
  | none => rw [k1] at h; cases h
  | some a =>
    cases k2 : tyK c with
    | none => rw [k1, k2] at h; cases a <;> cases h
    | some b' =>
      rw [k1, k2] at h
      have e1 := tyK_val k1 h1
      have e2 := tyK_val k2 h2
      subst e1 e2
      cases a with
      | inl a =>
        cases b' with
        | inl b' => exact kit_ty (tyTab_ok h)
        | inr c => exact T _ (sLook_mem h)
      | inr a => exact T _ (sLook_mem h)
/-- .. of caught errors -/
def subX (tab : STab) (c : Nat) (d : D) : Option Bool := match tyK d with
  | some b => sLook (.inr c) b tab
  | none => none
theorem subX_ok {tab : STab} (T : ∀ x ∈ tab, PySem.W.kitOne K (valS cm x.1) (valS cm x.2.1) = some x.2.2) (I : ∀ x ∈ tab, ∀ c, x.1 = .inr c → ExcC K (cm c)) : SubK K cm (subX tab) := by
  constructor
  · intro c k b cv h hv
    unfold subX at h
    cases k1 : tyK k with
    | none => rw [k1] at h; cases h
    | some a =>
      rw [k1] at h
      rw [tyK_val k1 hv]
      exact T _ (sLook_mem h)
  · intro c k b h
    unfold subX at h
    cases k1 : tyK k with
    | none => rw [k1] at h; cases h
    | some a => rw [k1] at h; exact I _ (sLook_mem h) c rfl
end
/-! ### the new meanings at an environment -/
section
variable {env e : Env} {m m1 m2 mo mc : M Tk} {ma : M (List Tk)}
theorem a_mIndex : mIndex m1 m2 env = bindR (m1 env) fun t1 env => match look t1 env with
  | some (.tupf xs) => bindR (m2 env) fun t2 env => match look t2 env with
    | some d2 => mOf (dIndex (.tupf xs) d2) env
    | none => .bad
  | _ => .bad := (rfl)
theorem a_fld {k : Nat} {cs : List Nat} {f : Str} : mFld k cs f m env = bindR (m env) fun t env => match force t env with
  | .ok d e1 => match owD k e1 with
    | some o => match putD cs f d o with
      | some o' => .ok .nx (e1.set k (.ow o'))
      | none => .bad
    | none => .bad
  | _ => .bad := (rfl)
theorem a_callT {F : List D → Rf} {ts : List Tk} : mCallT F ts env = match lookAll ts env with
  | none => .bad
  | some ds => match F ds with
    | .ok nw d _ => if apart nw d = true then .ok (tkOf nw d) env else match forceAll ts env with
      | .ok _ e => .ok (tkOf nw d) e
      | _ => .bad
    | .ex c ns xs _ => if xs.all D.flat = true then .ex c ns xs env else match forceAll ts env with
      | .ok _ e => .ex c ns xs e
      | _ => .bad
    | .bad => .bad := (rfl)
theorem a_meth {n : Str} {tab : Tab} : mMeth n tab mo ma env = bindR (mo env) fun t env => match look t env with
  | some (.ins c ns _) => if ns.contains n = true then .bad else match tabF tab c with
    | some F => bindR (ma env) fun ts => mCallT F (t.settle :: ts)
    | none => .bad
  | _ => .bad := (rfl)
theorem a_make {c : Nat} {F : List D → Rf} : mMake c F ma env = bindR (ma env) fun ts env => match lookAll ts env with
  | none => .bad
  | some ds => match F (.ins c [] [] :: ds) with
    | .ok false .non p => if noMutI p = true then .ok (.new p) env else match forceAll ts env with
      | .ok _ e => .ok (.new p) e
      | _ => .bad
    | .ex c' ns xs _ => match forceAll ts env with
      | .ok _ e => .ex c' ns xs e
      | _ => .bad
    | _ => .bad := (rfl)
theorem a_val : mVal m env = bindR (m env) fun t env => .ok t.settle env := (rfl)
theorem a_newD : mNewD env = .ok (.new (.dic [] [])) env := (rfl)
theorem a_isX {sub : Nat → D → Option Bool} {i : Nat} : mIsX sub i mc env = match env[i]? with
  | some (.xv _ _ _) => bindR (mc env) fun t env => match env[i]? with
    | some (.xv c _ _) => match look t env with
      | some d => if isT d = true then mOf ((sub c d).map fun b => .val (.bl b)) env else .bad
      | none => .bad
    | _ => .bad
  | _ => .bad := (rfl)
theorem e_fld {cs : List Nat} {f : Str} {c : Nat} {ns : List Str} {xs : List D} : dFld cs f (.ins c ns xs) = if cs.contains c = true then ((ns.zip xs).lookup f).map .val else none := (rfl)
theorem w_enumL {xs : List D} : wEnumA [.lst xs] = some (enumD 0 xs) := (rfl)
theorem w_enumT {xs : List D} : wEnumA [.tup xs] = some (enumD 0 xs) := (rfl)
end
end VM

set_option Elab.async false
set_option linter.all false
set_option maxRecDepth 100000
set_option maxHeartbeats 1000000
/-! VM Q: loops and comprehensions over lists of any kind of things -/
namespace VM
open PySem PySem.Spec PyProof.Rows L2
section
variable {g : D → Env → Option Env} {junk own : List Nat} {body : M Fl} {test : M Bool} {elt : M Tk} {α S : Type}
/-- a loop that carries a state -/
theorem loop_fold (E : S → Env) (st : S → α → S) (f : α → D) (I : S → Prop) : ∀ (xs : List α) (s : S), I s → (∀ s x, I s → x ∈ xs → turn g junk body (f x) (E s) = .ok .nx (E (st s x)) ∧ I (st s x)) →
    mLoop g junk body (xs.map f) (E s) = .ok .nx (E (xs.foldl st s)) ∧ I (xs.foldl st s)
  | [], s, hi, _ => ⟨rfl, hi⟩
  | x :: xs, s, hi, h => by
    obtain ⟨h1, h2⟩ := h s x hi List.mem_cons_self
    have ih := loop_fold E st f I xs (st s x) h2 fun s y hs hy => h s y hs (List.mem_cons_of_mem _ hy)
    rw [List.map_cons, loop_cons, h1]
    exact ih
/-- .. with the number of turns -/
theorem loop_foldN (E : S → Env) (st : S → α → S) (f : α → D) (I : Nat → S → Prop) : ∀ (xs : List α) (n : Nat) (s : S), I n s → (∀ k s x, I (n + k) s → xs[k]? = some x → turn g junk body (f x) (E s) = .ok .nx (E (st s x)) ∧ I (n + k + 1) (st s x)) →
    mLoop g junk body (xs.map f) (E s) = .ok .nx (E (xs.foldl st s)) ∧ I (n + xs.length) (xs.foldl st s)
  | [], n, s, hi, _ => ⟨rfl, hi⟩
  | x :: xs, n, s, hi, h => by
    obtain ⟨h1, h2⟩ := h 0 s x hi rfl
    have ih := loop_foldN E st f I xs (n + 1) (st s x) h2 fun k s y hs hy => by
      have := h (k + 1) s y (by rw [show n + (k + 1) = n + 1 + k by omega]; exact hs) (by simpa using hy)
      rw [show n + (k + 1) = n + 1 + k by omega] at this
      exact this
    rw [List.map_cons, loop_cons, h1, List.length_cons, show n + (xs.length + 1) = n + 1 + xs.length by omega]
    exact ih
/-- .. without a word of the state -/
theorem loop_st (E : S → Env) (st : S → α → S) (f : α → D) (xs : List α) (s : S) (h : ∀ s x, x ∈ xs → turn g junk body (f x) (E s) = .ok .nx (E (st s x))) : mLoop g junk body (xs.map f) (E s) = .ok .nx (E (xs.foldl st s)) :=
  (loop_fold E st f (fun _ => True) xs s trivial fun s x _ hx => ⟨h s x hx, trivial⟩).1
/-- a loop that leaves all as it was -/
theorem loop_same (E : Env) (f : α → D) (xs : List α) (h : ∀ x, x ∈ xs → turn g junk body (f x) E = .ok .nx E) : mLoop g junk body (xs.map f) E = .ok .nx E := by
  have := loop_st (S := Unit) (fun _ => E) (fun _ _ => ()) f xs () fun _ x hx => h x hx
  exact this
/-- a loop that ends at the first thing of a kind -/
theorem loop_find (E : Env) (f : α → D) (p : α → Bool) (out : α → Fl) (Eo : α → Env) : ∀ (xs : List α), (∀ x, x ∈ xs → p x = false → turn g junk body (f x) E = .ok .nx E) →
    (∀ x, x ∈ xs → p x = true → turn g junk body (f x) E = .ok (out x) (Eo x)) → (∀ x, out x ≠ .nx ∧ out x ≠ .bk) →
    mLoop g junk body (xs.map f) E = match xs.find? p with
      | some x => .ok (out x) (Eo x)
      | none => .ok .nx E
  | [], _, _, _ => rfl
  | x :: xs, h0, h1, ho => by
    rw [List.map_cons, loop_cons]
    cases hp : p x with
    | false =>
      rw [h0 x List.mem_cons_self hp, List.find?_cons_of_neg (by rw [hp]; simp)]
      exact loop_find E f p out Eo xs (fun y hy => h0 y (List.mem_cons_of_mem _ hy)) (fun y hy => h1 y (List.mem_cons_of_mem _ hy)) ho
    | true =>
      rw [h1 x List.mem_cons_self hp, List.find?_cons_of_pos hp]
      have := ho x
      cases hh : out x with
      | nx => exact absurd hh this.1
      | bk => exact absurd hh this.2
      | ct => show Rs.ok Fl.ct (Eo x) = Rs.ok (out x) (Eo x); rw [hh]
      | rt t => show Rs.ok (Fl.rt t) (Eo x) = Rs.ok (out x) (Eo x); rw [hh]
/-- a turn of a comprehension: d gives d' -/
def LcOne (g : D → Env → Option Env) (own : List Nat) (test : M Bool) (elt : M Tk) (E : Env) (d d' : D) (E' : Env) : Prop := ∃ e1 e2 t e3 e4, g d E = some e1 ∧ test e1 = .ok true e2 ∧ elt e2 = .ok t e3 ∧ force t e3 = .ok d' e4 ∧ wipeE own e4 = E'
def LcNo (g : D → Env → Option Env) (own : List Nat) (test : M Bool) (E : Env) (d : D) (E' : Env) : Prop := ∃ e1 e2, g d E = some e1 ∧ test e1 = .ok false e2 ∧ wipeE own e2 = E'
theorem lc_one {E E' : Env} {d d' : D} {ds acc : List D} (h : LcOne g own test elt E d d' E') (hl : acc.length < lim) : mLcLoop g own test elt (d :: ds) acc E = mLcLoop g own test elt ds (acc ++ [d']) E' := by
  obtain ⟨e1, e2, t, e3, e4, h1, h2, h3, h4, h5⟩ := h
  rw [show mLcLoop g own test elt (d :: ds) acc E = (match g d E with | none => Rs.bad | some e1 => _) from rfl, h1]
  dsimp only
  rw [h2]
  dsimp only
  rw [h3]
  dsimp only
  rw [h4]
  dsimp only
  rw [if_pos hl, h5]
theorem lc_no {E E' : Env} {d : D} {ds acc : List D} (h : LcNo g own test E d E') : mLcLoop g own test elt (d :: ds) acc E = mLcLoop g own test elt ds acc E' := by
  obtain ⟨e1, e2, h1, h2, h3⟩ := h
  rw [show mLcLoop g own test elt (d :: ds) acc E = (match g d E with | none => Rs.bad | some e1 => _) from rfl, h1]
  dsimp only
  rw [h2]
  dsimp only
  rw [h3]
/-- each thing gives one -/
theorem lc_map {E : Env} (f out : α → D) : ∀ (xs : List α) (acc : List D), acc.length + xs.length ≤ lim → (∀ x, x ∈ xs → LcOne g own test elt E (f x) (out x) E) → mLcLoop g own test elt (xs.map f) acc E = .ok (acc ++ xs.map out) E
  | [], acc, _, _ => by simp [mLcLoop]
  | x :: xs, acc, hl, h => by
    rw [List.length_cons] at hl
    rw [List.map_cons, lc_one (h x List.mem_cons_self) (by omega), lc_map f out xs (acc ++ [out x]) (by simp; omega) fun y hy => h y (List.mem_cons_of_mem _ hy)]
    simp
theorem lc_each {E : Env} (f out : α → D) (xs : List α) (hl : xs.length ≤ lim) (h : ∀ x, x ∈ xs → LcOne g own mYes elt E (f x) (out x) E) : mLcLoop g own mYes elt (xs.map f) [] E = .ok (xs.map out) E := by
  rw [lc_map f out xs [] (by rw [List.length_nil]; omega) h]; rfl
/-- each thing of a kind gives one -/
theorem lc_filter {E : Env} (f out : α → D) (p : α → Bool) : ∀ (xs : List α) (acc : List D), acc.length + xs.length ≤ lim → (∀ x, x ∈ xs → p x = true → LcOne g own test elt E (f x) (out x) E) → (∀ x, x ∈ xs → p x = false → LcNo g own test E (f x) E) →
    mLcLoop g own test elt (xs.map f) acc E = .ok (acc ++ (xs.filter p).map out) E
  | [], acc, _, _, _ => by simp [mLcLoop]
  | x :: xs, acc, hl, h, h0 => by
    rw [List.length_cons] at hl
    cases hp : p x with
    | true =>
      rw [List.map_cons, lc_one (h x List.mem_cons_self hp) (by omega), lc_filter f out p xs (acc ++ [out x]) (by simp; omega) (fun y hy => h y (List.mem_cons_of_mem _ hy)) (fun y hy => h0 y (List.mem_cons_of_mem _ hy)), List.filter_cons_of_pos hp]
      simp
    | false =>
      rw [List.map_cons, lc_no (h0 x List.mem_cons_self hp), lc_filter f out p xs acc (by omega) (fun y hy => h y (List.mem_cons_of_mem _ hy)) (fun y hy => h0 y (List.mem_cons_of_mem _ hy)), List.filter_cons_of_neg (by rw [hp]; simp)]
/-- a comprehension that draws: the state goes along -/
theorem lc_draw (P : Env → Prop) (R : D → Prop) : ∀ (ds : List D) (acc : List D) {E : Env}, acc.length + ds.length ≤ lim → P E → (∀ d E, d ∈ ds → P E → ∃ d' E', LcOne g own test elt E d d' E' ∧ R d' ∧ P E') → (∀ d ∈ acc, R d) →
    ∃ out E', mLcLoop g own test elt ds acc E = .ok (acc ++ out) E' ∧ P E' ∧ (∀ d ∈ out, R d) ∧ out.length = ds.length
  | [], acc, E, _, hp, _, _ => ⟨[], E, by simp [mLcLoop], hp, by simp, rfl⟩
  | d :: ds, acc, E, hl, hp, h, ha => by
    rw [List.length_cons] at hl
    obtain ⟨d', E1, h1, h2, h3⟩ := h d E List.mem_cons_self hp
    obtain ⟨out, E2, g1, g2, g3, g4⟩ := lc_draw P R ds (acc ++ [d']) (E := E1) (by simp; omega) h3 (fun x E hx => h x E (List.mem_cons_of_mem _ hx)) (by simp; intro x hx; rcases hx with hx | rfl; exact ha x hx; exact h2)
    refine ⟨d' :: out, E2, ?_, g2, ?_, by simp [g4]⟩
    · rw [lc_one h1 (by omega), g1]; simp
    · intro x hx
      rcases List.mem_cons.mp hx with rfl | hx
      · exact h2
      · exact g3 x hx
end
theorem rngD_map (lo : Int) (n : Nat) : rngD lo n = (List.range n).map fun i => .int (lo + (i : Nat)) := rfl
theorem enumD_map {α : Type} (f : α → D) : ∀ (xs : List α) (k : Nat), enumD k (xs.map f) = (xs.zipIdx k).map fun p => .tup [.int (p.2 : Nat), f p.1]
  | [], k => rfl
  | x :: xs, k => by
    rw [List.map_cons, List.zipIdx_cons, List.map_cons, ← enumD_map f xs (k + 1)]
    rfl
theorem zipD_map {α β : Type} (f : α → D) (g : β → D) : ∀ (xs : List α) (ys : List β), zipD (xs.map f) (ys.map g) = (xs.zip ys).map fun p => .tup [f p.1, g p.2]
  | [], _ => by simp [zipD]
  | _ :: _, [] => by simp [zipD]
  | x :: xs, y :: ys => by
    rw [List.map_cons, List.map_cons, List.zip_cons_cons, List.map_cons, ← zipD_map f g xs ys]
    rfl
theorem atI_mapN {α : Type} (f : α → D) {xs : List α} {i : Nat} {x : α} (h : xs[i]? = some x) : atI (xs.map f) (i : Int) = some (f x) := atI_nat (by rw [List.getElem?_map, h]; rfl)
section
variable {env e : Env} {m m1 m2 mo mc : M Tk} {ma : M (List Tk)}
/-- the method n of d -/
def methF (n : Str) (tab : Tab) : D → Option (List D → Rf)
  | .ins c ns _ => if ns.contains n = true then none else tabF tab c
  | _ => none
theorem a_methD {n : Str} {tab : Tab} : mMeth n tab mo ma env = bindR (mo env) fun t env => match look t env with
  | some d => match methF n tab d with
    | some F => bindR (ma env) fun ts => mCallT F (t.settle :: ts)
    | none => .bad
  | none => .bad := by
  rw [a_meth]
  cases mo env with
  | ok t e1 =>
    rw [bindR_ok, bindR_ok]
    cases look t e1 with
    | none => rfl
    | some d =>
      cases d with
      | ins c ns xs =>
        dsimp only [methF]
        by_cases h : ns.contains n = true
        · rw [if_pos h, if_pos h]
        · rw [if_neg h, if_neg h]; first | done | (cases tabF tab c <;> rfl)
      | _ => rfl
  | ex _ _ _ _ => rfl
  | bad => rfl
theorem a_apT {nw : Bool} {xs : List D} : apart nw (.tup xs) = false := by cases nw <;> rfl
theorem a_apG {nw : Bool} {xs : List D} : apart nw (.tupf xs) = false := by cases nw <;> rfl
theorem a_apL {xs : List D} : apart false (.lst xs) = false := rfl
theorem flat_map {α : Type} {f : α → D} (h : ∀ x, (f x).flat = true) (xs : List α) : (xs.map f).all D.flat = true := by
  rw [List.all_map, List.all_eq_true]
  exact fun x _ => h x
theorem a_apN {xs : List D} (h : xs.all D.flat = true) : apart true (.lst xs) = true := by
  show (false || (true && xs.all D.flat)) = true
  rw [h]; rfl
theorem e_ixG {xs : List D} {i : Int} : dIx (.tupf xs) (.int i) = (atI xs i).map .val := (rfl)
theorem e_tupF {xs : List D} : dTupleF (.lst xs) = some (.val (.tupf xs)) := (rfl)
theorem a_iterT {t : Tk} {xs : List D} {e2 : Env} (h : m env = .ok t e) (f : force t e = .ok (.tup xs) e2) : mIter m env = .ok xs e2 := by
  rw [a_iter, h, bindR_ok, f]
/-- whole numbers from 0 -/
def nI (n : Nat) : D := .int (n : Int)
def nums (l : List Nat) : List D := l.map nI
theorem nI_flat (n : Nat) : (nI n).flat = true := rfl
theorem nums_flat (l : List Nat) : (nums l).all D.flat = true := flat_map nI_flat l
theorem nums_len (l : List Nat) : (nums l).length = l.length := List.length_map ..
theorem nums_app (a b : List Nat) : nums (a ++ b) = nums a ++ nums b := List.map_append ..
theorem nums_cons (a : Nat) (l : List Nat) : nums (a :: l) = .int (a : Int) :: nums l := rfl
theorem nums_nil : nums [] = [] := rfl
theorem nums_take (l : List Nat) (k : Nat) : (nums l).take k = nums (l.take k) := (List.map_take ..).symm
theorem nums_drop (l : List Nat) (k : Nat) : (nums l).drop k = nums (l.drop k) := (List.map_drop ..).symm
theorem nums_rev (l : List Nat) : (nums l).reverse = nums l.reverse := (List.map_reverse ..).symm
theorem nums_set (l : List Nat) (k v : Nat) : (nums l).set k (.int (v : Int)) = nums (l.set k v) := List.map_set.symm
theorem nums_at {l : List Nat} {i n : Nat} (h : l[i]? = some n) : atI (nums l) (i : Int) = some (.int (n : Int)) := atI_mapN nI h
theorem toInts_nums (l : List Nat) : toInts (nums l) = some (l.map fun n : Nat => (n : Int)) := by
  have := toInts_map (l.map fun n : Nat => (n : Int))
  rw [List.map_map] at this
  exact this
theorem truIs_nums : ∀ l : List Nat, truIs (nums l) = some (l.map fun n : Nat => ((n : Int) != 0))
  | [] => rfl
  | x :: xs => by
    have ih := truIs_nums xs
    show (match truI (nI x), truIs (nums xs) with | some b, some bs => some (b :: bs) | _, _ => none) = _
    rw [ih]
    rfl
theorem pl_intsN {n : Nat} (l : List Nat) : (nums l).all (D.pl n) = true := by
  unfold nums
  rw [List.all_map, List.all_eq_true]
  exact fun _ _ => pl_int
end
/-! ### comprehensions' places, slices, ranges down -/
theorem e_sliceL {xs : List D} {lo hi : Option Int} : dSl (.lst xs) lo hi = some (.new (.lst (cutD xs lo hi))) := (rfl)
theorem e_sliceT {xs : List D} {lo hi : Option Int} : dSl (.tup xs) lo hi = some (.val (.tup (cutD xs lo hi))) := (rfl)
theorem a_no0 {e : Env} : noOw [] e = true := (rfl)
theorem a_no1 {i : Nat} {l : List Nat} {e : Env} : noOw (i :: l) e = ((match e[i]? with
  | some .no => true
  | some (.sh _) => true
  | _ => false) && noOw l e) := (rfl)
theorem cut_take {xs : List D} {k : Nat} (h : k ≤ xs.length) : cutD xs none (some (k : Int)) = xs.take k := by
  unfold cutD
  rw [HT.sIx_none, HT.sIx_nat, Nat.min_eq_left h, Nat.sub_zero, List.drop_zero]
theorem cut_drop {xs : List D} {k : Nat} (h : k ≤ xs.length) : cutD xs (some (k : Int)) none = xs.drop k := by
  unfold cutD
  rw [HT.sIx_none, HT.sIx_nat, Nat.min_eq_left h]
  exact List.take_of_length_le (by rw [List.length_drop]; exact Nat.le_refl _)
theorem wDn_eq {i j : Int} (h : okR i = true) (h2 : okR j = true) : wDn [.int i, .int j, .int (-1)] = some (rngDn i (i - j).toNat) := if_pos ⟨rfl, h, h2⟩
theorem rngDn_1 {i : Int} : rngDn i 1 = [.int i] := by
  show [D.int (i + ((0 : Nat) : Int) * (-1))] = _
  rw [show i + ((0 : Nat) : Int) * (-1) = i by omega]
/-! ### ends, by their form (never unfolded at an open argument) -/
section
variable {t : Tk} {e : Env} {d p : D} {k : Nat} {c : Nat} {ns : List Str} {ds : List D}
theorem fin_nx : fin (.ok .nx e) = .ok false .non .non := (rfl)
theorem fin_val : fin (.ok (.rt (.val d)) e) = .ok false d .non := (rfl)
theorem fin_new : fin (.ok (.rt (.new d)) e) = .ok true d .non := (rfl)
theorem fin_slot : fin (.ok (.rt (.slot k)) e) = match e[k]? with
    | some (.sh d) => .ok false d .non
    | some (.ow d) => .ok true d .non
    | _ => .bad := by
  unfold fin outTk
  dsimp only
  cases e[k]? with
  | none => rfl
  | some s => cases s <;> rfl
theorem fin_ex : fin (.ex c ns ds e) = .ex c ns ds .non := (rfl)
theorem finIO_nx {r : Env} : finIO (.ok .nx (.ow p :: r)) = .ok false .non p := (rfl)
theorem finIO_val {r : Env} : finIO (.ok (.rt (.val d)) (.ow p :: r)) = .ok false d p := (rfl)
theorem finIO_new {r : Env} : finIO (.ok (.rt (.new d)) (.ow p :: r)) = .ok true d p := (rfl)
theorem finIO_slot {r : Env} : finIO (.ok (.rt (.slot (k + 1))) (.ow p :: r)) = match r[k]? with
    | some (.sh d) => .ok false d p
    | some (.ow d) => .ok true d p
    | _ => .bad := by
  have h : outTk (.slot (k + 1)) (.ow p :: r) = (match r[k]? with
    | some (.sh d) => some (false, d)
    | some (.ow d) => some (true, d)
    | _ => none) := rfl
  show (match outTk (.slot (k + 1)) (.ow p :: r), own0 (.ow p :: r) with
    | some (nw, d), some p => Rf.ok nw d p
    | _, _ => .bad) = _
  rw [h]
  cases r[k]? with
  | none => rfl
  | some s => cases s <;> rfl
theorem finIO_ex {r : Env} : finIO (.ex c ns ds (.ow p :: r)) = .ex c ns ds p := (rfl)
theorem entry_eq {n : Nat} : entry n ds = ds.map .sh ++ List.replicate (n - ds.length) .no := (rfl)
theorem entryIO_eq {n : Nat} : entryIO n d ds = .ow d :: (ds.map .sh ++ List.replicate (n - 1 - ds.length) .no) := (rfl)
end
end VM

set_option Elab.async false
set_option linter.all false
set_option maxRecDepth 100000
set_option maxHeartbeats 1000000
/-! VM R: xs[::-1], xs.insert(i, x), calls with keywords -/
namespace VM
open PySem PySem.Spec PyProof.Rows L2
section
variable {X : Cx} {y : Y} {a e ei : Expr} {es : List Expr} {m mi : M Tk} {ma mb : M (List Tk)} {pos p : Pos}
def dRev : D → Option Tk
  | .lst xs => some (.new (.lst xs.reverse))
  | _ => none
theorem px_rev1 {k : Nat} {p1 p2 p3 : Pos} (ha : PX X y a m) : PX X y (.Subscript a (.Slice none none (some (.UnaryOp .USub (.Constant (.int 1) k p1) p2)) p3) pos) (mUn dRev m) :=
  ⟨PE_imp (pe_revL ha.pe) fun σ H Q ⟨env, Hk, G, re, q⟩ => ⟨env, Hk, G, re, po_bind q fun t e1 v Hk' H1 k1 r1 rt q1 => by
    unfold mLook1 at q1
    cases z : look t e1 with
    | none => rw [z] at q1; exact q1.elim
    | some d =>
      rw [z] at q1
      dsimp only at q1
      unfold mOf at q1
      cases d with
      | lst xs =>
        obtain ⟨b, vs, rfl, h1, h2⟩ := (rt.look r1 z).lst r1.hk
        refine ⟨b, vs, rfl, sqL h1, fun l hl => ?_⟩
        obtain ⟨Hk2, k2, r2, rz⟩ := r1.res (res_lst hl h2.reverse)
        exact q1 _ Hk2 _ k2 r2 rz
      | _ => exact q1.elim⟩⟩
/-- x.insert(i, e) -/
def mIns (k : Nat) (mi m : M Tk) : M Tk := fun env => match owL k env with
  | none => .bad
  | some _ => mBind mi (fun ti => mBind m (fun t e2 => match look ti.settle e2 with
    | some (.int i) => match force t e2 with
      | .ok d e3 => match owL k e3 with
        | some xs => if 0 ≤ i ∧ i ≤ (xs.length : Int) ∧ xs.length < lim then .ok (.val .non) (e3.set k (.ow (.lst (xs.take i.toNat ++ [d] ++ xs.drop i.toNat)))) else .bad
        | none => .bad
      | _ => .bad
    | _ => .bad)) env
def rIns : V → List V → Hp → VK → Prop := fun x vs H Q => ∃ (l : Addr) (xs : List V) (i : Int) (y : V), x = .ref l ∧ vs = [.int i, y] ∧ H l = some (.lst xs) ∧ xs.length < sizeLine ∧ 0 ≤ i ∧ i < 2 ^ 63 ∧
    Q .non (upd H l (.lst (xs.take i.toNat ++ [y] ++ xs.drop i.toNat)))
theorem px_ins {k : Nat} {o : Expr} (hi : PX X y ei mi) (h : PX X y e m) (hs : PE X (.Call (.Attribute o "insert" p) [ei, e] [] pos) (tBM X.K "list" rIns (tVar k) (tCons (tE X y mi) (tCons (tE X y m) tNil)))) : PX X y (.Call (.Attribute o "insert" p) [ei, e] [] pos) (mIns k mi m) := by
  refine ⟨PE_imp hs fun σ H Q ⟨env, Hk, G, re, q⟩ => ?_⟩
  unfold mIns at q
  cases z : owL k env with
  | none => rw [z] at q; exact q.elim
  | some xs0 =>
    rw [z] at q
    obtain ⟨l, hl, _, _, vs0, g1, _⟩ := re.ow k _ (owL_at z)
    refine ⟨.ref l, hl, .inl ⟨rfl, vs0, sqL g1⟩, env, Hk, G, re, po_bind q fun ti e1 vi Hk1 H1 k1 r1 rt1 q1 => ?_⟩
    obtain ⟨Hk1', k1', r1', rv1⟩ := rt1.settle r1
    refine ⟨e1, Hk1', G, r1', po_bind (q1.kx k1') fun t e2 v Hk2 H2 k2 r2 rt2 q2 => ?_⟩
    have rti := ((rv1.kx k2).rt (G := G) (env := e2) (H := H2))
    cases z1 : look ti.settle e2 with
    | none => rw [z1] at q2; exact q2.elim
    | some di =>
      rw [z1] at q2
      cases di with
      | int i =>
        have hi := (rti.look r2 z1).int
        subst hi
        dsimp only at q2
        rcases force_cases t e2 with ⟨d, e3, z2⟩ | z2
        · rw [z2] at q2
          dsimp only at q2
          obtain ⟨Hk3, k3, r3, rd⟩ := rt2.force r2 z2
          cases z3 : owL k e3 with
          | none => rw [z3] at q2; exact q2.elim
          | some xs =>
            rw [z3] at q2
            dsimp only at q2
            split at q2
            · rename_i hlen
              obtain ⟨h0, h1, h2⟩ := hlen
              obtain ⟨l', hl', w1, w2, vs, w3, w4⟩ := r3.ow k _ (owL_at z3)
              rw [hl] at hl'
              cases hl'
              have h63 : i < 2 ^ 63 := by unfold lim at h2; omega
              refine ⟨l, vs, i, v, rfl, rfl, w3, by rw [← w4.len]; exact lim_line h2, h0, h63, ?_⟩
              exact q2 .non Hk3 _ k3 (r3.mut (owL_at z3) hl ⟨w2, _, upd_same, ((w4.take _).append (.cons rd .nil)).append (w4.drop _)⟩) (rp_non (C := y.ct X) (H := Hk3))
            · exact q2.elim
        · rw [z2] at q2; exact q2.elim
      | _ => exact q2.elim
/-! ### f(e, .., k = v, ..) -/
def mCat (ma mb : M (List Tk)) : M (List Tk) := mBind ma fun ts => mBind mb fun us env => .ok (ts ++ us) env
structure CFK (P : Program) (w : World) (K : PySem.W.Frag) (mg : Str → Option Value) (base : Heap) (cm : Nat → Addr) (x : Str) (k n : Nat) (ks ps : List Str) (F : List D → Rf) : Prop where
  ex : ∃ f fd g, FnOk P w K mg base (L2.CX P w) k f fd ps (spF ⟨K, cm⟩ ps.length F) ∧ mg x = some (.ref f) ∧ PySem.W.keepIn K (.ref f) = true ∧ KBn K fd ps n ks g (fun vs zs => vs ++ zs)
theorem RVs.cat {C : Ct} {σ : L2.St} {Hk : Hp} : ∀ {ts : List Tk} {vs : List V} {us : List Tk} {ws : List V}, RVs C σ Hk ts vs → RVs C σ Hk us ws → RVs C σ Hk (ts ++ us) (vs ++ ws)
  | _, _, _, _, .nil, h => h
  | _, _, _, _, .cons h1 h2, h => .cons h1 (RVs.cat h2 h)
/-- a run of a def with keywords' values; what it raises is told by the caller's slots -/
theorem keyed_run {Z : Cx} {n k : Nat} {ks ps : List Str} {f : Addr} {fd : FuncData} {sp : Sp} {g : List Value → List Value → List Value} {gV : List V → List V → List V} {W : XK} (FO : FnOk Z.prog Z.w Z.K Z.mg Z.base (L2.CX Z.prog Z.w) k f fd ps sp) (room : Room k Z.A) (kb : KBn Z.K fd ps n ks g gV)
    {pins : List (Addr × Obj)} {σ : L2.St} (ps' : PassesAt (L2.CX Z.prog Z.w) Z σ W) {H : Hp} {s : Shared} {Q : VK} {us ws : List Value} {vs zs : List V} (J : Inv Z pins σ H s) (ru : Vals vs us) (rw' : Vals zs ws) (lu : vs.length = n) (lw : zs.length = ks.length) (hsp : sp (gV vs zs) H Q W) :
    wpAny (model Z.prog Z.w) Z.A (call (.ref f) us (ks.zip ws)) (EP Z pins σ Q) Z.xe s :=
  wpAny_call (codeAny_mono (FO.run Z.A Z.stack s H ⟨us, ks.zip ws⟩ (g us ws) (gV vs zs) Q W room J.env0 (kb.to s us ws J.kIn (ru.length ▸ lu) (rw'.length ▸ lw)) (kb.rel ru rw') hsp) (fun r s' hq => match r with
    | .error e => ps' pins H s e s' J hq
    | .ok (.ret _) => J.after hq
    | .ok .next => hq.elim
    | .ok .brk => hq.elim
    | .ok .cont => hq.elim))
theorem px_callK {x : Str} {F : List D → Rf} {k kk n : Nat} {ks ps : List Str} {kws : List Keyword} (h : CFK X.prog X.w X.K X.mg X.base y.cm x k n ks ps F) (hr : Room kk X.A) (tk : Takes X y.W) (ha : PAs X y (e :: es) ma) (hkw : PK X kws (tA X y mb))
    (hn : Many ma n := by repeat first | exact many_nil | refine many_cons ?_) (hn2 : Many mb ks.length := by repeat first | exact many_nil | refine many_cons ?_) (hps : n + ks.length = ps.length := by rfl) (hk : k ≤ kk := by decide) (hg : Gl X x := by rfl)
    (hall : (backToKw pos (keywordEach kws X.env)).all (·.1.isSome) = true := by rfl) (hks : (backToKw pos (keywordEach kws X.env)).filterMap (·.1) = ks := by rfl)
    (hdb : (x == ("__debug__" : Str)) = false := by decide) (he : starEach (e :: es) X.env = (false, eval e X.env) :: starEach es X.env := by rfl)
    (hpl : ((backTo pos (starEach (e :: es) X.env)).any (·.1) || (backToKw pos (keywordEach kws X.env)).any (·.1.isNone)) = false := by rfl) : PX X y (.Call (.Name x p) (e :: es) kws pos) (mCallF F (mCat ma mb)) := by
  obtain ⟨f, fd, g, h1, h2, h3, h4⟩ := h.ex
  refine ⟨⟨fun pins s σ H Q I hq => ?_⟩⟩
  obtain ⟨env, Hk, G, re, q⟩ := hq
  refine wpAny_Call_Name_kw (ld_glob I hg h2 ?_ hdb)
  have q' : PoE (y.ct X) y.xa y.W G σ Hk (mBind ma (fun ts => mBind mb fun us env => (match lookAll (ts ++ us) env with
    | none => .bad
    | some ds => match F ds with
      | .ok nw d _ => if apart nw d = true then .ok (tkOf nw d) env else match forceAll (ts ++ us) env with
        | .ok _ e => .ok (tkOf nw d) e
        | _ => .bad
      | .ex c ns xs _ => if xs.all D.flat = true then .ex c ns xs env else match forceAll (ts ++ us) env with
        | .ok _ e => .ex c ns xs e
        | _ => .bad
      | .bad => .bad)) env) Q := by
    unfold mCallF mCat at q
    unfold mBind at q ⊢
    cases z : ma env with
    | ok ts e1 =>
      rw [z] at q
      dsimp only at q ⊢
      cases z2 : mb e1 with
      | ok us e2 => rw [z2] at q; exact q
      | ex c ns ds e2 => rw [z2] at q; exact q
      | bad => rw [z2] at q; exact q
    | ex c ns ds e1 => rw [z] at q; exact q
    | bad => rw [z] at q; exact q
  have q2 : tA X y ma σ H (fun vs H1 => tA X y mb σ H1 fun zs H2 => vs.length = n ∧ zs.length = ks.length ∧ spF (y.ct X) ps.length F (vs ++ zs) H2 Q (WE y.W σ)) :=
    ⟨env, Hk, G, re, pa_bindN hn q' fun ts e1 vs Hk1 H1 k1 r1 rs hl q1 => ⟨e1, Hk1, G, r1, pa_bindN hn2 q1 fun us e2 zs Hk2 H2 k2 r2 rs2 hl2 q2 => by
      have rc := (rs.kx k2).cat rs2
      refine ⟨by rw [← rs.len]; exact hl, by rw [← rs2.len]; exact hl2, ?_⟩
      exact callF_go r2 rc (by rw [← rc.len, List.length_append, hl, hl2]; exact hps) q2⟩⟩
  refine PySem.W.callWith_KW (h₀ := X.base) I.ok.mod.kin h3 hall (thn (ha.pa.run pos pins s σ H _ I q2) fun us s1 ⟨vs, H1, I1, r, q3⟩ => ?_) hpl he
  refine thn (hkw.run pos pins s1 σ H1 _ I1 q3) fun ws s2 ⟨zs, H2, I2, rz, l1, l2, q4⟩ => ⟨I2.kIn, ?_⟩
  rw [hks]
  exact keyed_run h1 (hr.mono hk) h4 (passAt tk σ) I2 r rz l1 l2 q4
theorem pk_one {nm : Option Str} {kp : Pos} (h : PX X y e m) : PK X [⟨nm, e, kp⟩] (tA X y (mCons m mNil)) := by
  refine ⟨fun pos pins s σ H Q I ⟨env, Hk, G, re, q⟩ => (pk_cons h.pe pk_nil).run pos pins s σ H Q I ⟨env, Hk, G, re, ?_⟩⟩
  unfold mCons mNil mBind at q
  cases z : m env with
  | ok t e1 =>
    rw [z] at q
    intro v Hk1 H1 k1 r1 rt1
    obtain ⟨Hk1', k1', r1', rv1⟩ := rt1.settle r1
    exact q [v] Hk1' H1 (k1.trans k1') r1' (.cons rv1 .nil)
  | ex c ns ds e1 => rw [z] at q; exact q
  | bad => rw [z] at q; exact q
theorem cfk_mk {P : Program} {w : World} {K : PySem.W.Frag} {mg : Str → Option Value} {base : Heap} {cm : Nat → Addr} {x : Str} {k n : Nat} {ks ps : List Str} {F : List D → Rf} {f : Addr} {fd : FuncData} (h : FnOk P w K mg base (L2.CX P w) k f fd ps (spF ⟨K, cm⟩ ps.length F)) (hm : mg x = some (.ref f))
    (hk : PySem.W.keepIn K (.ref f) = true) (hb : ∃ its : List Value, KBn K fd ps n ks (fun us ws => (fun (us _ ws : List Value) => us ++ ws) us its ws) (fun vs zs => vs ++ zs)) : CFK P w K mg base cm x k n ks ps F :=
  let ⟨_, h1⟩ := hb
  ⟨f, fd, _, h, hm, hk, h1⟩
/-! ### meanings applied -/
variable {env : Env}
theorem a_ins {k : Nat} : mIns k mi m env = match owL k env with
  | none => .bad
  | some _ => bindR (mi env) fun ti e1 => bindR (m e1) fun t e2 => match look ti.settle e2 with
    | some (.int i) => match force t e2 with
      | .ok d e3 => match owL k e3 with
        | some xs => if 0 ≤ i ∧ i ≤ (xs.length : Int) ∧ xs.length < lim then .ok (.val .non) (e3.set k (.ow (.lst (xs.take i.toNat ++ [d] ++ xs.drop i.toNat)))) else .bad
        | none => .bad
      | _ => .bad
    | _ => .bad := (rfl)
theorem a_cat : mCat ma mb env = bindR (ma env) fun ts e1 => bindR (mb e1) fun us e2 => .ok (ts ++ us) e2 := (rfl)
theorem e_revL {xs : List D} : dRev (.lst xs) = some (.new (.lst xs.reverse)) := (rfl)
end
end VM

set_option Elab.async false
set_option linter.all false
set_option maxRecDepth 100000
set_option maxHeartbeats 1000000
/-! VM S: a def that calls nothing, called within an except suite -/
namespace VM
open PySem PySem.Spec PyProof.Rows L2
section
variable {P : Program} {w : World} {K : PySem.W.Frag} {mg : Str → Option Value} {base : Heap} {cm : Nat → Addr}
/-- a def's promise where an exception is being handled -/
structure FnU (P : Program) (w : World) (K : PySem.W.Frag) (mg : Str → Option Value) (base : Heap) (k : Nat) (f : Addr) (fd : FuncData) (ps : List Str) (sp : Sp) : Prop where
  len : ∀ vs H Q E, sp vs H Q E → vs.length = ps.length
  run : ∀ (A : Around) (outer : List PySem.Env) (s : Shared) (H : Hp) (args : Args) (us : List Value) (vs : List V) (Q : VK) (E : XK) (p : Addr × Obj), L2H.RoomH k A → L2H.PinOk outer H s p → Env0 P w K mg base A outer s H → BindsTo s fd args (ps.zip us) → Vals vs us → sp vs H Q E →
    codeAny (model P w) A (.call (.ref f) args) (CR (L2.CX P w) outer P w H s Q E) s
theorem fnU_of {f : Addr} {x qual : Str} {st : Stmt} {fd : FuncData} {N ps : List Str} {sp : Sp} {k : Nat} (F : Fun K x qual st f fd) (S : FnScope N ps (defScope st)) (len : ∀ vs H Q E, sp vs H Q E → vs.length = ps.length)
    (hb : ∀ (cdv : Value) (A : Around) (outer : List PySem.Env) (s : Shared) (H : Hp) (vs : List V) (Q : VK) (E : XK) (p : Addr × Obj), sp vs H Q E →
      ∃ t, PSs (L2H.cxH (L2.CX P w) P w K mg base N qual (defScope st) f cdv A outer s H E p) (defBody st) t ∧ t { nx := fun _ H' => Q .non H', rt := Q } (L2.start N vs) H) :
    FnU P w K mg base (k + 1) f fd ps sp := by
  obtain ⟨oc, od, kV, doc, pm, an, cdv, ct, osl, rfl, look, code⟩ := F.ex
  refine ⟨len, fun A outer s H args us vs Q E p room pin env bt rel hsp => ?_⟩
  have inK : K.In s.heap := env.mod.kin.keeps fun b o e => (env.bs b o e).1
  have free : s.heap.NoLimit := env.mod.nolimit.keeps fun b o e => (env.bs b o e).1
  refine codeAny_call_function room.depth (inK _ _ look) rfl S.co S.gen rfl (PySem.W.codeRec_of inK code) (bt _ _ _ _ (wpAny_newFunctionEnv_cells S.kind (fun ⟨n, v⟩ hy => ?_) fun e2 he s1 x => ?_))
  · exact (S.par n (List.of_mem_zip hy).1).imp id fun q => ⟨q, PySem.W.cellsFrom_some _ _ _ (.inl q)⟩
  subst he
  refine ⟨free.keeps x.toInCall.keep, codeAny_func ?_⟩
  obtain ⟨t, ht, hq⟩ := hb cdv A outer s H vs Q E p hsp
  refine wpAny_mono (ht.run [] s1 (L2.start N vs) H _ (L2H.inv_startH S pin env (len _ _ _ _ hsp) rel x) hq) (fun fl s' hs => ?_) fun e s' hs => hs
  match fl, hs with
  | .ret u, ⟨v, σ', H', J, rv, q⟩ => exact ⟨v, H', J.os, J.bare, J.base, J.hok, rv, q⟩
  | .next, ⟨σ', H', J, q⟩ => exact ⟨V.non, H', J.os, J.bare, J.base, J.hok, (rfl : RelV V.non Value.none), q⟩
  | .brk, ⟨_, _, _, q⟩ => exact q.elim
  | .cont, ⟨_, _, _, q⟩ => exact q.elim
theorem fnU_ok {x qual : Str} {st : Stmt} {f : Addr} {fd : FuncData} {N ps : List Str} {body : M Fl} (F : Fun K x qual st f fd) (S : FnScope N ps (defScope st)) (hl : ps.length ≤ N.length)
    (hb : ∀ (cdv : Value) (A : Around) (outer : List PySem.Env) (s : Shared) (H : Hp) (E : XK) (p : Addr × Obj), PSSx (L2H.cxH (L2.CX P w) P w K mg base N qual (defScope st) f cdv A outer s H E p) (yF cm E) (defBody st) body) :
    FnU P w K mg base 1 f fd ps (spF ⟨K, cm⟩ ps.length (mkF N.length body)) := by
  refine fnU_of (k := 0) F S (fun vs H Q E h => h.1) fun cdv A outer s H vs Q E p h => ⟨_, (hb cdv A outer s H E p).pss, ?_⟩
  obtain ⟨hn, ds, Hk, e, rl, q⟩ := h
  refine ⟨entry N.length ds, Hk, H, entry_re e rl (by omega), ?_⟩
  unfold mkF at q
  cases z : body (entry N.length ds) with
  | bad => rw [z] at q; exact q.elim
  | ex c ns xs e1 =>
    rw [z] at q
    exact fun cls dd σ' Hk' H' k' r' rx => q cls dd Hk' H' k' r'.hk r'.g rx
  | ok fl e1 =>
    rw [z] at q
    cases fl with
    | nx => exact fun σ' Hk' H' k' r' => q .non Hk' H' k' r'.hk r'.g (rp_non (C := ⟨K, cm⟩) (H := Hk'))
    | bk => exact q.elim
    | ct => exact q.elim
    | rt t =>
      intro v σ' Hk' H' k' r' rt
      unfold fin at q
      dsimp only at q
      cases z2 : outTk t e1 with
      | none => rw [z2] at q; exact q.elim
      | some o =>
        obtain ⟨nw, d⟩ := o
        rw [z2] at q
        exact q v Hk' H' k' r'.hk r'.g (outTk_bk r' rt z2)
structure CU (P : Program) (w : World) (K : PySem.W.Frag) (mg : Str → Option Value) (base : Heap) (cm : Nat → Addr) (x : Str) (k : Nat) (ps : List Str) (F : List D → Rf) : Prop where
  ex : ∃ f fd, FnU P w K mg base k f fd ps (spF ⟨K, cm⟩ ps.length F) ∧ mg x = some (.ref f) ∧ PySem.W.keepIn K (.ref f) = true ∧ Binds K fd ps []
end
section
variable {X : Cx} {y : Y} {e : Expr} {es : List Expr} {ma : M (List Tk)} {pos p : Pos} {F : List D → Rf} {k : Nat} {ps : List Str} {x : Str}
theorem roomU {k kk : Nat} {A : Around} {u : Option Value} (h : Room kk A) (hk : k ≤ kk := by decide) : L2H.RoomH k (A.mark u) :=
  ⟨by have := h.dp; show A.depth + 3 * k + 5 < _; omega, by have := h.un; show A.units + 16 * k + 200 < _; omega⟩
theorem px_callU (h : CU X.prog X.w X.K X.mg X.base y.cm x k ps F) (hr : L2H.RoomH k X.A) (hp : ∃ p, p ∈ X.pn) (tk : Takes X y.W) (ha : PAs X y (e :: es) ma) (hn : Many ma ps.length := by repeat first | exact many_nil | refine many_cons ?_) (hg : Gl X x := by rfl) (hdb : (x == ("__debug__" : Str)) = false := by decide)
    (he : starEach (e :: es) X.env = (false, eval e X.env) :: starEach es X.env := by rfl) (hpl : (backTo pos (starEach es X.env)).any (·.1) = false := by rfl) : PX X y (.Call (.Name x p) (e :: es) [] pos) (mCallF F ma) := by
  obtain ⟨f, fd, h1, h2, h3, h4⟩ := h.ex
  obtain ⟨pp, hpp⟩ := hp
  refine ⟨⟨fun pins s σ H Q I hq => ?_⟩⟩
  obtain ⟨env, Hk, G, re, q⟩ := hq
  refine wpAny_Call_Name_kw (ld_glob I hg h2 ?_ hdb)
  have q2 : tA X y ma σ H (fun vs H1 => spF (y.ct X) ps.length F vs H1 Q (WE y.W σ)) := ⟨env, Hk, G, re, pa_bindN hn q fun ts e vs Hk' H1 k1 r1 rs hl q1 => callF_go r1 rs (by rw [← rs.len]; exact hl) q1⟩
  refine PySem.W.callWith_K (h₀ := X.base) I.ok.mod.kin h3 (thn (ha.pa.run pos pins s σ H _ I q2) fun us s1 ⟨vs, H1, I1, r, q3⟩ => ⟨I1.kIn, ?_⟩) he hpl
  have at1 := I1.pin pp (List.mem_append_left _ hpp)
  have bt := h4 s1 us I1.kIn (by rw [List.append_nil, ← r.length]; exact q3.1)
  rw [List.append_nil] at bt
  refine wpAny_call (codeAny_mono (h1.run X.A X.stack s1 H1 ⟨us, []⟩ us vs Q (WE y.W σ) pp hr ⟨at1.1, at1.2.1, fun hm => (List.mem_cons.mp (I1.stkSub pp.1 hm)).elim at1.2.2.1 at1.2.2.2.1, at1.2.2.2.2⟩ I1.env0 bt r q3) fun r s' hq => ?_)
  match r, hq with
  | .error e, hq => exact passAt tk σ pins H1 s1 e s' I1 hq
  | .ok (.ret u), hq => exact I1.after hq
  | .ok .next, hq => exact hq.elim
  | .ok .brk, hq => exact hq.elim
  | .ok .cont, hq => exact hq.elim
end
end VM

set_option Elab.async false
set_option linter.all false
set_option maxRecDepth 100000
set_option maxHeartbeats 1000000
/-! VM T: small helps for the mathematics -/
namespace VM
open PySem PySem.Spec PyProof.Rows L2
section
variable {g : D → Env → Option Env} {junk own : List Nat} {body : M Fl} {elt : M Tk} {E e1 e3 e4 E' : Env} {d d' : D} {t : Tk}
theorem lcV (h1 : g d E = some e1) (h2 : elt e1 = .ok (.val d') e3) (h4 : wipeE own e3 = E') : LcOne g own mYes elt E d d' E' := ⟨e1, e1, .val d', e3, e3, h1, rfl, h2, rfl, h4⟩
theorem lcN (h1 : g d E = some e1) (h2 : elt e1 = .ok (.new d') e3) (h4 : wipeE own e3 = E') : LcOne g own mYes elt E d d' E' := ⟨e1, e1, .new d', e3, e3, h1, rfl, h2, rfl, h4⟩
theorem lcF (h1 : g d E = some e1) (h2 : elt e1 = .ok t e3) (h3 : force t e3 = .ok d' e4) (h4 : wipeE own e4 = E') : LcOne g own mYes elt E d d' E' := ⟨e1, e1, t, e3, e4, h1, rfl, h2, h3, h4⟩
theorem seq_go {m k : M Fl} {env e : Env} {r : Rs Fl} (h : m env = .ok .nx e) (q : k e = r) : mSeq m k env = r := (seq_ok h).trans q
theorem seq_end {m k : M Fl} {env e : Env} {t : Tk} (h : m env = .ok .nx e) (r : ∃ e', k e = .ok (.rt t) e') : ∃ e', mSeq m k env = .ok (.rt t) e' := by
  obtain ⟨e', r⟩ := r
  exact ⟨e', (seq_ok h).trans r⟩
theorem fin_rt {m : M Fl} {n : Nat} {ds : List D} {d : D} (h : ∃ e, m (entry n ds) = .ok (.rt (.val d)) e) : mkF n m ds = .ok false d .non := by
  obtain ⟨e, h⟩ := h
  show fin (m (entry n ds)) = _
  rw [h]; rfl
theorem rngD_cons (lo : Int) (n : Nat) : rngD lo (n + 1) = .int lo :: rngD (lo + 1) n := by
  unfold rngD
  rw [List.range_succ_eq_map, List.map_cons, List.map_map]
  congr 1
  · simp
  · refine List.map_congr_left fun i _ => ?_
    show D.int (lo + ((i + 1 : Nat) : Int)) = D.int (lo + 1 + (i : Int))
    congr 1
    omega
/-- the state behind n turns, or where it ends -/
def upTo {α : Type} (st : Nat → α → α) (ok : Nat → α → Bool) : Nat → Nat → α → Sum (Nat × α) α
  | 0, _, a => .inr a
  | n + 1, r, a => if ok r a = true then upTo st ok n (r + 1) (st r a) else .inl (r, a)
/-- a loop over a range that carries a state and may end: by a word of the turn -/
theorem loop_up {α : Type} (N : Nat) (E : Nat → α → Env) (st : Nat → α → α) (ok : Nat → α → Bool) (R : Nat → α → Rs Fl) (I : Nat → α → Prop)
    (hI : ∀ r a, r < N → I r a → ok r a = true → I (r + 1) (st r a)) (hR : ∀ r a, (∀ e, R r a ≠ .ok .nx e) ∧ ∀ e, R r a ≠ .ok .bk e)
    (h : ∀ r a, r < N → I r a → turn g junk body (.int (r : Nat)) (E r a) = if ok r a = true then .ok .nx (E (r + 1) (st r a)) else R r a) : ∀ (n r : Nat) (a : α), r + n = N → I r a →
    mLoop g junk body (rngD (r : Nat) n) (E r a) = match (upTo st ok n r a) with
      | .inl (r, a) => R r a
      | .inr a => .ok .nx (E N a)
  | 0, r, a, hn, _ => by obtain rfl : r = N := hn; rfl
  | n + 1, r, a, hn, hi => by
    rw [rngD_cons, loop_cons, h r a (by omega) hi]
    unfold upTo
    by_cases c : ok r a = true
    · rw [if_pos c, if_pos c]
      have ih := loop_up N E st ok R I hI hR h n (r + 1) (st r a) (by omega) (hI r a (by omega) hi c)
      rw [show ((r + 1 : Nat) : Int) = (r : Int) + 1 by omega] at ih
      exact ih
    · rw [if_neg c, if_neg c]
      have := hR r a
      cases z : R r a with
      | ok fl e =>
        cases fl with
        | nx => exact absurd z (this.1 e)
        | bk => exact absurd z (this.2 e)
        | _ => exact z.symm
      | _ => exact z.symm
theorem upTo_inv {α : Type} {st : Nat → α → α} {ok : Nat → α → Bool} (I : Nat → α → Prop) (N : Nat) (hI : ∀ r a, r < N → I r a → ok r a = true → I (r + 1) (st r a)) : ∀ (n r : Nat) (a b : α), r + n = N → I r a → upTo st ok n r a = .inr b → I N b
  | 0, r, a, b, hn, hi, h => by obtain rfl : r = N := hn; cases h; exact hi
  | n + 1, r, a, b, hn, hi, h => by
    unfold upTo at h
    by_cases c : ok r a = true
    · rw [if_pos c] at h
      exact upTo_inv I N hI n (r + 1) (st r a) b (by omega) (hI r a (by omega) hi c) h
    · rw [if_neg c] at h; cases h
end
end VM

set_option Elab.async false
set_option linter.all false
set_option maxRecDepth 100000
set_option maxHeartbeats 1000000
/-! VM U: zip of a tuple with a list, of a list with a tuple -/
namespace VMU
open PySem PySem.Spec PyProof.Rows L2
/-- a list's (t = false) or a tuple's (t = true) iterator, at the place k -/
def itK (t : Bool) (hp : PySem.Heap) (it l : Addr) (k : Nat) : Prop := match t with
  | true => hp.IsTupleIter it l k
  | false => hp.IsListIter it l k
def sqK (t : Bool) (hp : PySem.Heap) (l : Addr) (xs : Array Value) : Prop := match t with
  | true => hp.IsTuple l xs
  | false => hp.IsList l xs
section
variable {t : Bool} {hp hp' : PySem.Heap} {it l c : Addr} {k : Nat} {xs : Array Value}
theorem itK.ext (x : itK t hp it l k) (e : Heap.ExtBut c hp hp') (ne : it ≠ c) : itK t hp' it l k := by
  cases t
  · exact Heap.IsListIter.extBut x e ne
  · exact Heap.IsTupleIter.extBut x e ne
theorem itK.move (x : itK t hp it l k) (e : ∀ o, hp.get? it = some o → hp'.get? it = some o) : itK t hp' it l k := by
  cases t
  · exact Heap.IsListIter.at x e
  · exact Heap.IsTupleIter.at x e
theorem sqK.ext (x : sqK t hp l xs) (e : Heap.ExtBut c hp hp') (ne : l ≠ c) : sqK t hp' l xs := by
  cases t
  · exact Heap.IsList.extBut x e ne
  · exact Heap.IsTuple.extBut x e ne
theorem sqK.push (x : sqK t hp l xs) (o : Obj) : sqK t (hp.push o) l xs := by
  cases t
  · exact Heap.IsList.push x o
  · exact Heap.IsTuple.push x o
theorem itK.obj (x : itK t hp it l k) : ∃ o, hp.get? it = some o ∧ ∃ vs, o.data = .fields vs := by
  cases t <;> (obtain ⟨o, a, _, d⟩ := x; exact ⟨o, a, _, d⟩)
end
section
variable {prog : Program} {w : World} {A : Around} {E : Value → Shared → Prop} {s : Shared}
theorem nextK_item {t : Bool} {it l : Addr} {k : Nat} {xs : Array Value} {x : Value} {Q : Value → Shared → Prop} (ji : itK t s.heap it l k) (ls : sqK t s.heap l xs) (gx : xs[k]? = some x)
    (kq : ∀ hp', itK t hp' it l (k + 1) → Heap.SameBut it s.heap hp' → Q x { s with heap := hp' }) : wpAny (model prog w) A (Builtin.SmallTypes.nextOf (.ref it)) Q E s := by
  cases t
  · exact wpAny_nextOf_list_item ji ls gx fun g a b => kq g a b
  · exact RZ.nextOf_tuple_item ji ls gx fun g a b => kq g a b
theorem nextK_end {t : Bool} {it l : Addr} {k : Nat} {xs : Array Value} {Q : Value → Shared → Prop} (na : A.handled = none) (ji : itK t s.heap it l k) (ls : sqK t s.heap l xs) (gx : xs[k]? = none)
    (ke : ∀ hp' e, Heap.ExtBut it s.heap hp' → (∃ o, hp'.get? e = some o ∧ o.cls = .type "StopIteration") → E (.ref e) { s with heap := hp' }) : wpAny (model prog w) A (Builtin.SmallTypes.nextOf (.ref it)) Q E s := by
  cases t
  · exact wpAny_nextOf_list_end na ji ls gx fun g e a b => ke g e a b
  · exact RZ.nextOf_tuple_end na ji ls gx fun g e a b => ke g e a b
variable {t1 t2 : Bool} {zp PI PO ia ib lx ly : Addr} {ka kb : Nat} {xs ys : Array Value}
theorem zipK_item {x y p0 p1 : Value} {Q : Value → Shared → Prop} (AP : ZipApart zp PI PO ia ib lx ly) (zz : IsZip s.heap zp PI PO .none) (zi : IsPair s.heap PI (.ref ia) (.ref ib)) (zo : IsPair s.heap PO p0 p1)
    (ja : itK t1 s.heap ia lx ka) (jb : itK t2 s.heap ib ly kb) (qa : sqK t1 s.heap lx xs) (qb : sqK t2 s.heap ly ys) (gx : xs[ka]? = some x) (gy : ys[kb]? = some y)
    (kq : ∀ hp', IsZip hp' zp PI PO (rawInt s.heap.objs.size) → IsPair hp' PO x y → itK t1 hp' ia lx (ka + 1) → itK t2 hp' ib ly (kb + 1) → IsPair hp' s.heap.objs.size x y → hp'.objs.size = s.heap.objs.size + 1 →
      (∀ c o, c ≠ zp → c ≠ PO → c ≠ ia → c ≠ ib → s.heap.get? c = some o → hp'.get? c = some o) → Q (.ref s.heap.objs.size) { s with heap := hp' }) :
    wpAny (model prog w) A (Builtin.«zip.__next__» ⟨[.ref zp], []⟩) (fun fin s' => ∃ v, fin = .done (.ret v) ∧ Q v s') E s := by
  show wpAny _ _ (field (.ref zp) 2 >>= _) _ _ _
  refine wpAny_bind (wpAny_field zz rfl (x := .bool false) rfl ?_)
  show wpAny _ _ (field (.ref zp) 3 >>= _) _ _ _
  refine wpAny_bind (wpAny_field zz rfl (x := .ref PI) rfl ?_)
  refine wpAny_bind (wpAny_seqItems zi rfl ?_)
  show wpAny _ _ (Builtin.SmallTypes.ownedTupleIsFree (.ref zp) >>= _) _ _ _
  refine wpAny_bind ?_
  rw [Builtin.SmallTypes.ownedTupleIsFree]
  refine wpAny_bind (wpAny_field zz rfl (x := .none) rfl <| wpAny_pure ?_)
  rw [if_pos rfl]
  refine wpAny_bind (wpAny_rule ?_)
  refine wpAny_bind (wpAny_field zz rfl (x := .ref PO) rfl ?_)
  refine wpAny_bind (wpAny_setField_rec zz (by simp) fun ga za sa => ?_)
  replace za : IsZip ga zp PI PO .ellipsis := za
  refine wpAny_bind ?_
  simp only [List.zipIdx_nil, List.zipIdx_cons, List.forIn_nil, List.forIn_cons]
  refine wpAny_bind (wpAny_bind <| wpAny_onRaise ?_)
  show wpAny _ _ (Builtin.SmallTypes.nextOf (.ref ia) >>= _) _ _ _
  refine wpAny_bind (nextK_item (ja.ext sa.extBut AP.i1z) (qa.ext sa.extBut AP.l1z) gx fun gb j2 sb => wpAny_pure ?_)
  have ob : IsPair gb PO p0 p1 := sb.extBut _ _ AP.TOi1 (sa.extBut _ _ AP.TOz zo)
  refine wpAny_bind (wpAny_seqItems ob rfl ?_)
  refine wpAny_bind (wpAny_updateSeq_pair ob fun gc oc sc => ?_)
  replace oc : IsPair gc PO x p1 := oc
  refine wpAny_bind (wpAny_letGo <| wpAny_pure ?_)
  refine wpAny_bind (wpAny_bind <| wpAny_onRaise ?_)
  show wpAny _ _ (Builtin.SmallTypes.nextOf (.ref ib) >>= _) _ _ _
  refine wpAny_bind (nextK_item (((jb.ext sa.extBut AP.i2z).ext sb.extBut AP.i12.symm).ext sc.extBut AP.TOi2.symm) (((qb.ext sa.extBut AP.l2z).ext sb.extBut AP.l2i1).ext sc.extBut AP.l2TO) gy fun gd j4 sd => wpAny_pure ?_)
  have od : IsPair gd PO x p1 := sd.extBut _ _ AP.TOi2 oc
  refine wpAny_bind (wpAny_seqItems od rfl ?_)
  refine wpAny_bind (wpAny_updateSeq_pair od fun ge oe se => ?_)
  replace oe : IsPair ge PO x y := oe
  refine wpAny_bind (wpAny_letGo <| wpAny_pure <| wpAny_pure ?_)
  refine wpAny_bind (wpAny_seqItems oe rfl ?_)
  refine wpAny_bind (wpAny_newTuple ?_)
  have eqs : ge.objs.size = s.heap.objs.size := by rw [se.1, sd.1, sc.1, sb.1, sa.1]
  have ze : IsZip ge zp PI PO .ellipsis := se.extBut _ _ AP.TOz.symm (sd.extBut _ _ AP.i2z.symm (sc.extBut _ _ AP.TOz.symm (sb.extBut _ _ AP.i1z.symm za)))
  have kp : ∀ c o, c ≠ zp → c ≠ PO → c ≠ ia → c ≠ ib → s.heap.get? c = some o → ge.get? c = some o := fun c o u1 u2 u3 u4 e =>
    se.extBut _ _ u2 (sd.extBut _ _ u4 (sc.extBut _ _ u2 (sb.extBut _ _ u3 (sa.extBut _ _ u1 e))))
  have ja5 : itK t1 ge ia lx (ka + 1) := ((j2.ext sc.extBut AP.TOi1.symm).ext sd.extBut AP.i12).ext se.extBut AP.TOi1.symm
  have jb5 : itK t2 ge ib ly (kb + 1) := j4.ext se.extBut AP.TOi2.symm
  have ltz : zp < ge.objs.size := Heap.lt_size ze
  show wpAny _ _ (Builtin.SmallTypes.ownedTupleHandOut (.ref zp) (.ref ge.objs.size) >>= _) _ _ _
  refine wpAny_bind ?_
  rw [Builtin.SmallTypes.ownedTupleHandOut]
  have zf : IsZip (ge.push { cls := .type "tuple", data := .seq #[x, y] }) zp PI PO .ellipsis := Heap.get?_push_of_some _ ze
  refine wpAny_bind (wpAny_setField_rec zf (by simp) fun gg zg sg => ?_)
  replace zg : IsZip gg zp PI PO (rawInt ge.objs.size) := zg
  refine wpAny_setField_rec zg (by simp) fun gh zh sh => ?_
  replace zh : IsZip gh zp PI PO (rawInt ge.objs.size) := zh
  have up : ∀ c o, c ≠ zp → ge.get? c = some o → gh.get? c = some o := fun c o u1 e => sh.extBut _ _ u1 (sg.extBut _ _ u1 (Heap.get?_push_of_some _ e))
  have pT : IsPair gh ge.objs.size x y := sh.extBut _ _ (Nat.ne_of_gt ltz) (sg.extBut _ _ (Nat.ne_of_gt ltz) (Heap.get?_push_size _ rfl))
  have z8 : gh.objs.size = ge.objs.size + 1 := by rw [sh.1, sg.1, Heap.size_push]
  rw [eqs] at zh pT z8
  refine wpAny_pure ⟨_, rfl, ?_⟩
  show Q (.ref ge.objs.size) _
  rw [eqs]
  exact kq gh zh (up _ _ AP.TOz oe) (ja5.move fun o e => up _ o AP.i1z e) (jb5.move fun o e => up _ o AP.i2z e) pT z8 fun c o u1 u2 u3 u4 e => up c o u1 (kp c o u1 u2 u3 u4 e)
theorem zipK_end {p0 p1 : Value} {Q : Fin → Shared → Prop} (na : A.handled = none) (AP : ZipApart zp PI PO ia ib lx ly) (zz : IsZip s.heap zp PI PO .none) (zi : IsPair s.heap PI (.ref ia) (.ref ib)) (zo : IsPair s.heap PO p0 p1)
    (ja : itK t1 s.heap ia lx ka) (jb : itK t2 s.heap ib ly kb) (qa : sqK t1 s.heap lx xs) (qb : sqK t2 s.heap ly ys) (ge : xs[ka]? = none ∨ ys[kb]? = none)
    (ke : ∀ hp' e, (∀ c o, c ≠ zp → c ≠ PO → c ≠ ia → c ≠ ib → s.heap.get? c = some o → hp'.get? c = some o) → (∃ o, hp'.get? e = some o ∧ o.cls = .type "StopIteration") → E (.ref e) { s with heap := hp' }) :
    wpAny (model prog w) A (Builtin.«zip.__next__» ⟨[.ref zp], []⟩) Q E s := by
  show wpAny _ _ (field (.ref zp) 2 >>= _) _ _ _
  refine wpAny_bind (wpAny_field zz rfl (x := .bool false) rfl ?_)
  show wpAny _ _ (field (.ref zp) 3 >>= _) _ _ _
  refine wpAny_bind (wpAny_field zz rfl (x := .ref PI) rfl ?_)
  refine wpAny_bind (wpAny_seqItems zi rfl ?_)
  show wpAny _ _ (Builtin.SmallTypes.ownedTupleIsFree (.ref zp) >>= _) _ _ _
  refine wpAny_bind ?_
  rw [Builtin.SmallTypes.ownedTupleIsFree]
  refine wpAny_bind (wpAny_field zz rfl (x := .none) rfl <| wpAny_pure ?_)
  rw [if_pos rfl]
  refine wpAny_bind (wpAny_rule ?_)
  refine wpAny_bind (wpAny_field zz rfl (x := .ref PO) rfl ?_)
  refine wpAny_bind (wpAny_setField_rec zz (by simp) fun ga za sa => ?_)
  replace za : IsZip ga zp PI PO .ellipsis := za
  refine wpAny_bind ?_
  simp only [List.zipIdx_nil, List.zipIdx_cons, List.forIn_nil, List.forIn_cons]
  refine wpAny_bind (wpAny_bind <| wpAny_onRaise ?_)
  show wpAny _ _ (Builtin.SmallTypes.nextOf (.ref ia) >>= _) _ _ _
  cases gx : xs[ka]? with
  | none =>
    refine wpAny_bind (nextK_end na (ja.ext sa.extBut AP.i1z) (qa.ext sa.extBut AP.l1z) gx fun gb e sb st => ?_)
    obtain ⟨oe, oeq, ocl⟩ := st
    have zb : IsZip gb zp PI PO .ellipsis := sb _ _ AP.i1z.symm za
    have ne : e ≠ zp := fun q => by subst q; rw [zb] at oeq; cases oeq; simp at ocl
    refine wpAny_setField_rec zb (by simp) fun gc _ sc => ke gc e (fun c o u1 _ u3 _ q => sc.extBut _ _ u1 (sb _ _ u3 (sa.extBut _ _ u1 q))) ⟨oe, sc.extBut _ _ ne oeq, ocl⟩
  | some x =>
    have gy : ys[kb]? = none := by rcases ge with q | q; rw [gx] at q; cases q; exact q
    refine wpAny_bind (nextK_item (ja.ext sa.extBut AP.i1z) (qa.ext sa.extBut AP.l1z) gx fun gb j2 sb => wpAny_pure ?_)
    have ob : IsPair gb PO p0 p1 := sb.extBut _ _ AP.TOi1 (sa.extBut _ _ AP.TOz zo)
    refine wpAny_bind (wpAny_seqItems ob rfl ?_)
    refine wpAny_bind (wpAny_updateSeq_pair ob fun gc oc sc => ?_)
    refine wpAny_bind (wpAny_letGo <| wpAny_pure ?_)
    refine wpAny_bind (wpAny_bind <| wpAny_onRaise ?_)
    show wpAny _ _ (Builtin.SmallTypes.nextOf (.ref ib) >>= _) _ _ _
    refine wpAny_bind (nextK_end na (((jb.ext sa.extBut AP.i2z).ext sb.extBut AP.i12.symm).ext sc.extBut AP.TOi2.symm) (((qb.ext sa.extBut AP.l2z).ext sb.extBut AP.l2i1).ext sc.extBut AP.l2TO) gy fun gd e sd st => ?_)
    obtain ⟨oe, oeq, ocl⟩ := st
    have zd : IsZip gd zp PI PO .ellipsis := sd _ _ AP.i2z.symm (sc.extBut _ _ AP.TOz.symm (sb.extBut _ _ AP.i1z.symm za))
    have ne : e ≠ zp := fun q => by subst q; rw [zd] at oeq; cases oeq; simp at ocl
    refine wpAny_setField_rec zd (by simp) fun gf _ sf => ke gf e (fun c o u1 u2 u3 u4 q => sf.extBut _ _ u1 (sd _ _ u4 (sc.extBut _ _ u2 (sb.extBut _ _ u3 (sa.extBut _ _ u1 q))))) ⟨oe, sf.extBut _ _ ne oeq, ocl⟩
theorem pyZipK_item {x y p0 p1 : Value} {Q : Option Value → Shared → Prop} (AP : ZipApart zp PI PO ia ib lx ly) (zz : IsZip s.heap zp PI PO .none) (zi : IsPair s.heap PI (.ref ia) (.ref ib)) (zo : IsPair s.heap PO p0 p1)
    (ja : itK t1 s.heap ia lx ka) (jb : itK t2 s.heap ib ly kb) (qa : sqK t1 s.heap lx xs) (qb : sqK t2 s.heap ly ys) (gx : xs[ka]? = some x) (gy : ys[kb]? = some y)
    (kq : ∀ hp', IsZip hp' zp PI PO (rawInt s.heap.objs.size) → IsPair hp' PO x y → itK t1 hp' ia lx (ka + 1) → itK t2 hp' ib ly (kb + 1) → IsPair hp' s.heap.objs.size x y → hp'.objs.size = s.heap.objs.size + 1 →
      (∀ c o, c ≠ zp → c ≠ PO → c ≠ ia → c ≠ ib → s.heap.get? c = some o → hp'.get? c = some o) → Q (some (.ref s.heap.objs.size)) { s with heap := hp' }) : wpAny (model prog w) A (pyNext (.ref zp)) Q E s := by
  have ty : s.TypeIs (.ref zp) "zip" := ⟨_, zz, rfl⟩
  rw [pyNext]
  exact wpAny_bind (wpAny_attempt (wpAny_callSpecial?_slot (name := Str.ofString "__next__") ty F.slot_zip_next
    (wpAny_call_entry F.slot_zip_next ty F.entry_zip_next (zipK_item AP zz zi zo ja jb qa qb gx gy fun g a1 a2 a3 a4 a5 a6 a7 => wpAny_pure (kq g a1 a2 a3 a4 a5 a6 a7)) (F.args_zip_next_1 _))))
theorem pyZipK_end {p0 p1 : Value} {Q : Option Value → Shared → Prop} (na : A.handled = none) (AP : ZipApart zp PI PO ia ib lx ly) (zz : IsZip s.heap zp PI PO .none) (zi : IsPair s.heap PI (.ref ia) (.ref ib)) (zo : IsPair s.heap PO p0 p1)
    (ja : itK t1 s.heap ia lx ka) (jb : itK t2 s.heap ib ly kb) (qa : sqK t1 s.heap lx xs) (qb : sqK t2 s.heap ly ys) (ge : xs[ka]? = none ∨ ys[kb]? = none)
    (kq : ∀ hp', (∀ c o, c ≠ zp → c ≠ PO → c ≠ ia → c ≠ ib → s.heap.get? c = some o → hp'.get? c = some o) → Q none { s with heap := hp' }) : wpAny (model prog w) A (pyNext (.ref zp)) Q E s := by
  have ty : s.TypeIs (.ref zp) "zip" := ⟨_, zz, rfl⟩
  rw [pyNext]
  refine wpAny_bind (wpAny_attempt (wpAny_callSpecial?_slot (name := Str.ofString "__next__") ty F.slot_zip_next
    (wpAny_call_entry F.slot_zip_next ty F.entry_zip_next (zipK_end na AP zz zi zo ja jb qa qb ge fun g e kp st => ?_) (F.args_zip_next_1 _))))
  obtain ⟨o, oeq, ocl⟩ := st
  refine wpAny_bind (wpAny_isInstance (T := "StopIteration") (b := true) ⟨o, oeq, ocl⟩ isSubtype_stop ?_)
  exact wpAny_pure (kq _ kp)
end
end VMU

set_option Elab.async false
set_option linter.all false
set_option maxRecDepth 100000
set_option maxHeartbeats 1000000
/-! VM V: zip of lists and tuples, mixed -/
namespace VMU
open PySem PySem.Spec PyProof.Rows L2
abbrev gA (t : Bool) (hp : PySem.Heap) (lx : Addr) : PySem.Heap := hp.push { cls := .type (bif t then "tuple_iterator" else "list_iterator"), data := .fields #[.ref lx, .int 0 0] }
abbrev gB (t u : Bool) (hp : PySem.Heap) (lx ly : Addr) : PySem.Heap := gA u (gA t hp lx) ly
abbrev gC (t u : Bool) (hp : PySem.Heap) (lx ly : Addr) : PySem.Heap := (gB t u hp lx ly).push { cls := .type "tuple", data := .seq #[.ref hp.objs.size, .ref (gA t hp lx).objs.size] }
abbrev gD (t u : Bool) (hp : PySem.Heap) (lx ly : Addr) : PySem.Heap := (gC t u hp lx ly).push { cls := .type "tuple", data := .seq #[.none, .none] }
abbrev gE (t u : Bool) (hp : PySem.Heap) (lx ly : Addr) : PySem.Heap := (gD t u hp lx ly).push { cls := .type "zip", data := .fields #[.none, .bool false, .bool false, .ref (gB t u hp lx ly).objs.size, .ref (gC t u hp lx ly).objs.size] }
theorem newZ_TL (lx ly : Addr) (xs ys : Array Value) : Meets (Builtin.«zip.__new__» ⟨[.type "zip", .ref lx, .ref ly], []⟩) (fun _ R s => s.heap.IsTuple lx xs ∧ s.heap.IsList ly ys ∧ R (.ok (.ret (.ref (gD true false s.heap lx ly).objs.size))) { s with heap := gE true false s.heap lx ly }) :=
  .of_wp fun prog w A R s z => by
    obtain ⟨p0, g0, d0, t0, o0⟩ := s; obtain ⟨z1, z2, z⟩ := z
    have hsub := sub_zip
    have k1 : Heap.IsTuple (Shared.heap ⟨p0, g0, d0, t0, o0⟩) lx xs := z1
    have k2 : Heap.IsList (Shared.heap ⟨p0.push { cls := .type "tuple_iterator", data := .fields #[.ref lx, .int 0 0] }, g0, d0, t0, o0⟩) ly ys := Heap.IsList.push z2 _
    wp_walk using wpAny_pyIter_tuple k1, wpAny_pyIter_list k2
    exact ⟨_, rfl, z⟩
theorem newZ_LT (lx ly : Addr) (xs ys : Array Value) : Meets (Builtin.«zip.__new__» ⟨[.type "zip", .ref lx, .ref ly], []⟩) (fun _ R s => s.heap.IsList lx xs ∧ s.heap.IsTuple ly ys ∧ R (.ok (.ret (.ref (gD false true s.heap lx ly).objs.size))) { s with heap := gE false true s.heap lx ly }) :=
  .of_wp fun prog w A R s z => by
    obtain ⟨p0, g0, d0, t0, o0⟩ := s; obtain ⟨z1, z2, z⟩ := z
    have hsub := sub_zip
    have k1 : Heap.IsList (Shared.heap ⟨p0, g0, d0, t0, o0⟩) lx xs := z1
    have k2 : Heap.IsTuple (Shared.heap ⟨p0.push { cls := .type "list_iterator", data := .fields #[.ref lx, .int 0 0] }, g0, d0, t0, o0⟩) ly ys := Heap.IsTuple.push z2 _
    wp_walk using wpAny_pyIter_list k1, wpAny_pyIter_tuple k2
    exact ⟨_, rfl, z⟩
theorem newZ (t : Bool) (lx ly : Addr) (xs ys : Array Value) : Meets (Builtin.«zip.__new__» ⟨[.type "zip", .ref lx, .ref ly], []⟩) (fun _ R s => sqK t s.heap lx xs ∧ sqK (!t) s.heap ly ys ∧ R (.ok (.ret (.ref (gD t (!t) s.heap lx ly).objs.size))) { s with heap := gE t (!t) s.heap lx ly }) := by
  cases t
  · exact newZ_LT lx ly xs ys
  · exact newZ_TL lx ly xs ys
theorem itK_new {t : Bool} {hp : PySem.Heap} {it l : Addr} (e : hp.get? it = some { cls := .type (bif t then "tuple_iterator" else "list_iterator"), data := .fields #[.ref l, .int 0 0] }) : itK t hp it l 0 := by
  cases t
  · exact ⟨_, e, rfl, rfl⟩
  · exact ⟨_, e, rfl, rfl⟩
section
variable {prog : Program} {w : World} {A : Around} {E : Value → Shared → Prop} {s : Shared}
theorem callZ {t : Bool} {lx ly : Addr} {xs ys : Array Value} {Q : Value → Shared → Prop} (qa : sqK t s.heap lx xs) (qb : sqK (!t) s.heap ly ys)
    (kq : ∀ hp', IsZip hp' (s.heap.objs.size + 4) (s.heap.objs.size + 2) (s.heap.objs.size + 3) .none → IsPair hp' (s.heap.objs.size + 2) (.ref s.heap.objs.size) (.ref (s.heap.objs.size + 1)) → IsPair hp' (s.heap.objs.size + 3) .none .none →
      itK t hp' s.heap.objs.size lx 0 → itK (!t) hp' (s.heap.objs.size + 1) ly 0 → hp'.objs.size = s.heap.objs.size + 5 → (∀ c o, s.heap.get? c = some o → hp'.get? c = some o) → Q (.ref (s.heap.objs.size + 4)) { s with heap := hp' }) :
    wpAny (model prog w) A (call (.type "zip") [.ref lx, .ref ly]) Q E s := by
  refine callType_new F.called_zip (by decide) (F.typeCall_zip_2 _ _) (F.newCall_zip_2 _ _) (fun ob => F.args_object_init_3 ob _ _) F.entry_zip_new (newZ t lx ly xs ys) ⟨qa, qb, ?_⟩
  have n1 : (gA t s.heap lx).objs.size = s.heap.objs.size + 1 := Heap.size_push ..
  have n2 : (gB t (!t) s.heap lx ly).objs.size = s.heap.objs.size + 2 := by rw [Heap.size_push, n1]
  have n3 : (gC t (!t) s.heap lx ly).objs.size = s.heap.objs.size + 3 := by rw [Heap.size_push, n2]
  have n4 : (gD t (!t) s.heap lx ly).objs.size = s.heap.objs.size + 4 := by rw [Heap.size_push, n3]
  have n5 : (gE t (!t) s.heap lx ly).objs.size = s.heap.objs.size + 5 := by rw [Heap.size_push, n4]
  have up1 : ∀ c o, (gD t (!t) s.heap lx ly).get? c = some o → (gE t (!t) s.heap lx ly).get? c = some o := fun c o e => Heap.get?_push_of_some _ e
  have up2 : ∀ c o, (gC t (!t) s.heap lx ly).get? c = some o → (gE t (!t) s.heap lx ly).get? c = some o := fun c o e => up1 c o (Heap.get?_push_of_some _ e)
  have up3 : ∀ c o, (gB t (!t) s.heap lx ly).get? c = some o → (gE t (!t) s.heap lx ly).get? c = some o := fun c o e => up2 c o (Heap.get?_push_of_some _ e)
  have up4 : ∀ c o, (gA t s.heap lx).get? c = some o → (gE t (!t) s.heap lx ly).get? c = some o := fun c o e => up3 c o (Heap.get?_push_of_some _ e)
  have f5 : (gE t (!t) s.heap lx ly).get? (gD t (!t) s.heap lx ly).objs.size = some _ := Heap.get?_push_size _ rfl
  have f4 : (gE t (!t) s.heap lx ly).get? (gC t (!t) s.heap lx ly).objs.size = some _ := up1 _ _ (Heap.get?_push_size _ rfl)
  have f3 : (gE t (!t) s.heap lx ly).get? (gB t (!t) s.heap lx ly).objs.size = some _ := up2 _ _ (Heap.get?_push_size _ rfl)
  have f2 : (gE t (!t) s.heap lx ly).get? (gA t s.heap lx).objs.size = some _ := up3 _ _ (Heap.get?_push_size _ rfl)
  have f1 : (gE t (!t) s.heap lx ly).get? s.heap.objs.size = some _ := up4 _ _ (Heap.get?_push_size _ rfl)
  show _ ∧ _
  rw [n2, n3, n4] at f5
  rw [n1, n2] at f3
  rw [n3] at f4
  rw [n1] at f2
  rw [n4]
  exact ⟨⟨_, f5, rfl⟩, kq _ f5 f3 f4 (itK_new f1) (itK_new f2) n5 fun c o e => up4 c o (Heap.get?_push_of_some _ e)⟩
end
/-- a list or a tuple, as it is known -/
def sqV (t : Bool) (K : PySem.W.Frag) (H : Hp) (a : Addr) (xs : List V) : Prop := match t with
  | true => SqT K H a xs
  | false => SqL K H a xs
section
variable {X : Cx} {pins : List (Addr × Obj)} {σ : L2.St} {H : Hp} {s : Shared} {a : Addr} {xs ys : List V} {t : Bool}
theorem inv_sq (J : Inv X pins σ H s) (e : sqV t X.K H a xs) : ∃ its : List Value, Vals xs its ∧ sqK t s.heap a its.toArray ∧ a < s.heap.objs.size := by
  cases t
  · obtain ⟨its, v, p, _⟩ := J.list e
    exact ⟨its, v, p.isList, p.lt⟩
  · obtain ⟨its, v, p, _⟩ := J.tuple e
    obtain ⟨o, ho, _⟩ := id p
    exact ⟨its, v, p, Heap.lt_size ho⟩
theorem inv_one (J : Inv X pins σ H s) (e : sqV t X.K H a xs) (e' : sqV t X.K H a ys) : xs = ys := by
  cases t
  · exact J.list_inj e e'
  · exact J.tuple_inj e e'
end
def ItM (K : PySem.W.Frag) (t u : Bool) (a b : Addr) : It :=
  ⟨fun i H => ∃ (xs ys : List V) (x y : V), sqV t K H a xs ∧ sqV u K H b ys ∧ xs[i]? = some x ∧ ys[i]? = some y,
    fun i H v H' => ∃ T x y, v = .ref T ∧ H T = none ∧ H' = upd H T (.tup [x, y]) ∧ (∀ xs, sqV t K H a xs → xs[i]? = some x) ∧ ∀ ys, sqV u K H b ys → ys[i]? = some y,
    fun i H => ∃ xs ys : List V, sqV t K H a xs ∧ sqV u K H b ys ∧ (xs.length ≤ i ∨ ys.length ≤ i)⟩
theorem five {c z p o i j : Addr} (h : c ∈ [z, p, o, i, j]) : c = z ∨ c = p ∨ c = o ∨ c = i ∨ c = j := by simpa using h
theorem turnM {P : Program} {w : World} {K : PySem.W.Frag} {elts : List Expr} {kk : Nat} {tpos : Pos} {t u : Bool} {a b zp PI PO ia ib : Addr} (AP : ZipApart zp PI PO ia ib a b) :
    Turn P w K (.Tuple elts kk tpos) (ItM K t u a b) [zp, PI, PO, ia, ib] zp (fun i g => IsZip g zp PI PO .none ∧ IsPair g PI (.ref ia) (.ref ib) ∧ (∃ x y, IsPair g PO x y) ∧ itK t g ia a i ∧ itK u g ib b i) where
  mem := List.mem_cons_self
  obj := fun i g st c hc => by
    obtain ⟨zz, zi, ⟨x, y, zo⟩, ja, jb⟩ := st
    obtain ⟨oa, ea, va, da⟩ := ja.obj
    obtain ⟨ob, eb, vb, db⟩ := jb.obj
    rcases five hc with rfl | rfl | rfl | rfl | rfl
    · exact ⟨_, zz, fun v q => nomatch q⟩
    · exact ⟨_, zi, fun v q => nomatch q⟩
    · exact ⟨_, zo, fun v q => nomatch q⟩
    · exact ⟨oa, ea, fun v q => by rw [da] at q; cases q⟩
    · exact ⟨ob, eb, fun v q => by rw [db] at q; cases q⟩
  keep := fun i g g' st k => by
    obtain ⟨zz, zi, ⟨x, y, zo⟩, ja, jb⟩ := st
    exact ⟨k _ (by simp) _ zz, k _ (by simp) _ zi, ⟨x, y, k _ (by simp) _ zo⟩, ja.move fun o q => k _ (by simp) o q, jb.move fun o q => k _ (by simp) o q⟩
  item := by
    intro X e1 e2 e3 hc i pins s σ H E J hf st hg
    subst e1 e2 e3
    obtain ⟨zz, zi, ⟨x0, y0, zo⟩, ja, jb⟩ := st
    obtain ⟨xs, ys, x, y, qx, qy, gx, gy⟩ := hg
    obtain ⟨its, v1, p1, _⟩ := inv_sq J qx
    obtain ⟨jts, v2, p2, _⟩ := inv_sq J qy
    obtain ⟨m1, hm1, rm1⟩ := v1.get gx
    obtain ⟨m2, hm2, rm2⟩ := v2.get gy
    have ltz : zp < s.heap.objs.size := Heap.lt_size zz
    refine pyZipK_item AP zz zi zo ja jb p1 p2 (x := m1) (y := m2) (by simpa using hm1) (by simpa using hm2) fun g' z' o' ja' jb' pT hz5 kp => ?_
    refine ⟨_, rfl, wpAny_letOwnedTupleGo_zip (s := { s with heap := g' }) z' fun g'' z'' sb => ?_⟩
    have pT2 : g''.get? s.heap.objs.size = some { cls := .type "tuple", data := .seq #[m1, m2] } := (sb.2 _ (Nat.ne_of_gt ltz)).trans pT
    have fresh : ObjOk X.prog X.w (upd H s.heap.objs.size (.tup [x, y])) g'' s.heap.objs.size (.tup [x, y]) := ⟨by show 2 ≤ sizeLine; decide, [m1, m2], .cons rm1 (.cons rm2 .nil), ⟨_, pT2, rfl, _, rfl⟩⟩
    have J1 : Inv X pins σ (upd H s.heap.objs.size (.tup [x, y])) { s with heap := g'' } := J.turnedNew (t' := s.toks) (ch := [zp, PI, PO, ia, ib])
      (fun c o nb q => (sb.2 c (fun e => nb (by simp [e]))).trans (kp c o (fun e => nb (by simp [e])) (fun e => nb (by simp [e])) (fun e => nb (by simp [e])) (fun e => nb (by simp [e])) q)) hf (Nat.le_refl _) fresh
    refine ⟨.ref s.heap.objs.size, _, J1, rfl, ⟨_, x, y, rfl, J.hok.fresh (Nat.le_refl _), rfl, fun l hl => by rw [inv_one J hl qx]; exact gx, fun l hl => by rw [inv_one J hl qy]; exact gy⟩, ⟨z'', ?_, ⟨m1, m2, ?_⟩, ?_, ?_⟩, fun c hcm => ?_⟩
    · exact (sb.2 _ AP.TIz).trans (kp _ _ AP.TIz AP.TITO AP.TIi1 AP.TIi2 zi)
    · exact (sb.2 _ AP.TOz).trans o'
    · exact ja'.move fun o q => (sb.2 _ AP.i1z).trans q
    · exact jb'.move fun o q => (sb.2 _ AP.i2z).trans q
    · have below : c < s.heap.objs.size := by
        obtain ⟨oa, ea, _⟩ := ja.obj
        obtain ⟨ob, eb, _⟩ := jb.obj
        rcases five hcm with rfl | rfl | rfl | rfl | rfl
        · exact ltz
        · exact Heap.lt_size zi
        · exact Heap.lt_size zo
        · exact Heap.lt_size ea
        · exact Heap.lt_size eb
      rw [upd_ne (Nat.ne_of_lt below)]
      exact (hf c hcm).1
  done := by
    intro X e1 e2 e3 hc i pins s σ H E J hf st hg
    subst e1 e2 e3
    obtain ⟨zz, zi, ⟨x0, y0, zo⟩, ja, jb⟩ := st
    obtain ⟨xs, ys, qx, qy, stop⟩ := hg
    obtain ⟨its, v1, p1, _⟩ := inv_sq J qx
    obtain ⟨jts, v2, p2, _⟩ := inv_sq J qy
    have n1 := v1.length
    have n2 := v2.length
    have he : its.toArray[i]? = none ∨ jts.toArray[i]? = none := by
      rcases stop with q | q
      · exact .inl (by rw [Array.getElem?_eq_none]; simp; omega)
      · exact .inr (by rw [Array.getElem?_eq_none]; simp; omega)
    exact pyZipK_end (J.ok.hd hc) AP zz zi zo ja jb p1 p2 he fun g' kp => ⟨rfl, J.turnedL (t' := s.toks) (ch := [zp, PI, PO, ia, ib])
      (fun c o nb q => kp c o (fun e => nb (by simp [e])) (fun e => nb (by simp [e])) (fun e => nb (by simp [e])) (fun e => nb (by simp [e])) q) hf⟩
  self := fun A i s Q E st e => wpAny_pyIter_zip st.1 e
def iZipM (K : PySem.W.Frag) (ta : TA) : TI := fun σ H R => ta σ H fun vs H1 => ∃ a b xs ys, vs = [.ref a, .ref b] ∧ ((SqL K H1 a xs ∧ SqL K H1 b ys ∧ R (Itz K a b) H1) ∨ (SqT K H1 a xs ∧ SqT K H1 b ys ∧ R (RZ.ItzT K a b) H1) ∨ ∃ t, sqV t K H1 a xs ∧ sqV (!t) K H1 b ys ∧ R (ItM K t (!t) a b) H1)
theorem fpAll {X : Cx} {pins : List (Addr × Obj)} {σ : L2.St} {H : Hp} {s : Shared} (J : Inv X pins σ H s) : ∀ c, c ∈ [s.heap.objs.size + 4, s.heap.objs.size + 2, s.heap.objs.size + 3, s.heap.objs.size, s.heap.objs.size + 1] → FpOk X pins H c := fun c hc => by
  have le : s.heap.objs.size ≤ c := by rcases five hc with rfl | rfl | rfl | rfl | rfl <;> omega
  exact J.fpOk le (J.hok.fresh le)
theorem pi_zipM {X : Cx} {e e2 : Expr} {ta : TA} {p pos tpos : Pos} {elts : List Expr} {kk : Nat} (hg : Gl X "zip") (hm : X.mg "zip" = none) (ha : PA X [e, e2] ta)
    (hs : starEach [e, e2] X.env = (false, eval e X.env) :: starEach [e2] X.env := by rfl) (hpl : (backTo pos (starEach [e2] X.env)).any (·.1) = false := by rfl) :
    PI X (.Tuple elts kk tpos) (.Call (.Name "zip" p) [e, e2] [] pos) (iZipM X.K ta) := by
  refine ⟨fun pins s σ H R J h => ?_⟩
  refine Call_ (ld_blt J hg hm PyProof.Rows.boot_zip (PyProof.Rows.callWith_type1 (thn (ha.run pos pins s σ H _ J h) fun us s1 ⟨vs, H1, J1, r1, q1⟩ => ?_) hs hpl))
  obtain ⟨a, b, xs, ys, ex, q1⟩ := q1
  subst ex
  cases r1 with
  | cons r rr =>
    cases rr with
    | cons r' rr =>
      cases rr
      cases r
      cases r'
      rcases q1 with ⟨qx, qy, q⟩ | ⟨qx, qy, q⟩ | ⟨t, qx, qy, q⟩
      · obtain ⟨its, v1, p1, _⟩ := J1.list qx
        obtain ⟨jts, v2, p2, _⟩ := J1.list qy
        refine call_zip_2 p1.isList p2.isList fun g' zz zi zo ja jb n5 kp => wpAny_pyIter_zip zz ?_
        exact ⟨s1.heap.objs.size + 4, _, _, _, H1, rfl, J1.kept (t' := s1.toks) kp, turn_zip (PySem.W.ktu_apart s1.heap.objs.size a b p1.lt p2.lt), ⟨zz, zi, ⟨_, _, zo⟩, ja, jb⟩, fpAll J1, q⟩
      · obtain ⟨its, v1, p1, _⟩ := J1.tuple qx
        obtain ⟨jts, v2, p2, _⟩ := J1.tuple qy
        obtain ⟨oa, ea, _⟩ := id p1
        obtain ⟨ob, eb, _⟩ := id p2
        refine RZ.call_zipT (show s1.heap.IsTuple a its.toArray from p1) (show s1.heap.IsTuple b jts.toArray from p2) fun g' zz zi zo ja jb n5 kp => wpAny_pyIter_zip zz ?_
        exact ⟨s1.heap.objs.size + 4, _, _, _, H1, rfl, J1.kept (t' := s1.toks) kp, RZ.turn_zipT (PySem.W.ktu_apart s1.heap.objs.size a b (Heap.lt_size ea) (Heap.lt_size eb)), ⟨zz, zi, ⟨_, _, zo⟩, ja, jb⟩, fpAll J1, q⟩
      · obtain ⟨its, v1, p1, l1⟩ := inv_sq J1 qx
        obtain ⟨jts, v2, p2, l2⟩ := inv_sq J1 qy
        refine callZ p1 p2 fun g' zz zi zo ja jb n5 kp => wpAny_pyIter_zip zz ?_
        exact ⟨s1.heap.objs.size + 4, _, _, _, H1, rfl, J1.kept (t' := s1.toks) kp, turnM (PySem.W.ktu_apart s1.heap.objs.size a b l1 l2), ⟨zz, zi, ⟨_, _, zo⟩, ja, jb⟩, fpAll J1, q⟩
end VMU
namespace VM
open PySem PySem.Spec PyProof.Rows L2 VMU
theorem serv_zipM {C : Ct} {Hk : Hp} {t u : Bool} {a b : Addr} {xs ys : List D} {vs ws : List V} (h : ∀ H, Ex Hk H → sqV t C.K H a vs) (r : RpL C Hk xs vs) (h' : ∀ H, Ex Hk H → sqV u C.K H b ws) (r' : RpL C Hk ys ws) : Serv C (ItM C.K t u a b) Hk (zipD xs ys) := by
  intro i Hk1 H e1 e2
  have k1 := h H (e1.trans e2)
  have k2 := h' H (e1.trans e2)
  refine ⟨fun d hd => ?_, fun hi => ⟨vs, ws, k1, k2, by rw [zipD_len, r.len, r'.len] at hi; omega⟩⟩
  obtain ⟨x, y, hx, hy, rfl⟩ := zipD_get hd
  obtain ⟨v, hv, rv⟩ := r.get hx
  obtain ⟨w, hw, rw'⟩ := r'.get hy
  refine ⟨⟨vs, ws, v, w, k1, k2, hv, hw⟩, fun z H' hz => ?_⟩
  obtain ⟨T, p, q, rfl, hT, rfl, hp, hq⟩ := hz
  have e3 := hp vs k1
  have e4 := hq ws k2
  rw [hv] at e3
  rw [hw] at e4
  cases e3
  cases e4
  exact res_tup e2 hT (rpl2 (rv.mono e1) (rw'.mono e1))
section
variable {X : Cx} {y : Y} {a b : Expr} {ma : M (List Tk)} {elts : List Expr} {kk : Nat} {pos p tpos : Pos}
def wZipM : List D → Option (List D)
  | [.lst xs, .lst ys] => some (zipD xs ys)
  | [.tup xs, .tup ys] => some (zipD xs ys)
  | [.tup xs, .lst ys] => some (zipD xs ys)
  | [.lst xs, .tup ys] => some (zipD xs ys)
  | _ => none
theorem pix_zipM (hm : X.mg "zip" = none) (ha : PAs X y [a, b] ma) (hg : Gl X "zip" := by rfl) (hs : starEach [a, b] X.env = (false, eval a X.env) :: starEach [b] X.env := by rfl) (hpl : (backTo pos (starEach [b] X.env)).any (·.1) = false := by rfl) :
    PIx X y (.Tuple elts kk tpos) (.Call (.Name "zip" p) [a, b] [] pos) (mWalk wZipM ma) := by
  refine ⟨PI_imp (pi_zipM hg hm ha.pa hs hpl) fun σ H R ⟨env, Hk, G, re, q⟩ => ⟨env, Hk, G, re, ai_force q fun ds vs xs Hk' H1 hf ex rl qq => ?_⟩⟩
  unfold wZipM at hf
  split at hf
  all_goals cases hf
  all_goals
    obtain ⟨v, r, rfl, rd, rn⟩ := rl.inv
    obtain ⟨v2, r2, rfl, rd2, rn2⟩ := rn.inv
    have hr : r2 = [] := List.eq_nil_of_length_eq_zero rn2.len.symm
    subst hr
    unfold Rp at rd rd2
    obtain ⟨a, vs', rfl, h1, h2⟩ := rd
    obtain ⟨b, ws', rfl, h3, h4⟩ := rd2
    refine ⟨a, b, vs', ws', rfl, ?_⟩
  · exact .inl ⟨sqL (ex _ _ h1), sqL (ex _ _ h3), qq _ (serv_zipL (C := y.ct X) (sqL h1) h2 (sqL h3) h4)⟩
  · exact .inr (.inl ⟨sqT (ex _ _ h1), sqT (ex _ _ h3), qq _ (serv_zipT (C := y.ct X) h1 h2 h3 h4)⟩)
  · exact .inr (.inr ⟨true, sqT (ex _ _ h1), sqL (ex _ _ h3), qq _ (serv_zipM (C := y.ct X) (t := true) (u := false) (fun H e => sqT (e _ _ h1)) h2 (fun H e => sqL (e _ _ h3)) h4)⟩)
  · exact .inr (.inr ⟨false, sqL (ex _ _ h1), sqT (ex _ _ h3), qq _ (serv_zipM (C := y.ct X) (t := false) (u := true) (fun H e => sqL (e _ _ h1)) h2 (fun H e => sqT (e _ _ h3)) h4)⟩)
theorem w_zipLL {xs ys : List D} : wZipM [.lst xs, .lst ys] = some (zipD xs ys) := (rfl)
theorem w_zipTT {xs ys : List D} : wZipM [.tup xs, .tup ys] = some (zipD xs ys) := (rfl)
theorem w_zipTL {xs ys : List D} : wZipM [.tup xs, .lst ys] = some (zipD xs ys) := (rfl)
theorem w_zipLT {xs ys : List D} : wZipM [.lst xs, .tup ys] = some (zipD xs ys) := (rfl)
end
end VM

set_option maxHeartbeats 4000000
namespace My
open PySem PySem.Spec PyProof.Rows L2 VM
def topS (i : Nat) : Stmt := PySem.Challenge.pw_rankwords_k16_whole_counts_completed_and.main.body.getD i (.Pass ⟨0, 0, 0, 0⟩)
abbrev s__law_hand : Stmt := topS 20
abbrev s__law_mixed : Stmt := topS 21
abbrev s__law_draw : Stmt := topS 22
abbrev s__law_power : Stmt := topS 24
abbrev s__law_gauss : Stmt := topS 25
abbrev s__law_met : Stmt := topS 28
abbrev s__law_at : Stmt := topS 26
abbrev s__law_tables : Stmt := topS 27
abbrev s__law_real : Stmt := topS 40
abbrev s__law_spread : Stmt := topS 29
abbrev s__law_known : Stmt := topS 30
abbrev s__law_rest : Stmt := topS 31
abbrev s__law_whole : Stmt := topS 34
abbrev s__law_same : Stmt := topS 35
abbrev s_is_whole : Stmt := topS 1
abbrev s_check_sizes : Stmt := topS 12
abbrev s_power_of : Stmt := topS 3
abbrev s_is_sequence : Stmt := topS 2
abbrev s_is_counts : Stmt := topS 14
abbrev s_space_count : Stmt := topS 4
abbrev s_completed_counts : Stmt := topS 18
abbrev s_spread_sum : Stmt := topS 15
abbrev s_known_part : Stmt := topS 16
abbrev s_turned_counts : Stmt := topS 17
abbrev s__law_real_holds : Stmt := topS 41
abbrev s__law_pick : Stmt := topS 23
abbrev s__law_agrees : Stmt := topS 39
abbrev s__law_completed : Stmt := topS 33
abbrev s__law_completed_told : Stmt := topS 37
abbrev s__law_turned : Stmt := topS 32
abbrev s__law_free_holds : Stmt := topS 42
abbrev s__law_odd : Stmt := topS 36
abbrev s__law_odd_row : Stmt := topS 43
abbrev s__law_turned_told : Stmt := topS 38
abbrev s__law_refusals_hold : Stmt := topS 44
abbrev s_law : Stmt := topS 45
abbrev N__law_hand : List Str := ["_law_script", "_law_total", "_law_cells", "_law_cell"]
abbrev N__law_mixed : List Str := ["_law_number", "_law_turn", "_law_once", "_law_twice"]
abbrev N__law_draw : List Str := ["_law_hand_here", "_law_many", "_law_cell", "_law_rest_here"]
abbrev N__law_power : List Str := ["_law_base", "_law_times", "_law_total", "_law_turn"]
abbrev N__law_gauss : List Str := ["_law_q", "_law_most", "_law_rows", "_law_a", "_law_old", "_law_fresh", "_law_b"]
abbrev N__law_met : List Str := ["_law_q", "_law_m", "_law_n", "_law_d", "_law_rows", "_law_bear", "_law_s", "_law_total", "_law_r"]
abbrev N__law_at : List Str := ["_law_rows", "_law_a", "_law_b"]
abbrev N__law_tables : List Str := ["_law_q", "_law_tall", "_law_wide", "_law_ranks", "_law_rows", "_law_found", "_law_rank", "_law_total", "_law_at_here"]
abbrev N__law_real : List Str := ["_law_hand_here", "_law_q", "_law_m", "_law_n", "_law_rows"]
abbrev N__law_spread : List Str := ["_law_n", "_law_counts", "_law_u", "_law_rows", "_law_i"]
abbrev N__law_known : List Str := ["_law_n", "_law_told", "_law_u", "_law_rows", "_law_j"]
abbrev N__law_rest : List Str := ["_law_q", "_law_m", "_law_n", "_law_size", "_law_counts", "_law_rows", "_law_told", "_law_u", "_law_top"]
abbrev N__law_whole : List Str := ["_law_thing"]
abbrev N__law_same : List Str := ["_law_told", "_law_due", "_law_one", "_law_other"]
abbrev N_is_whole : List Str := ["thing", "low", "high"]
abbrev N_check_sizes : List Str := ["prime", "degree", "columns"]
abbrev N_power_of : List Str := ["base", "exponent", "total", "turn"]
abbrev N_is_sequence : List Str := ["thing"]
abbrev N_is_counts : List Str := ["columns", "counts", "one"]
abbrev N_space_count : List Str := ["prime", "whole", "part", "top", "bottom", "turn"]
abbrev N_completed_counts : List Str := ["prime", "degree", "columns", "size", "first", "told", "rank", "part", "top", "bottom", "known", "at"]
abbrev N_spread_sum : List Str := ["prime", "columns", "counts", "part", "rank"]
abbrev N_known_part : List Str := ["prime", "columns", "told", "part", "at"]
abbrev N_turned_counts : List Str := ["prime", "degree", "columns", "couples", "told", "part", "top"]
abbrev N__law_real_holds : List Str := ["_law_hand_here", "_law_q", "_law_m", "_law_n", "_law_rows", "_law_counts", "_law_size", "_law_rests", "_law_t", "_law_couples", "_law_one"]
abbrev N__law_pick : List Str := ["_law_hand_here", "_law_things"]
abbrev N__law_agrees : List Str := ["_law_told", "_law_due"]
abbrev N__law_completed : List Str := ["_law_q", "_law_m", "_law_n", "_law_size", "_law_first", "_law_rows", "_law_told", "_law_rank", "_law_u", "_law_top", "_law_bottom", "_law_known_here", "_law_i"]
abbrev N__law_completed_told : List Str := ["_law_q", "_law_m", "_law_n", "_law_size", "_law_first", "_law_told", "raised"]
abbrev N__law_turned : List Str := ["_law_q", "_law_m", "_law_n", "_law_couples", "_law_rows", "_law_told", "_law_u", "_law_top"]
abbrev N__law_free_holds : List Str := ["_law_hand_here", "_law_q", "_law_m", "_law_n", "_law_rows", "_law_first", "_law_size", "_law_many", "_law_left", "_law_couples", "_law_turn", "_law_at_here", "_law_share", "_law_k"]
abbrev N__law_odd : List Str := ["_law_hand_here", "_law_low", "_law_high", "_law_far", "_law_kind"]
abbrev N__law_odd_row : List Str := ["_law_hand_here", "_law_n", "_law_row", "_law_at_here", "_law_kind"]
abbrev N__law_turned_told : List Str := ["_law_q", "_law_m", "_law_n", "_law_couples", "_law_told", "raised"]
abbrev N__law_refusals_hold : List Str := ["_law_hand_here", "_law_q", "_law_m", "_law_n", "_law_flags", "_law_top", "_law_odd_here", "_law_good", "_law_a", "_law_first", "_law_word", "_law_places", "_law_names", "_law_due", "_law_many", "_law_couples", "_law_kind", "_law_k"]
abbrev N_law : List Str := ["_law_script", "_law_hand_here", "_law_q", "_law_m", "_law_n", "_law_rows", "_law_full", "_law_k"]
theorem sc__law_hand : FnScope N__law_hand ["_law_script"] (defScope s__law_hand) := ⟨rfl, rfl, rfl, by decide +kernel, rfl, by decide +kernel, by decide +kernel⟩
theorem sc__law_mixed : FnScope N__law_mixed ["_law_number", "_law_turn"] (defScope s__law_mixed) := ⟨rfl, rfl, rfl, by decide +kernel, rfl, by decide +kernel, by decide +kernel⟩
theorem sc__law_draw : FnScope N__law_draw ["_law_hand_here", "_law_many"] (defScope s__law_draw) := ⟨rfl, rfl, rfl, by decide +kernel, rfl, by decide +kernel, by decide +kernel⟩
theorem sc__law_power : FnScope N__law_power ["_law_base", "_law_times"] (defScope s__law_power) := ⟨rfl, rfl, rfl, by decide +kernel, rfl, by decide +kernel, by decide +kernel⟩
theorem sc__law_gauss : FnScope N__law_gauss ["_law_q", "_law_most"] (defScope s__law_gauss) := ⟨rfl, rfl, rfl, by decide +kernel, rfl, by decide +kernel, by decide +kernel⟩
theorem sc__law_met : FnScope N__law_met ["_law_q", "_law_m", "_law_n", "_law_d", "_law_rows"] (defScope s__law_met) := ⟨rfl, rfl, rfl, by decide +kernel, rfl, by decide +kernel, by decide +kernel⟩
theorem sc__law_at : FnScope N__law_at ["_law_rows", "_law_a", "_law_b"] (defScope s__law_at) := ⟨rfl, rfl, rfl, by decide +kernel, rfl, by decide +kernel, by decide +kernel⟩
theorem sc__law_tables : FnScope N__law_tables ["_law_q", "_law_tall", "_law_wide", "_law_ranks", "_law_rows"] (defScope s__law_tables) := ⟨rfl, rfl, rfl, by decide +kernel, rfl, by decide +kernel, by decide +kernel⟩
theorem sc__law_real : FnScope N__law_real ["_law_hand_here", "_law_q", "_law_m", "_law_n", "_law_rows"] (defScope s__law_real) := ⟨rfl, rfl, rfl, by decide +kernel, rfl, by decide +kernel, by decide +kernel⟩
theorem sc__law_spread : FnScope N__law_spread ["_law_n", "_law_counts", "_law_u", "_law_rows"] (defScope s__law_spread) := ⟨rfl, rfl, rfl, by decide +kernel, rfl, by decide +kernel, by decide +kernel⟩
theorem sc__law_known : FnScope N__law_known ["_law_n", "_law_told", "_law_u", "_law_rows"] (defScope s__law_known) := ⟨rfl, rfl, rfl, by decide +kernel, rfl, by decide +kernel, by decide +kernel⟩
theorem sc__law_rest : FnScope N__law_rest ["_law_q", "_law_m", "_law_n", "_law_size", "_law_counts", "_law_rows"] (defScope s__law_rest) := ⟨rfl, rfl, rfl, by decide +kernel, rfl, by decide +kernel, by decide +kernel⟩
theorem sc__law_whole : FnScope N__law_whole ["_law_thing"] (defScope s__law_whole) := ⟨rfl, rfl, rfl, by decide +kernel, rfl, by decide +kernel, by decide +kernel⟩
theorem sc__law_same : FnScope N__law_same ["_law_told", "_law_due"] (defScope s__law_same) := ⟨rfl, rfl, rfl, by decide +kernel, rfl, by decide +kernel, by decide +kernel⟩
theorem sc_is_whole : FnScope N_is_whole ["thing", "low", "high"] (defScope s_is_whole) := ⟨rfl, rfl, rfl, by decide +kernel, rfl, by decide +kernel, by decide +kernel⟩
theorem sc_check_sizes : FnScope N_check_sizes ["prime", "degree", "columns"] (defScope s_check_sizes) := ⟨rfl, rfl, rfl, by decide +kernel, rfl, by decide +kernel, by decide +kernel⟩
theorem sc_power_of : FnScope N_power_of ["base", "exponent"] (defScope s_power_of) := ⟨rfl, rfl, rfl, by decide +kernel, rfl, by decide +kernel, by decide +kernel⟩
theorem sc_is_sequence : FnScope N_is_sequence ["thing"] (defScope s_is_sequence) := ⟨rfl, rfl, rfl, by decide +kernel, rfl, by decide +kernel, by decide +kernel⟩
theorem sc_is_counts : FnScope N_is_counts ["columns", "counts"] (defScope s_is_counts) := ⟨rfl, rfl, rfl, by decide +kernel, rfl, by decide +kernel, by decide +kernel⟩
theorem sc_space_count : FnScope N_space_count ["prime", "whole", "part"] (defScope s_space_count) := ⟨rfl, rfl, rfl, by decide +kernel, rfl, by decide +kernel, by decide +kernel⟩
theorem sc_completed_counts : FnScope N_completed_counts ["prime", "degree", "columns", "size", "first"] (defScope s_completed_counts) := ⟨rfl, rfl, rfl, by decide +kernel, rfl, by decide +kernel, by decide +kernel⟩
theorem sc_spread_sum : FnScope N_spread_sum ["prime", "columns", "counts", "part"] (defScope s_spread_sum) := ⟨rfl, rfl, rfl, by decide +kernel, rfl, by decide +kernel, by decide +kernel⟩
theorem sc_known_part : FnScope N_known_part ["prime", "columns", "told", "part"] (defScope s_known_part) := ⟨rfl, rfl, rfl, by decide +kernel, rfl, by decide +kernel, by decide +kernel⟩
theorem sc_turned_counts : FnScope N_turned_counts ["prime", "degree", "columns", "couples"] (defScope s_turned_counts) := ⟨rfl, rfl, rfl, by decide +kernel, rfl, by decide +kernel, by decide +kernel⟩
theorem sc__law_real_holds : FnScope N__law_real_holds ["_law_hand_here", "_law_q", "_law_m", "_law_n", "_law_rows"] (defScope s__law_real_holds) := ⟨rfl, rfl, rfl, by decide +kernel, rfl, by decide +kernel, by decide +kernel⟩
theorem sc__law_pick : FnScope N__law_pick ["_law_hand_here", "_law_things"] (defScope s__law_pick) := ⟨rfl, rfl, rfl, by decide +kernel, rfl, by decide +kernel, by decide +kernel⟩
theorem sc__law_agrees : FnScope N__law_agrees ["_law_told", "_law_due"] (defScope s__law_agrees) := ⟨rfl, rfl, rfl, by decide +kernel, rfl, by decide +kernel, by decide +kernel⟩
theorem sc__law_completed : FnScope N__law_completed ["_law_q", "_law_m", "_law_n", "_law_size", "_law_first", "_law_rows"] (defScope s__law_completed) := ⟨rfl, rfl, rfl, by decide +kernel, rfl, by decide +kernel, by decide +kernel⟩
theorem sc__law_completed_told : FnScope N__law_completed_told ["_law_q", "_law_m", "_law_n", "_law_size", "_law_first"] (defScope s__law_completed_told) := ⟨rfl, rfl, rfl, by decide +kernel, rfl, by decide +kernel, by decide +kernel⟩
theorem sc__law_turned : FnScope N__law_turned ["_law_q", "_law_m", "_law_n", "_law_couples", "_law_rows"] (defScope s__law_turned) := ⟨rfl, rfl, rfl, by decide +kernel, rfl, by decide +kernel, by decide +kernel⟩
theorem sc__law_free_holds : FnScope N__law_free_holds ["_law_hand_here", "_law_q", "_law_m", "_law_n", "_law_rows"] (defScope s__law_free_holds) := ⟨rfl, rfl, rfl, by decide +kernel, rfl, by decide +kernel, by decide +kernel⟩
theorem sc__law_odd : FnScope N__law_odd ["_law_hand_here", "_law_low", "_law_high"] (defScope s__law_odd) := ⟨rfl, rfl, rfl, by decide +kernel, rfl, by decide +kernel, by decide +kernel⟩
theorem sc__law_odd_row : FnScope N__law_odd_row ["_law_hand_here", "_law_n", "_law_row"] (defScope s__law_odd_row) := ⟨rfl, rfl, rfl, by decide +kernel, rfl, by decide +kernel, by decide +kernel⟩
theorem sc__law_turned_told : FnScope N__law_turned_told ["_law_q", "_law_m", "_law_n", "_law_couples"] (defScope s__law_turned_told) := ⟨rfl, rfl, rfl, by decide +kernel, rfl, by decide +kernel, by decide +kernel⟩
theorem sc__law_refusals_hold : FnScope N__law_refusals_hold ["_law_hand_here", "_law_q", "_law_m", "_law_n"] (defScope s__law_refusals_hold) := ⟨rfl, rfl, rfl, by decide +kernel, rfl, by decide +kernel, by decide +kernel⟩
theorem sc_law : FnScope N_law ["_law_script"] (defScope s_law) := ⟨rfl, rfl, rfl, by decide +kernel, rfl, by decide +kernel, by decide +kernel⟩
abbrev sI_BadSizes : Stmt := memS (topS 7) 0
theorem scI_BadSizes : FnScope ["self", "what"] ["self", "what"] (defScope sI_BadSizes) := ⟨rfl, rfl, rfl, by decide +kernel, rfl, by decide +kernel, by decide +kernel⟩
abbrev sI_BadCounts : Stmt := memS (topS 8) 0
theorem scI_BadCounts : FnScope ["self", "what"] ["self", "what"] (defScope sI_BadCounts) := ⟨rfl, rfl, rfl, by decide +kernel, rfl, by decide +kernel, by decide +kernel⟩
abbrev sI_NoLot : Stmt := memS (topS 9) 0
theorem scI_NoLot : FnScope ["self", "rank"] ["self", "rank"] (defScope sI_NoLot) := ⟨rfl, rfl, rfl, by decide +kernel, rfl, by decide +kernel, by decide +kernel⟩
abbrev cl_BadSizes : Nat := 0
abbrev cl_BadCounts : Nat := 1
abbrev cl_NoLot : Nat := 2
def tabE : List (Nat × D × Bool) := [(cl_BadSizes, .cl cl_BadSizes, true), (cl_BadSizes, .cl cl_BadCounts, false), (cl_BadSizes, .cl cl_NoLot, false), (cl_BadCounts, .cl cl_BadSizes, false), (cl_BadCounts, .cl cl_BadCounts, true), (cl_BadCounts, .cl cl_NoLot, false), (cl_NoLot, .cl cl_BadSizes, false), (cl_NoLot, .cl cl_BadCounts, false), (cl_NoLot, .cl cl_NoLot, true)]
def subE : Nat → D → Option Bool := subOf tabE
theorem subE_BadSizes_BadSizes : subE cl_BadSizes (.cl cl_BadSizes) = some true := by decide
theorem subE_BadSizes_BadCounts : subE cl_BadSizes (.cl cl_BadCounts) = some false := by decide
theorem subE_BadSizes_NoLot : subE cl_BadSizes (.cl cl_NoLot) = some false := by decide
theorem subE_BadCounts_BadSizes : subE cl_BadCounts (.cl cl_BadSizes) = some false := by decide
theorem subE_BadCounts_BadCounts : subE cl_BadCounts (.cl cl_BadCounts) = some true := by decide
theorem subE_BadCounts_NoLot : subE cl_BadCounts (.cl cl_NoLot) = some false := by decide
theorem subE_NoLot_BadSizes : subE cl_NoLot (.cl cl_BadSizes) = some false := by decide
theorem subE_NoLot_BadCounts : subE cl_NoLot (.cl cl_BadCounts) = some false := by decide
theorem subE_NoLot_NoLot : subE cl_NoLot (.cl cl_NoLot) = some true := by decide
abbrev xs_0 : List Nat := [cl_BadSizes]
theorem in_xs_0_BadSizes : (cl_BadSizes ∈ xs_0) = True := by decide
abbrev xs_1 : List Nat := [cl_BadCounts]
theorem in_xs_1_BadCounts : (cl_BadCounts ∈ xs_1) = True := by decide
abbrev xs_2 : List Nat := [cl_NoLot]
theorem in_xs_2_NoLot : (cl_NoLot ∈ xs_2) = True := by decide
class Fns where
  F__law_hand : List D → Rf
  F__law_mixed : List D → Rf
  F__law_draw : List D → Rf
  F__law_power : List D → Rf
  F__law_gauss : List D → Rf
  F__law_met : List D → Rf
  F__law_at : List D → Rf
  F__law_tables : List D → Rf
  F__law_real : List D → Rf
  F__law_spread : List D → Rf
  F__law_known : List D → Rf
  F__law_rest : List D → Rf
  F__law_whole : List D → Rf
  F__law_same : List D → Rf
  F_is_whole : List D → Rf
  F_check_sizes : List D → Rf
  F_power_of : List D → Rf
  F_is_sequence : List D → Rf
  F_is_counts : List D → Rf
  F_space_count : List D → Rf
  F_completed_counts : List D → Rf
  F_spread_sum : List D → Rf
  F_known_part : List D → Rf
  F_turned_counts : List D → Rf
  F__law_real_holds : List D → Rf
  F__law_pick : List D → Rf
  F__law_agrees : List D → Rf
  F__law_completed : List D → Rf
  F__law_completed_told : List D → Rf
  F__law_turned : List D → Rf
  F__law_free_holds : List D → Rf
  F__law_odd : List D → Rf
  F__law_odd_row : List D → Rf
  F__law_turned_told : List D → Rf
  F__law_refusals_hold : List D → Rf
  F_law : List D → Rf
  e__law_hand : F__law_hand = mkF 4
    (mSeq (mAsg 1 (mBin dAdd (mC (.int 83)) (mCall (fn1 dLen) (mCons (mVar 0) mNil))))
  (mSeq (mAsg 2 (mLst mNil))
  (mSeq (mFor (mIter (mVar 0)) (gN 3) [3] (mSeq (mAsg 1 (mBin dMod (mCall (fn1 dInt) (mCons (mBin dAdd (mBin dMul (mVar 1) (mC (.int 2903))) (mCall (fn1 dInt) (mCons (mVar 3) mNil))) mNil)) (mC (.int 2147483587))))
  (mDrop (mApp 2 (mCall (fn1 dAbs) (mCons (mCall (fn1 dInt) (mCons (mVar 3) mNil)) mNil))))))
  (mRet (mLst (mCons (mVar 2) (mCons (mC (.int 0)) (mCons (mC (.int 0)) (mCons (mVar 1) mNil)))))))))
  e__law_mixed : F__law_mixed = mkF 4
    (mSeq (mAsg 2 (mBin dMod (mCall (fn1 dInt) (mCons (mBin dAdd (mBin dAdd (mBin dMul (mVar 0) (mC (.int 44497))) (mBin dMul (mVar 1) (mC (.int 9973)))) (mC (.int 30011))) mNil)) (mC (.int 2147483543))))
  (mSeq (mAsg 3 (mBin dMod (mCall (fn1 dInt) (mCons (mBin dAdd (mBin dAdd (mBin dMul (mVar 2) (mVar 2)) (mBin dMul (mVar 1) (mC (.int 60013)))) (mBin dDiv (mVar 2) (mC (.int 151)))) mNil)) (mC (.int 2147483497))))
  (mRet (mBin dDiv (mCall (fn1 dInt) (mCons (mBin dMod (mCall (fn1 dInt) (mCons (mBin dAdd (mBin dMul (mVar 3) (mC (.int 50021))) (mBin dDiv (mVar 2) (mC (.int 13)))) mNil)) (mC (.int 2147483489))) mNil)) (mC (.int 64))))))
  e__law_draw : F__law_draw = mkIO 4
    (mSeq (mIfS (mAnd (mCmp cEq (mBin dIx (mVar 0) (mC (.int 2))) (mC (.int 0))) (mCmp cLt (mBin dIx (mVar 0) (mC (.int 1))) (mCall (fn1 dLen) (mCons (mBin dIx (mVar 0) (mC (.int 0))) mNil)))) (mSeq (mAsg 2 (mBin dIx (mBin dIx (mVar 0) (mC (.int 0))) (mBin dIx (mVar 0) (mC (.int 1)))))
  (mSeq (mSetI 0 (mC (.int 1)) (mBin dAdd (mBin dIx (mVar 0) (mC (.int 1))) (mC (.int 1))))
  (mSeq (mIfS (mCmp cLt (mVar 2) (mBin dPow (mC (.int 10)) (mC (.int 18)))) (mRet (mBin dMod (mCall (fn1 dInt) (mCons (mCallF F__law_mixed (mCons (mBin dMod (mCall (fn1 dInt) (mCons (mVar 2) mNil)) (mC (.int 2147483543))) (mCons (mBin dIx (mVar 0) (mC (.int 1))) mNil))) mNil)) (mVar 1))) mNext)
  (mSetI 0 (mC (.int 2)) (mVar 2))))) mNext)
  (mSeq (mIfS (mCmp cGt (mBin dIx (mVar 0) (mC (.int 2))) (mC (.int 0))) (mSeq (mAsg 3 (mBin dIx (mVar 0) (mC (.int 2))))
  (mSeq (mSetI 0 (mC (.int 2)) (mBin dDiv (mCall (fn1 dInt) (mCons (mVar 3) mNil)) (mVar 1)))
  (mRet (mBin dMod (mCall (fn1 dInt) (mCons (mVar 3) mNil)) (mVar 1))))) mNext)
  (mSeq (mSetI 0 (mC (.int 3)) (mBin dMod (mCall (fn1 dInt) (mCons (mBin dAdd (mBin dIx (mVar 0) (mC (.int 3))) (mC (.int 1))) mNil)) (mC (.int 2147483579))))
  (mRet (mBin dMod (mCall (fn1 dInt) (mCons (mCallF F__law_mixed (mCons (mBin dIx (mVar 0) (mC (.int 3))) (mCons (mBin dIx (mVar 0) (mC (.int 1))) mNil))) mNil)) (mVar 1))))))
  e__law_power : F__law_power = mkF 4
    (mSeq (mAsg 2 (mC (.int 1)))
  (mSeq (mFor (mRng (mCons (mVar 1) mNil)) (gN 3) [3] (mAsg 2 (mBin dMul (mVar 2) (mVar 0))))
  (mRet (mVar 2))))
  e__law_gauss : F__law_gauss = mkF 7
    (mSeq (mAsg 2 (mLst (mCons (mLst (mCons (mC (.int 1)) mNil)) mNil)))
  (mSeq (mFor (mRng (mCons (mC (.int 1)) (mCons (mBin dAdd (mVar 1) (mC (.int 1))) mNil))) (gN 3) [3, 4, 5, 6] (mSeq (mAsg 4 (mBin dIx (mVar 2) (mBin dSub (mVar 3) (mC (.int 1)))))
  (mSeq (mAsg 5 (mLst (mCons (mC (.int 1)) mNil)))
  (mSeq (mFor (mRng (mCons (mC (.int 1)) (mCons (mVar 3) mNil))) (gN 6) [6] (mDrop (mApp 5 (mBin dAdd (mBin dIx (mVar 4) (mBin dSub (mVar 6) (mC (.int 1)))) (mBin dMul (mCallF F__law_power (mCons (mVar 0) (mCons (mVar 6) mNil))) (mBin dIx (mVar 4) (mVar 6)))))))
  (mDrop (mApp 2 (mBin dAdd (mVar 5) (mLst (mCons (mC (.int 1)) mNil)))))))))
  (mRet (mVar 2))))
  e__law_met : F__law_met = mkF 9
    (mSeq (mAsg 5 (mLst mNil))
  (mSeq (mFor (mRng (mCons (mBin dAdd (mVar 2) (mC (.int 1))) mNil)) (gN 6) [7, 8] (mSeq (mAsg 7 (mCallF F__law_power (mCons (mVar 0) (mCons (mBin dMul (mVar 1) (mCall (fn2 dMax) (mCons (mC (.int 0)) (mCons (mBin dAdd (mBin dSub (mVar 6) (mVar 3)) (mC (.int 1))) mNil)))) mNil))))
  (mSeq (mFor (mRng (mCons (mVar 6) mNil)) (gN 8) [8] (mAsg 7 (mBin dSub (mVar 7) (mBin dMul (mBin dIx (mVar 5) (mVar 8)) (mBin dIx (mBin dIx (mVar 4) (mVar 6)) (mVar 8))))))
  (mDrop (mApp 5 (mVar 7))))))
  (mRet (mLc (mRng (mCons (mBin dAdd (mVar 2) (mC (.int 1))) mNil)) (gN 6) [6] mYes (mBin dMul (mBin dIx (mVar 5) (mVar 6)) (mBin dIx (mBin dIx (mVar 4) (mVar 2)) (mVar 6)))))))
  e__law_at : F__law_at = mkF 3
    (mSeq (mIfS (mOr (mCmp cLt (mVar 2) (mC (.int 0))) (mCmp cGt (mVar 2) (mVar 1))) (mRet (mC (.int 0))) mNext)
  (mRet (mBin dIx (mBin dIx (mVar 0) (mVar 1)) (mVar 2))))
  e__law_tables : F__law_tables = mkF 9
    (mSeq (mAsg 5 (mLst mNil))
  (mSeq (mFor (mRng (mCons (mBin dAdd (mVar 3) (mC (.int 1))) mNil)) (gN 6) [6, 7, 8] (mSeq (mAsg 7 (mCallF F__law_at (mCons (mVar 4) (mCons (mVar 2) (mCons (mVar 6) mNil)))))
  (mSeq (mFor (mRng (mCons (mVar 6) mNil)) (gN 8) [8] (mAsg 7 (mIf (mCmp cLt (mVar 8) (mVar 1)) (mBin dMul (mVar 7) (mBin dSub (mCallF F__law_power (mCons (mVar 0) (mCons (mVar 1) mNil))) (mCallF F__law_power (mCons (mVar 0) (mCons (mVar 8) mNil))))) (mC (.int 0)))))
  (mDrop (mApp 5 (mVar 7))))))
  (mRet (mVar 5))))
  e__law_real : F__law_real = mkIO 5
    (mSeq (mIfS (mAnd (mCmp cLe (mVar 3) (mVar 2)) (mCmp cEq (mCallIO F__law_draw 0 (mCons (mC (.int 2)) mNil)) (mC (.int 0)))) (mRet (mCallF F__law_met (mCons (mVar 1) (mCons (mVar 2) (mCons (mVar 3) (mCons (mBin dAdd (mC (.int 1)) (mCallIO F__law_draw 0 (mCons (mBin dAdd (mVar 3) (mC (.int 1))) mNil))) (mCons (mVar 4) mNil))))))) mNext)
  (mRet (mCallF F__law_tables (mCons (mVar 1) (mCons (mCallIO F__law_draw 0 (mCons (mBin dAdd (mVar 2) (mC (.int 1))) mNil)) (mCons (mCallIO F__law_draw 0 (mCons (mBin dAdd (mVar 3) (mC (.int 1))) mNil)) (mCons (mVar 3) (mCons (mVar 4) mNil))))))))
  e__law_spread : F__law_spread = mkF 5
    (mRet (mCall (fn1 dSumA) (mCons (mLc (mRng (mCons (mBin dAdd (mVar 0) (mC (.int 1))) mNil)) (gN 4) [4] mYes (mBin dMul (mBin dIx (mVar 1) (mVar 4)) (mCallF F__law_at (mCons (mVar 3) (mCons (mBin dSub (mVar 0) (mVar 4)) (mCons (mVar 2) mNil)))))) mNil)))
  e__law_known : F__law_known = mkF 5
    (mRet (mCall (fn1 dSumA) (mCons (mLc (mRng (mCons (mVar 2) mNil)) (gN 4) [4] mYes (mBin dMul (mBin dIx (mVar 1) (mVar 4)) (mCallF F__law_at (mCons (mVar 3) (mCons (mBin dSub (mVar 0) (mVar 4)) (mCons (mBin dSub (mVar 2) (mVar 4)) mNil)))))) mNil)))
  e__law_rest : F__law_rest = mkF 9
    (mSeq (mAsg 6 (mLst mNil))
  (mSeq (mFor (mRng (mCons (mBin dAdd (mVar 2) (mC (.int 1))) mNil)) (gN 7) [7, 8] (mSeq (mAsg 8 (mBin dSub (mBin dMul (mCallF F__law_power (mCons (mVar 0) (mCons (mBin dMul (mVar 1) (mVar 7)) mNil))) (mCallF F__law_spread (mCons (mVar 2) (mCons (mVar 4) (mCons (mVar 7) (mCons (mVar 5) mNil)))))) (mBin dMul (mVar 3) (mCallF F__law_known (mCons (mVar 2) (mCons (mVar 6) (mCons (mVar 7) (mCons (mVar 5) mNil))))))))
  (mSeq (mIfS (mOr (mCmp cLt (mVar 8) (mC (.int 0))) (mCmp cNe (mBin dMod (mCall (fn1 dInt) (mCons (mVar 8) mNil)) (mVar 3)) (mC (.int 0)))) (mRet (mTup (mCons (mC (.str "none")) (mCons (mVar 7) mNil)))) mNext)
  (mDrop (mApp 6 (mBin dDiv (mVar 8) (mVar 3)))))))
  (mRet (mTup (mCons (mC (.str "row")) (mCons (mVar 6) mNil))))))
  e__law_whole : F__law_whole = mkF 1
    (mRet (mAndV (mCall (fn2 (dIsi sub0 [])) (mCons (mVar 0) (mCons (mC (.ty "int")) mNil))) (mNotV (mCall (fn2 (dIsi sub0 [])) (mCons (mVar 0) (mCons (mC (.ty "bool")) mNil))))))
  e__law_same : F__law_same = mkF 4
    (mSeq (mIfS (mOr (mNot (mTest (mCall (fn2 (dIsi sub0 [])) (mCons (mVar 0) (mCons (mC (.ty "tuple")) mNil))))) (mCmp cNe (mCall (fn1 dLen) (mCons (mVar 0) mNil)) (mCall (fn1 dLen) (mCons (mVar 1) mNil)))) (mRet (mC (.bl false))) mNext)
  (mSeq (mFor (mWalk wZipM (mCons (mVar 0) (mCons (mVar 1) mNil))) (gT 2 (gs1 (gN 2) (gs1 (gN 3) gs0))) [2, 3] (mIfS (mOr (mNot (mTest (mCallF F__law_whole (mCons (mVar 2) mNil)))) (mCmp cNe (mVar 2) (mVar 3))) (mRet (mC (.bl false))) mNext))
  (mRet (mC (.bl true)))))
  e_is_whole : F_is_whole = mkF 3
    (mSeq (mIfS (mOr (mNot (mTest (mCall (fn2 (dIsi sub0 [])) (mCons (mVar 0) (mCons (mC (.ty "int")) mNil))))) (mTest (mCall (fn2 (dIsi sub0 [])) (mCons (mVar 0) (mCons (mC (.ty "bool")) mNil))))) (mRet (mC (.bl false))) mNext)
  (mSeq (mIfS (mAnd (mCmp cIsNot (mVar 1) (mC .non)) (mCmp cLt (mVar 0) (mVar 1))) (mRet (mC (.bl false))) mNext)
  (mRet (mOrV (mBin (lift cIs) (mVar 2) (mC .non)) (mBin (lift cLe) (mVar 0) (mVar 2))))))
  e_check_sizes : F_check_sizes = mkF 3
    (mSeq (mIfS (mNot (mTest (mCallF F_is_whole (mCons (mVar 0) (mCons (mC (.int 2)) (mCons (mC (.int 3)) mNil)))))) (mRaise cl_BadSizes ["what"] (mCons (mC (.str "prime")) mNil)) mNext)
  (mSeq (mIfS (mNot (mTest (mCallF F_is_whole (mCons (mVar 1) (mCons (mC (.int 1)) (mCons (mC (.int 12)) mNil)))))) (mRaise cl_BadSizes ["what"] (mCons (mC (.str "degree")) mNil)) mNext)
  (mIfS (mNot (mTest (mCallF F_is_whole (mCons (mVar 2) (mCons (mC (.int 1)) (mCons (mC (.int 12)) mNil)))))) (mRaise cl_BadSizes ["what"] (mCons (mC (.str "columns")) mNil)) mNext)))
  e_power_of : F_power_of = mkF 4
    (mSeq (mAsg 2 (mC (.int 1)))
  (mSeq (mFor (mRng (mCons (mVar 1) mNil)) (gN 3) [3] (mAsg 2 (mBin dMul (mVar 2) (mVar 0))))
  (mRet (mVar 2))))
  e_is_sequence : F_is_sequence = mkF 1
    (mRet (mCall (fn2 (dIsi sub0 [])) (mCons (mVar 0) (mCons (mTup (mCons (mC (.ty "list")) (mCons (mC (.ty "tuple")) mNil))) mNil))))
  e_is_counts : F_is_counts = mkF 3
    (mSeq (mIfS (mOr (mNot (mTest (mCallF F_is_sequence (mCons (mVar 1) mNil)))) (mCmp cNe (mCall (fn1 dLen) (mCons (mVar 1) mNil)) (mBin dAdd (mVar 0) (mC (.int 1))))) (mRet (mC (.bl false))) mNext)
  (mRet (mCall (fn1 dAllN) (mCons (mLc (mIter (mVar 1)) (gN 2) [2] mYes (mCallF F_is_whole (mPad [.non] (mCons (mVar 2) (mCons (mC (.int 0)) mNil))))) mNil))))
  e_space_count : F_space_count = mkF 6
    (mSeq (mIfS (mOr (mCmp cLt (mVar 2) (mC (.int 0))) (mCmp cGt (mVar 2) (mVar 1))) (mRet (mC (.int 0))) mNext)
  (mSeq (mAsg 3 (mC (.int 1)))
  (mSeq (mAsg 4 (mC (.int 1)))
  (mSeq (mFor (mRng (mCons (mVar 2) mNil)) (gN 5) [5] (mSeq (mAsg 3 (mBin dMul (mVar 3) (mBin dSub (mCallF F_power_of (mCons (mVar 0) (mCons (mBin dSub (mVar 1) (mVar 5)) mNil))) (mC (.int 1)))))
  (mAsg 4 (mBin dMul (mVar 4) (mBin dSub (mCallF F_power_of (mCons (mVar 0) (mCons (mBin dAdd (mVar 5) (mC (.int 1))) mNil))) (mC (.int 1)))))))
  (mRet (mBin dDiv (mVar 3) (mVar 4)))))))
  e_completed_counts : F_completed_counts = mkF 12
    (mSeq (mDrop (mCallF F_check_sizes (mCons (mVar 0) (mCons (mVar 1) (mCons (mVar 2) mNil)))))
  (mSeq (mIfS (mNot (mTest (mCallF F_is_whole (mCons (mVar 3) (mCons (mC (.int 1)) (mCons (mCallF F_power_of (mCons (mVar 0) (mCons (mBin dMul (mVar 1) (mVar 2)) mNil))) mNil)))))) (mRaise cl_BadSizes ["what"] (mCons (mC (.str "size")) mNil)) mNext)
  (mSeq (mIfS (mOr (mNot (mTest (mCallF F_is_sequence (mCons (mVar 4) mNil)))) (mNot (mChainB cLe cLe (mC (.int 1)) (mCall (fn1 dLen) (mCons (mVar 4) mNil)) (mBin dAdd (mVar 2) (mC (.int 1)))))) (mRaise cl_BadCounts ["what"] (mCons (mC (.str "row")) mNil)) mNext)
  (mSeq (mIfS (mNot (mTest (mCallF F_is_counts (mCons (mBin dSub (mCall (fn1 dLen) (mCons (mVar 4) mNil)) (mC (.int 1))) (mCons (mVar 4) mNil))))) (mRaise cl_BadCounts ["what"] (mCons (mC (.str "row")) mNil)) mNext)
  (mSeq (mIfS (mCmp cNe (mBin dIx (mVar 4) (mC (.int 0))) (mC (.int 1))) (mRaise cl_BadCounts ["what"] (mCons (mC (.str "first")) mNil)) mNext)
  (mSeq (mAsg 5 (mCall (fn1 dList) (mCons (mVar 4) mNil)))
  (mSeq (mFor (mRng (mCons (mCall (fn1 dLen) (mCons (mVar 4) mNil)) (mCons (mBin dAdd (mVar 2) (mC (.int 1))) mNil))) (gN 6) [6, 7, 8, 9, 10] (mSeq (mAsg 7 (mBin dSub (mVar 2) (mVar 6)))
  (mSeq (mAsg 8 (mBin dMul (mVar 3) (mCallF F_space_count (mCons (mVar 0) (mCons (mVar 2) (mCons (mVar 7) mNil))))))
  (mSeq (mAsg 9 (mCallF F_power_of (mCons (mVar 0) (mCons (mBin dMul (mVar 1) (mVar 7)) mNil))))
  (mSeq (mAsg 10 (mCall (fn1 dSumA) (mCons (mLc (mRng (mCons (mVar 6) mNil)) (gN 11) [11] mYes (mBin dMul (mBin dIx (mVar 5) (mVar 11)) (mCallF F_space_count (mCons (mVar 0) (mCons (mBin dSub (mVar 2) (mVar 11)) (mCons (mVar 7) mNil)))))) mNil)))
  (mSeq (mIfS (mOr (mCmp cNe (mBin dMod (mVar 8) (mVar 9)) (mC (.int 0))) (mCmp cLt (mBin dDiv (mVar 8) (mVar 9)) (mVar 10))) (mRaise cl_NoLot ["rank"] (mCons (mVar 6) mNil)) mNext)
  (mDrop (mApp 5 (mBin dSub (mBin dDiv (mVar 8) (mVar 9)) (mVar 10))))))))))
  (mRet (mCall (fn1 dTuple) (mCons (mVar 5) mNil))))))))))
  e_spread_sum : F_spread_sum = mkF 5
    (mRet (mCall (fn1 dSumA) (mCons (mLc (mRng (mCons (mBin dAdd (mVar 1) (mC (.int 1))) mNil)) (gN 4) [4] mYes (mBin dMul (mBin dIx (mVar 2) (mVar 4)) (mCallF F_space_count (mCons (mVar 0) (mCons (mBin dSub (mVar 1) (mVar 4)) (mCons (mVar 3) mNil)))))) mNil)))
  e_known_part : F_known_part = mkF 5
    (mRet (mCall (fn1 dSumA) (mCons (mLc (mRng (mCons (mVar 3) mNil)) (gN 4) [4] mYes (mBin dMul (mBin dIx (mVar 2) (mVar 4)) (mCallF F_space_count (mCons (mVar 0) (mCons (mBin dSub (mVar 1) (mVar 4)) (mCons (mBin dSub (mVar 3) (mVar 4)) mNil)))))) mNil)))
  e_turned_counts : F_turned_counts = mkF 7
    (mSeq (mDrop (mCallF F_check_sizes (mCons (mVar 0) (mCons (mVar 1) (mCons (mVar 2) mNil)))))
  (mSeq (mIfS (mNot (mTest (mCallF F_is_counts (mCons (mVar 2) (mCons (mVar 3) mNil))))) (mRaise cl_BadCounts ["what"] (mCons (mC (.str "row")) mNil)) mNext)
  (mSeq (mIfS (mCmp cEq (mBin dIx (mVar 3) (mC (.int 0))) (mC (.int 0))) (mRaise cl_BadCounts ["what"] (mCons (mC (.str "first")) mNil)) mNext)
  (mSeq (mIfS (mCmp cNe (mCall (fn1 dSumA) (mCons (mVar 3) mNil)) (mBin dMul (mBin dIx (mVar 3) (mC (.int 0))) (mBin dIx (mVar 3) (mC (.int 0))))) (mRaise cl_BadCounts ["what"] (mCons (mC (.str "sum")) mNil)) mNext)
  (mSeq (mAsg 4 (mLst mNil))
  (mSeq (mFor (mRng (mCons (mBin dAdd (mVar 2) (mC (.int 1))) mNil)) (gN 5) [5, 6] (mSeq (mAsg 6 (mBin dMul (mCallF F_power_of (mCons (mVar 0) (mCons (mBin dMul (mVar 1) (mVar 5)) mNil))) (mCallF F_spread_sum (mCons (mVar 0) (mCons (mVar 2) (mCons (mVar 3) (mCons (mVar 5) mNil)))))))
  (mDrop (mApp 4 (mBin dSub (mVar 6) (mCallF F_known_part (mCons (mVar 0) (mCons (mVar 2) (mCons (mVar 4) (mCons (mVar 5) mNil))))))))))
  (mRet (mCall (fn1 dTuple) (mCons (mVar 4) mNil)))))))))
  e__law_real_holds : F__law_real_holds = mkIO 11
    (mSeq (mAsg 5 (mCallIO F__law_real 0 (mCons (mVar 1) (mCons (mVar 2) (mCons (mVar 3) (mCons (mVar 4) mNil))))))
  (mSeq (mAsg 6 (mCall (fn1 dSumA) (mCons (mVar 5) mNil)))
  (mSeq (mAsg 7 (mCallF F__law_rest (mCons (mVar 1) (mCons (mVar 2) (mCons (mVar 3) (mCons (mVar 6) (mCons (mVar 5) (mCons (mVar 4) mNil))))))))
  (mSeq (mIfS (mCmp cEq (mBin dIx (mVar 7) (mC (.int 0))) (mC (.str "none"))) (mRet (mC (.bl false))) mNext)
  (mSeq (mFor (mRng (mCons (mBin dAdd (mVar 3) (mC (.int 1))) mNil)) (gN 8) [8] (mIfS (mAnd (mCmp cEq (mCall (fn1 dSumA) (mCons (mSlice (mBin dIx (mVar 7) (mC (.int 1))) (mPart (some (mC (.int 1)))) (mPart (some (mBin dSub (mVar 3) (mVar 8))))) mNil)) (mC (.int 0))) (mNot (mTest (mCallF F__law_same (mCons (mCallF F_completed_counts (mCons (mVar 1) (mCons (mVar 2) (mCons (mVar 3) (mCons (mVar 6) (mCons (mSlice (mVar 5) (mPart none) (mPart (some (mBin dAdd (mVar 8) (mC (.int 1)))))) mNil)))))) (mCons (mVar 5) mNil)))))) (mRet (mC (.bl false))) mNext))
  (mSeq (mAsg 9 (mCall (fn1 dTuple) (mCons (mLc (mIter (mVar 5)) (gN 10) [10] mYes (mBin dMul (mVar 6) (mVar 10))) mNil)))
  (mRet (mCallF F__law_same (mCons (mCallF F_turned_counts (mCons (mVar 1) (mCons (mVar 2) (mCons (mVar 3) (mCons (mVar 9) mNil))))) (mCons (mLc (mIter (mBin dIx (mVar 7) (mC (.int 1)))) (gN 10) [10] mYes (mBin dMul (mBin dMul (mVar 6) (mVar 6)) (mVar 10))) mNil))))))))))
  e__law_pick : F__law_pick = mkIO 2
    (mRet (mBin dIx (mVar 1) (mCallIO F__law_draw 0 (mCons (mCall (fn1 dLen) (mCons (mVar 1) mNil)) mNil))))
  e__law_agrees : F__law_agrees = mkF 2
    (mSeq (mIfS (mCmp cEq (mBin dIx (mVar 1) (mC (.int 0))) (mC (.str "none"))) (mRet (mBin (lift cEq) (mVar 0) (mVar 1))) mNext)
  (mRet (mAndV (mBin (lift cEq) (mBin dIx (mVar 0) (mC (.int 0))) (mC (.str "row"))) (mCallF F__law_same (mCons (mBin dIx (mVar 0) (mC (.int 1))) (mCons (mBin dIx (mVar 1) (mC (.int 1))) mNil))))))
  e__law_completed : F__law_completed = mkF 13
    (mSeq (mAsg 6 (mCall (fn1 dList) (mCons (mVar 4) mNil)))
  (mSeq (mFor (mRng (mCons (mCall (fn1 dLen) (mCons (mVar 4) mNil)) (mCons (mBin dAdd (mVar 2) (mC (.int 1))) mNil))) (gN 7) [7, 8, 9, 10, 11] (mSeq (mAsg 8 (mBin dSub (mVar 2) (mVar 7)))
  (mSeq (mAsg 9 (mBin dMul (mVar 3) (mBin dIx (mBin dIx (mVar 5) (mVar 2)) (mVar 8))))
  (mSeq (mAsg 10 (mCallF F__law_power (mCons (mVar 0) (mCons (mBin dMul (mVar 1) (mVar 8)) mNil))))
  (mSeq (mAsg 11 (mCall (fn1 dSumA) (mCons (mLc (mRng (mCons (mVar 7) mNil)) (gN 12) [12] mYes (mBin dMul (mBin dIx (mVar 6) (mVar 12)) (mCallF F__law_at (mCons (mVar 5) (mCons (mBin dSub (mVar 2) (mVar 12)) (mCons (mVar 8) mNil)))))) mNil)))
  (mSeq (mIfS (mOr (mCmp cNe (mBin dMod (mCall (fn1 dInt) (mCons (mVar 9) mNil)) (mVar 10)) (mC (.int 0))) (mCmp cLt (mBin dDiv (mVar 9) (mVar 10)) (mVar 11))) (mRet (mTup (mCons (mC (.str "none")) (mCons (mVar 7) mNil)))) mNext)
  (mDrop (mApp 6 (mBin dSub (mBin dDiv (mVar 9) (mVar 10)) (mVar 11))))))))))
  (mRet (mTup (mCons (mC (.str "row")) (mCons (mVar 6) mNil))))))
  e__law_completed_told : F__law_completed_told = mkF 7
    (mSeq (mTry subE (mAsg 5 (mCallF F_completed_counts (mCons (mVar 0) (mCons (mVar 1) (mCons (mVar 2) (mCons (mVar 3) (mCons (mVar 4) mNil))))))) [(.cl cl_BadSizes, some 6, (mRet (mTup (mCons (mC (.str "sizes")) (mCons (mXf xs_0 6 "what") mNil))))), (.cl cl_BadCounts, some 6, (mRet (mTup (mCons (mC (.str "counts")) (mCons (mXf xs_1 6 "what") mNil))))), (.cl cl_NoLot, some 6, (mRet (mTup (mCons (mC (.str "none")) (mCons (mXf xs_2 6 "rank") mNil)))))])
  (mRet (mTup (mCons (mC (.str "row")) (mCons (mVar 5) mNil)))))
  e__law_turned : F__law_turned = mkF 8
    (mSeq (mAsg 5 (mLst mNil))
  (mSeq (mFor (mRng (mCons (mBin dAdd (mVar 2) (mC (.int 1))) mNil)) (gN 6) [6, 7] (mSeq (mAsg 7 (mBin dMul (mCallF F__law_power (mCons (mVar 0) (mCons (mBin dMul (mVar 1) (mVar 6)) mNil))) (mCallF F__law_spread (mCons (mVar 2) (mCons (mVar 3) (mCons (mVar 6) (mCons (mVar 4) mNil)))))))
  (mDrop (mApp 5 (mBin dSub (mVar 7) (mCallF F__law_known (mCons (mVar 2) (mCons (mVar 5) (mCons (mVar 6) (mCons (mVar 4) mNil))))))))))
  (mRet (mVar 5))))
  e__law_free_holds : F__law_free_holds = mkIO 14
    (mSeq (mAsg 5 (mBin dAdd (mLst (mCons (mC (.int 1)) mNil)) (mLc (mRng (mCons (mCallIO F__law_draw 0 (mCons (mBin dAdd (mVar 3) (mC (.int 1))) mNil)) mNil)) (gN 13) [13] mYes (mCallIO F__law_draw 0 (mCons (mCallIO F__law_pick 0 (mCons (mLst (mCons (mC (.int 1)) (mCons (mC (.int 4)) (mCons (mC (.int 1000)) mNil)))) mNil)) mNil)))))
  (mSeq (mAsg 6 (mBin dAdd (mC (.int 1)) (mCallIO F__law_draw 0 (mCons (mCallF F__law_power (mCons (mVar 1) (mCons (mBin dMul (mVar 2) (mVar 3)) mNil))) mNil))))
  (mSeq (mIfS (mCmp cEq (mCallIO F__law_draw 0 (mCons (mC (.int 2)) mNil)) (mC (.int 0))) (mSeq (mAsg 6 (mBin dMul (mCallF F__law_power (mCons (mVar 1) (mCons (mBin dMul (mVar 2) (mCallIO F__law_draw 0 (mCons (mBin dAdd (mVar 3) (mC (.int 1))) mNil))) mNil))) (mBin dAdd (mC (.int 1)) (mCallIO F__law_draw 0 (mCons (mBin dSub (mVar 1) (mC (.int 1))) mNil)))))
  (mAsg 6 (mCall (fn2 dMin) (mCons (mVar 6) (mCons (mCallF F__law_power (mCons (mVar 1) (mCons (mBin dMul (mVar 2) (mVar 3)) mNil))) mNil))))) mNext)
  (mSeq (mIfS (mNot (mTest (mCallF F__law_agrees (mCons (mCallF F__law_completed_told (mCons (mVar 1) (mCons (mVar 2) (mCons (mVar 3) (mCons (mVar 6) (mCons (mVar 5) mNil)))))) (mCons (mCallF F__law_completed (mCons (mVar 1) (mCons (mVar 2) (mCons (mVar 3) (mCons (mVar 6) (mCons (mVar 5) (mCons (mVar 4) mNil))))))) mNil))))) (mRet (mC (.bl false))) mNext)
  (mSeq (mAsg 7 (mBin dAdd (mC (.int 1)) (mCallIO F__law_draw 0 (mCons (mC (.int 300)) mNil))))
  (mSeq (mAsg 8 (mBin dSub (mBin dMul (mVar 7) (mVar 7)) (mVar 7)))
  (mSeq (mAsg 9 (mBin dAdd (mLst (mCons (mVar 7) mNil)) (mBin dMul (mLst (mCons (mC (.int 0)) mNil)) (mVar 3))))
  (mSeq (mFor (mRng (mCons (mC (.int 4)) mNil)) (gN 10) [10, 11, 12] (mSeq (mAsg 11 (mBin dAdd (mC (.int 1)) (mCallIO F__law_draw 0 (mCons (mVar 3) mNil))))
  (mSeq (mAsg 12 (mIf (mCmp cLt (mVar 10) (mC (.int 3))) (mCallIO F__law_draw 0 (mCons (mBin dAdd (mVar 8) (mC (.int 1))) mNil)) (mVar 8)))
  (mSeq (mSetI 9 (mVar 11) (mBin dAdd (mBin dIx (mVar 9) (mVar 11)) (mVar 12)))
  (mAsg 8 (mBin dSub (mVar 8) (mVar 12)))))))
  (mRet (mCallF F__law_same (mCons (mCallF F_turned_counts (mCons (mVar 1) (mCons (mVar 2) (mCons (mVar 3) (mCons (mVar 9) mNil))))) (mCons (mCallF F__law_turned (mCons (mVar 1) (mCons (mVar 2) (mCons (mVar 3) (mCons (mVar 9) (mCons (mVar 4) mNil)))))) mNil))))))))))))
  e__law_odd : F__law_odd = mkIO 5
    (mSeq (mAsg 3 (mCallIO F__law_draw 0 (mCons (mBin dPow (mC (.int 10)) (mC (.int 9))) mNil)))
  (mSeq (mAsg 4 (mCallIO F__law_draw 0 (mCons (mC (.int 8)) mNil)))
  (mSeq (mIfS (mCmp cEq (mVar 4) (mC (.int 0))) (mRet (mBin dSub (mVar 1) (mC (.int 1)))) mNext)
  (mSeq (mIfS (mCmp cEq (mVar 4) (mC (.int 1))) (mRet (mBin dAdd (mVar 2) (mC (.int 1)))) mNext)
  (mSeq (mIfS (mCmp cEq (mVar 4) (mC (.int 2))) (mRet (mBin dSub (mBin dSub (mVar 1) (mC (.int 2))) (mVar 3))) mNext)
  (mSeq (mIfS (mCmp cEq (mVar 4) (mC (.int 3))) (mRet (mBin dAdd (mBin dAdd (mVar 2) (mC (.int 2))) (mVar 3))) mNext)
  (mSeq (mIfS (mCmp cEq (mVar 4) (mC (.int 4))) (mRet (mC (.bl true))) mNext)
  (mSeq (mIfS (mCmp cEq (mVar 4) (mC (.int 5))) (mRet (mC .non)) mNext)
  (mSeq (mIfS (mCmp cEq (mVar 4) (mC (.int 6))) (mRet (mCall (fn1 dStr) (mCons (mVar 1) mNil))) mNext)
  (mRet (mLst (mCons (mVar 1) mNil))))))))))))
  e__law_odd_row : F__law_odd_row = mkIO 5
    (mSeq (mAsg 3 (mCallIO F__law_draw 0 (mCons (mCall (fn1 dLen) (mCons (mVar 2) mNil)) mNil)))
  (mSeq (mAsg 4 (mCallIO F__law_draw 0 (mCons (mC (.int 3)) mNil)))
  (mSeq (mIfS (mCmp cEq (mVar 4) (mC (.int 0))) (mRet (mBin dAdd (mVar 2) (mBin dMul (mLst (mCons (mC (.int 0)) mNil)) (mBin dSub (mBin dAdd (mVar 1) (mC (.int 2))) (mCall (fn1 dLen) (mCons (mVar 2) mNil)))))) mNext)
  (mSeq (mIfS (mCmp cEq (mVar 4) (mC (.int 1))) (mRet (mCallIO F__law_pick 0 (mCons (mLst (mCons (mTup mNil) (mCons (mC .non) (mCons (mC (.str "1")) mNil)))) mNil))) mNext)
  (mRet (mBin dAdd (mBin dAdd (mSlice (mVar 2) (mPart none) (mPart (some (mVar 3)))) (mLst (mCons (mCallIO F__law_pick 0 (mCons (mLst (mCons (mUn dNeg (mC (.int 1))) (mCons (mC (.bl true)) (mCons (mC .non) mNil)))) mNil)) mNil))) (mSlice (mVar 2) (mPart (some (mBin dAdd (mVar 3) (mC (.int 1))))) (mPart none))))))))
  e__law_turned_told : F__law_turned_told = mkF 6
    (mSeq (mTry subE (mAsg 4 (mCallF F_turned_counts (mCons (mVar 0) (mCons (mVar 1) (mCons (mVar 2) (mCons (mVar 3) mNil)))))) [(.cl cl_BadSizes, some 5, (mRet (mTup (mCons (mC (.str "sizes")) (mCons (mXf xs_0 5 "what") mNil))))), (.cl cl_BadCounts, some 5, (mRet (mTup (mCons (mC (.str "counts")) (mCons (mXf xs_1 5 "what") mNil)))))])
  (mRet (mTup (mCons (mC (.str "row")) (mCons (mVar 4) mNil)))))
  e__law_refusals_hold : F__law_refusals_hold = mkIO 18
    (mSeq (mAsg 4 (mCallIO F__law_draw 0 (mCons (mC (.int 64)) mNil)))
  (mSeq (mAsg 5 (mCallF F__law_power (mCons (mVar 1) (mCons (mBin dMul (mVar 2) (mVar 3)) mNil))))
  (mSeq (mAsg 6 (mLst (mCons (mCallIO F__law_odd 0 (mCons (mC (.int 2)) (mCons (mC (.int 3)) mNil))) (mCons (mCallIO F__law_odd 0 (mCons (mC (.int 1)) (mCons (mC (.int 12)) mNil))) (mCons (mCallIO F__law_odd 0 (mCons (mC (.int 1)) (mCons (mC (.int 12)) mNil))) (mCons (mCallIO F__law_odd 0 (mCons (mC (.int 1)) (mCons (mVar 5) mNil))) mNil))))))
  (mSeq (mAsg 7 (mLst (mCons (mVar 1) (mCons (mVar 2) (mCons (mVar 3) (mCons (mCallIO F__law_pick 0 (mCons (mLst (mCons (mC (.int 1)) (mCons (mVar 5) mNil))) mNil)) mNil))))))
  (mSeq (mAsg 8 (mLc (mRng (mCons (mC (.int 4)) mNil)) (gN 17) [17] mYes (mIf (mCmp cEq (mBin dAnd (mBin dShr (mVar 4) (mVar 17)) (mC (.int 1))) (mC (.int 1))) (mBin dIx (mVar 6) (mVar 17)) (mBin dIx (mVar 7) (mVar 17)))))
  (mSeq (mAsg 9 (mBin dAdd (mLst (mCons (mCallIO F__law_pick 0 (mCons (mLst (mCons (mC (.int 0)) (mCons (mBin dAdd (mC (.int 2)) (mCallIO F__law_draw 0 (mCons (mC (.int 9)) mNil))) mNil))) mNil)) mNil)) (mBin dMul (mLst (mCons (mC (.int 0)) mNil)) (mCallIO F__law_draw 0 (mCons (mBin dAdd (mVar 3) (mC (.int 1))) mNil)))))
  (mSeq (mAsg 10 (mC (.str "first")))
  (mSeq (mIfS (mCmp cEq (mBin dAnd (mBin dShr (mVar 4) (mC (.int 4))) (mC (.int 1))) (mC (.int 1))) (mSeq (mAsg 9 (mCallIO F__law_odd_row 0 (mCons (mVar 3) (mCons (mVar 9) mNil))))
  (mAsg 10 (mC (.str "row")))) mNext)
  (mSeq (mAsg 11 (mLc (mRng (mCons (mC (.int 4)) mNil)) (gN 17) [17] (mCmp cEq (mBin dAnd (mBin dShr (mVar 4) (mVar 17)) (mC (.int 1))) (mC (.int 1))) (mVar 17)))
  (mSeq (mAsg 12 (mLst (mCons (mC (.str "prime")) (mCons (mC (.str "degree")) (mCons (mC (.str "columns")) (mCons (mC (.str "size")) mNil))))))
  (mSeq (mAsg 13 (mIf (mTest (mVar 11)) (mTup (mCons (mC (.str "sizes")) (mCons (mBin dIx (mVar 12) (mBin dIx (mVar 11) (mC (.int 0)))) mNil))) (mTup (mCons (mC (.str "counts")) (mCons (mVar 10) mNil)))))
  (mSeq (mIfS (mCmp cNe (mCallF F__law_completed_told (mCons (mBin dIx (mVar 8) (mC (.int 0))) (mCons (mBin dIx (mVar 8) (mC (.int 1))) (mCons (mBin dIx (mVar 8) (mC (.int 2))) (mCons (mBin dIx (mVar 8) (mC (.int 3))) (mCons (mVar 9) mNil)))))) (mVar 13)) (mRet (mC (.bl false))) mNext)
  (mSeq (mAsg 14 (mBin dAdd (mC (.int 1)) (mCallIO F__law_draw 0 (mCons (mC (.int 99)) mNil))))
  (mSeq (mAsg 15 (mBin dAdd (mLst (mCons (mVar 14) (mCons (mBin dSub (mBin dMul (mVar 14) (mVar 14)) (mVar 14)) mNil))) (mBin dMul (mLst (mCons (mC (.int 0)) mNil)) (mBin dSub (mVar 3) (mC (.int 1))))))
  (mSeq (mAsg 16 (mCallIO F__law_draw 0 (mCons (mC (.int 3)) mNil)))
  (mSeq (mIfS (mCmp cEq (mVar 16) (mC (.int 0))) (mPar 15 10 (mCons (mBin dAdd (mBin dMul (mLst (mCons (mC (.int 0)) mNil)) (mVar 3)) (mLst (mCons (mCallIO F__law_draw 0 (mCons (mC (.int 3)) mNil)) mNil))) (mCons (mC (.str "first")) mNil))) (mIfS (mCmp cEq (mVar 16) (mC (.int 1))) (mPar 15 10 (mCons (mBin dAdd (mLst (mCons (mVar 14) (mCons (mBin dAdd (mBin dSub (mBin dMul (mVar 14) (mVar 14)) (mVar 14)) (mC (.int 1))) mNil))) (mBin dMul (mLst (mCons (mC (.int 0)) mNil)) (mBin dSub (mVar 3) (mC (.int 1))))) (mCons (mC (.str "sum")) mNil))) (mPar 15 10 (mCons (mCallIO F__law_odd_row 0 (mCons (mVar 3) (mCons (mVar 15) mNil))) (mCons (mC (.str "row")) mNil)))))
  (mSeq (mAsg 13 (mIf (mAnd (mTest (mVar 11)) (mCmp cLt (mBin dIx (mVar 11) (mC (.int 0))) (mC (.int 3)))) (mTup (mCons (mC (.str "sizes")) (mCons (mBin dIx (mVar 12) (mBin dIx (mVar 11) (mC (.int 0)))) mNil))) (mTup (mCons (mC (.str "counts")) (mCons (mVar 10) mNil)))))
  (mRet (mBin (lift cEq) (mCallF F__law_turned_told (mCons (mBin dIx (mVar 8) (mC (.int 0))) (mCons (mBin dIx (mVar 8) (mC (.int 1))) (mCons (mBin dIx (mVar 8) (mC (.int 2))) (mCons (mVar 15) mNil))))) (mVar 13))))))))))))))))))))
  e_law : F_law = mkF 8
    (mSeq (mAsg 1 (mCallF F__law_hand (mCons (mVar 0) mNil)))
  (mSeq (mAsg 2 (mBin dAdd (mC (.int 2)) (mCallIO F__law_draw 1 (mCons (mC (.int 2)) mNil))))
  (mSeq (mAsg 3 (mBin dAdd (mC (.int 1)) (mCallIO F__law_draw 1 (mCons (mC (.int 12)) mNil))))
  (mSeq (mAsg 4 (mBin dAdd (mC (.int 1)) (mCallIO F__law_draw 1 (mCons (mC (.int 12)) mNil))))
  (mSeq (mAsg 5 (mCallF F__law_gauss (mCons (mVar 2) (mCons (mC (.int 12)) mNil))))
  (mSeq (mIfS (mOr (mNot (mTest (mCallIO F__law_real_holds 1 (mCons (mVar 2) (mCons (mVar 3) (mCons (mVar 4) (mCons (mVar 5) mNil))))))) (mNot (mTest (mCallIO F__law_free_holds 1 (mCons (mVar 2) (mCons (mVar 3) (mCons (mVar 4) (mCons (mVar 5) mNil)))))))) (mRet (mC (.bl false))) mNext)
  (mSeq (mAsg 6 (mBin dAdd (mLst (mCons (mC (.int 1)) mNil)) (mLc (mRng (mCons (mVar 4) mNil)) (gN 7) [7] mYes (mCallIO F__law_draw 1 (mCons (mBin dPow (mC (.int 10)) (mC (.int 9))) mNil)))))
  (mSeq (mIfS (mNot (mTest (mCallF F__law_same (mCons (mCallF F_completed_counts (mCons (mVar 2) (mCons (mVar 3) (mCons (mVar 4) (mCons (mBin dAdd (mC (.int 1)) (mCallIO F__law_draw 1 (mCons (mC (.int 2)) mNil))) (mCons (mCall (fn1 dTuple) (mCons (mVar 6) mNil)) mNil)))))) (mCons (mVar 6) mNil))))) (mRet (mC (.bl false))) mNext)
  (mRet (mCallIO F__law_refusals_hold 1 (mCons (mVar 2) (mCons (mVar 3) (mCons (mVar 4) mNil)))))))))))))
open Fns
variable [Fns]
def L__law_hand_1 : M Fl :=
  (mSeq (mAsg 1 (mBin dMod (mCall (fn1 dInt) (mCons (mBin dAdd (mBin dMul (mVar 1) (mC (.int 2903))) (mCall (fn1 dInt) (mCons (mVar 3) mNil))) mNil)) (mC (.int 2147483587))))
  (mDrop (mApp 2 (mCall (fn1 dAbs) (mCons (mCall (fn1 dInt) (mCons (mVar 3) mNil)) mNil)))))
def B__law_hand : M Fl :=
  (mSeq (mAsg 1 (mBin dAdd (mC (.int 83)) (mCall (fn1 dLen) (mCons (mVar 0) mNil))))
  (mSeq (mAsg 2 (mLst mNil))
  (mSeq (mFor (mIter (mVar 0)) (gN 3) [3] L__law_hand_1)
  (mRet (mLst (mCons (mVar 2) (mCons (mC (.int 0)) (mCons (mC (.int 0)) (mCons (mVar 1) mNil)))))))))
theorem F__law_hand_eq : F__law_hand = mkF 4 B__law_hand := Fns.e__law_hand
def B__law_mixed : M Fl :=
  (mSeq (mAsg 2 (mBin dMod (mCall (fn1 dInt) (mCons (mBin dAdd (mBin dAdd (mBin dMul (mVar 0) (mC (.int 44497))) (mBin dMul (mVar 1) (mC (.int 9973)))) (mC (.int 30011))) mNil)) (mC (.int 2147483543))))
  (mSeq (mAsg 3 (mBin dMod (mCall (fn1 dInt) (mCons (mBin dAdd (mBin dAdd (mBin dMul (mVar 2) (mVar 2)) (mBin dMul (mVar 1) (mC (.int 60013)))) (mBin dDiv (mVar 2) (mC (.int 151)))) mNil)) (mC (.int 2147483497))))
  (mRet (mBin dDiv (mCall (fn1 dInt) (mCons (mBin dMod (mCall (fn1 dInt) (mCons (mBin dAdd (mBin dMul (mVar 3) (mC (.int 50021))) (mBin dDiv (mVar 2) (mC (.int 13)))) mNil)) (mC (.int 2147483489))) mNil)) (mC (.int 64))))))
theorem F__law_mixed_eq : F__law_mixed = mkF 4 B__law_mixed := Fns.e__law_mixed
def B__law_draw : M Fl :=
  (mSeq (mIfS (mAnd (mCmp cEq (mBin dIx (mVar 0) (mC (.int 2))) (mC (.int 0))) (mCmp cLt (mBin dIx (mVar 0) (mC (.int 1))) (mCall (fn1 dLen) (mCons (mBin dIx (mVar 0) (mC (.int 0))) mNil)))) (mSeq (mAsg 2 (mBin dIx (mBin dIx (mVar 0) (mC (.int 0))) (mBin dIx (mVar 0) (mC (.int 1)))))
  (mSeq (mSetI 0 (mC (.int 1)) (mBin dAdd (mBin dIx (mVar 0) (mC (.int 1))) (mC (.int 1))))
  (mSeq (mIfS (mCmp cLt (mVar 2) (mBin dPow (mC (.int 10)) (mC (.int 18)))) (mRet (mBin dMod (mCall (fn1 dInt) (mCons (mCallF F__law_mixed (mCons (mBin dMod (mCall (fn1 dInt) (mCons (mVar 2) mNil)) (mC (.int 2147483543))) (mCons (mBin dIx (mVar 0) (mC (.int 1))) mNil))) mNil)) (mVar 1))) mNext)
  (mSetI 0 (mC (.int 2)) (mVar 2))))) mNext)
  (mSeq (mIfS (mCmp cGt (mBin dIx (mVar 0) (mC (.int 2))) (mC (.int 0))) (mSeq (mAsg 3 (mBin dIx (mVar 0) (mC (.int 2))))
  (mSeq (mSetI 0 (mC (.int 2)) (mBin dDiv (mCall (fn1 dInt) (mCons (mVar 3) mNil)) (mVar 1)))
  (mRet (mBin dMod (mCall (fn1 dInt) (mCons (mVar 3) mNil)) (mVar 1))))) mNext)
  (mSeq (mSetI 0 (mC (.int 3)) (mBin dMod (mCall (fn1 dInt) (mCons (mBin dAdd (mBin dIx (mVar 0) (mC (.int 3))) (mC (.int 1))) mNil)) (mC (.int 2147483579))))
  (mRet (mBin dMod (mCall (fn1 dInt) (mCons (mCallF F__law_mixed (mCons (mBin dIx (mVar 0) (mC (.int 3))) (mCons (mBin dIx (mVar 0) (mC (.int 1))) mNil))) mNil)) (mVar 1))))))
theorem F__law_draw_eq : F__law_draw = mkIO 4 B__law_draw := Fns.e__law_draw
def L__law_power_1 : M Fl :=
  (mAsg 2 (mBin dMul (mVar 2) (mVar 0)))
def B__law_power : M Fl :=
  (mSeq (mAsg 2 (mC (.int 1)))
  (mSeq (mFor (mRng (mCons (mVar 1) mNil)) (gN 3) [3] L__law_power_1)
  (mRet (mVar 2))))
theorem F__law_power_eq : F__law_power = mkF 4 B__law_power := Fns.e__law_power
def L__law_gauss_1 : M Fl :=
  (mDrop (mApp 5 (mBin dAdd (mBin dIx (mVar 4) (mBin dSub (mVar 6) (mC (.int 1)))) (mBin dMul (mCallF F__law_power (mCons (mVar 0) (mCons (mVar 6) mNil))) (mBin dIx (mVar 4) (mVar 6))))))
def L__law_gauss_2 : M Fl :=
  (mSeq (mAsg 4 (mBin dIx (mVar 2) (mBin dSub (mVar 3) (mC (.int 1)))))
  (mSeq (mAsg 5 (mLst (mCons (mC (.int 1)) mNil)))
  (mSeq (mFor (mRng (mCons (mC (.int 1)) (mCons (mVar 3) mNil))) (gN 6) [6] L__law_gauss_1)
  (mDrop (mApp 2 (mBin dAdd (mVar 5) (mLst (mCons (mC (.int 1)) mNil))))))))
def B__law_gauss : M Fl :=
  (mSeq (mAsg 2 (mLst (mCons (mLst (mCons (mC (.int 1)) mNil)) mNil)))
  (mSeq (mFor (mRng (mCons (mC (.int 1)) (mCons (mBin dAdd (mVar 1) (mC (.int 1))) mNil))) (gN 3) [3, 4, 5, 6] L__law_gauss_2)
  (mRet (mVar 2))))
theorem F__law_gauss_eq : F__law_gauss = mkF 7 B__law_gauss := Fns.e__law_gauss
def L__law_met_1 : M Fl :=
  (mAsg 7 (mBin dSub (mVar 7) (mBin dMul (mBin dIx (mVar 5) (mVar 8)) (mBin dIx (mBin dIx (mVar 4) (mVar 6)) (mVar 8)))))
def L__law_met_2 : M Fl :=
  (mSeq (mAsg 7 (mCallF F__law_power (mCons (mVar 0) (mCons (mBin dMul (mVar 1) (mCall (fn2 dMax) (mCons (mC (.int 0)) (mCons (mBin dAdd (mBin dSub (mVar 6) (mVar 3)) (mC (.int 1))) mNil)))) mNil))))
  (mSeq (mFor (mRng (mCons (mVar 6) mNil)) (gN 8) [8] L__law_met_1)
  (mDrop (mApp 5 (mVar 7)))))
def L__law_met_3 : M Tk :=
  (mBin dMul (mBin dIx (mVar 5) (mVar 6)) (mBin dIx (mBin dIx (mVar 4) (mVar 2)) (mVar 6)))
def B__law_met : M Fl :=
  (mSeq (mAsg 5 (mLst mNil))
  (mSeq (mFor (mRng (mCons (mBin dAdd (mVar 2) (mC (.int 1))) mNil)) (gN 6) [7, 8] L__law_met_2)
  (mRet (mLc (mRng (mCons (mBin dAdd (mVar 2) (mC (.int 1))) mNil)) (gN 6) [6] mYes L__law_met_3))))
theorem F__law_met_eq : F__law_met = mkF 9 B__law_met := Fns.e__law_met
def B__law_at : M Fl :=
  (mSeq (mIfS (mOr (mCmp cLt (mVar 2) (mC (.int 0))) (mCmp cGt (mVar 2) (mVar 1))) (mRet (mC (.int 0))) mNext)
  (mRet (mBin dIx (mBin dIx (mVar 0) (mVar 1)) (mVar 2))))
theorem F__law_at_eq : F__law_at = mkF 3 B__law_at := Fns.e__law_at
def L__law_tables_1 : M Fl :=
  (mAsg 7 (mIf (mCmp cLt (mVar 8) (mVar 1)) (mBin dMul (mVar 7) (mBin dSub (mCallF F__law_power (mCons (mVar 0) (mCons (mVar 1) mNil))) (mCallF F__law_power (mCons (mVar 0) (mCons (mVar 8) mNil))))) (mC (.int 0))))
def L__law_tables_2 : M Fl :=
  (mSeq (mAsg 7 (mCallF F__law_at (mCons (mVar 4) (mCons (mVar 2) (mCons (mVar 6) mNil)))))
  (mSeq (mFor (mRng (mCons (mVar 6) mNil)) (gN 8) [8] L__law_tables_1)
  (mDrop (mApp 5 (mVar 7)))))
def B__law_tables : M Fl :=
  (mSeq (mAsg 5 (mLst mNil))
  (mSeq (mFor (mRng (mCons (mBin dAdd (mVar 3) (mC (.int 1))) mNil)) (gN 6) [6, 7, 8] L__law_tables_2)
  (mRet (mVar 5))))
theorem F__law_tables_eq : F__law_tables = mkF 9 B__law_tables := Fns.e__law_tables
def B__law_real : M Fl :=
  (mSeq (mIfS (mAnd (mCmp cLe (mVar 3) (mVar 2)) (mCmp cEq (mCallIO F__law_draw 0 (mCons (mC (.int 2)) mNil)) (mC (.int 0)))) (mRet (mCallF F__law_met (mCons (mVar 1) (mCons (mVar 2) (mCons (mVar 3) (mCons (mBin dAdd (mC (.int 1)) (mCallIO F__law_draw 0 (mCons (mBin dAdd (mVar 3) (mC (.int 1))) mNil))) (mCons (mVar 4) mNil))))))) mNext)
  (mRet (mCallF F__law_tables (mCons (mVar 1) (mCons (mCallIO F__law_draw 0 (mCons (mBin dAdd (mVar 2) (mC (.int 1))) mNil)) (mCons (mCallIO F__law_draw 0 (mCons (mBin dAdd (mVar 3) (mC (.int 1))) mNil)) (mCons (mVar 3) (mCons (mVar 4) mNil))))))))
theorem F__law_real_eq : F__law_real = mkIO 5 B__law_real := Fns.e__law_real
def L__law_spread_1 : M Tk :=
  (mBin dMul (mBin dIx (mVar 1) (mVar 4)) (mCallF F__law_at (mCons (mVar 3) (mCons (mBin dSub (mVar 0) (mVar 4)) (mCons (mVar 2) mNil)))))
def B__law_spread : M Fl :=
  (mRet (mCall (fn1 dSumA) (mCons (mLc (mRng (mCons (mBin dAdd (mVar 0) (mC (.int 1))) mNil)) (gN 4) [4] mYes L__law_spread_1) mNil)))
theorem F__law_spread_eq : F__law_spread = mkF 5 B__law_spread := Fns.e__law_spread
def L__law_known_1 : M Tk :=
  (mBin dMul (mBin dIx (mVar 1) (mVar 4)) (mCallF F__law_at (mCons (mVar 3) (mCons (mBin dSub (mVar 0) (mVar 4)) (mCons (mBin dSub (mVar 2) (mVar 4)) mNil)))))
def B__law_known : M Fl :=
  (mRet (mCall (fn1 dSumA) (mCons (mLc (mRng (mCons (mVar 2) mNil)) (gN 4) [4] mYes L__law_known_1) mNil)))
theorem F__law_known_eq : F__law_known = mkF 5 B__law_known := Fns.e__law_known
def L__law_rest_1 : M Fl :=
  (mSeq (mAsg 8 (mBin dSub (mBin dMul (mCallF F__law_power (mCons (mVar 0) (mCons (mBin dMul (mVar 1) (mVar 7)) mNil))) (mCallF F__law_spread (mCons (mVar 2) (mCons (mVar 4) (mCons (mVar 7) (mCons (mVar 5) mNil)))))) (mBin dMul (mVar 3) (mCallF F__law_known (mCons (mVar 2) (mCons (mVar 6) (mCons (mVar 7) (mCons (mVar 5) mNil))))))))
  (mSeq (mIfS (mOr (mCmp cLt (mVar 8) (mC (.int 0))) (mCmp cNe (mBin dMod (mCall (fn1 dInt) (mCons (mVar 8) mNil)) (mVar 3)) (mC (.int 0)))) (mRet (mTup (mCons (mC (.str "none")) (mCons (mVar 7) mNil)))) mNext)
  (mDrop (mApp 6 (mBin dDiv (mVar 8) (mVar 3))))))
def B__law_rest : M Fl :=
  (mSeq (mAsg 6 (mLst mNil))
  (mSeq (mFor (mRng (mCons (mBin dAdd (mVar 2) (mC (.int 1))) mNil)) (gN 7) [7, 8] L__law_rest_1)
  (mRet (mTup (mCons (mC (.str "row")) (mCons (mVar 6) mNil))))))
theorem F__law_rest_eq : F__law_rest = mkF 9 B__law_rest := Fns.e__law_rest
def B__law_whole : M Fl :=
  (mRet (mAndV (mCall (fn2 (dIsi sub0 [])) (mCons (mVar 0) (mCons (mC (.ty "int")) mNil))) (mNotV (mCall (fn2 (dIsi sub0 [])) (mCons (mVar 0) (mCons (mC (.ty "bool")) mNil))))))
theorem F__law_whole_eq : F__law_whole = mkF 1 B__law_whole := Fns.e__law_whole
def L__law_same_1 : M Fl :=
  (mIfS (mOr (mNot (mTest (mCallF F__law_whole (mCons (mVar 2) mNil)))) (mCmp cNe (mVar 2) (mVar 3))) (mRet (mC (.bl false))) mNext)
def B__law_same : M Fl :=
  (mSeq (mIfS (mOr (mNot (mTest (mCall (fn2 (dIsi sub0 [])) (mCons (mVar 0) (mCons (mC (.ty "tuple")) mNil))))) (mCmp cNe (mCall (fn1 dLen) (mCons (mVar 0) mNil)) (mCall (fn1 dLen) (mCons (mVar 1) mNil)))) (mRet (mC (.bl false))) mNext)
  (mSeq (mFor (mWalk wZipM (mCons (mVar 0) (mCons (mVar 1) mNil))) (gT 2 (gs1 (gN 2) (gs1 (gN 3) gs0))) [2, 3] L__law_same_1)
  (mRet (mC (.bl true)))))
theorem F__law_same_eq : F__law_same = mkF 4 B__law_same := Fns.e__law_same
def B_is_whole : M Fl :=
  (mSeq (mIfS (mOr (mNot (mTest (mCall (fn2 (dIsi sub0 [])) (mCons (mVar 0) (mCons (mC (.ty "int")) mNil))))) (mTest (mCall (fn2 (dIsi sub0 [])) (mCons (mVar 0) (mCons (mC (.ty "bool")) mNil))))) (mRet (mC (.bl false))) mNext)
  (mSeq (mIfS (mAnd (mCmp cIsNot (mVar 1) (mC .non)) (mCmp cLt (mVar 0) (mVar 1))) (mRet (mC (.bl false))) mNext)
  (mRet (mOrV (mBin (lift cIs) (mVar 2) (mC .non)) (mBin (lift cLe) (mVar 0) (mVar 2))))))
theorem F_is_whole_eq : F_is_whole = mkF 3 B_is_whole := Fns.e_is_whole
def B_check_sizes : M Fl :=
  (mSeq (mIfS (mNot (mTest (mCallF F_is_whole (mCons (mVar 0) (mCons (mC (.int 2)) (mCons (mC (.int 3)) mNil)))))) (mRaise cl_BadSizes ["what"] (mCons (mC (.str "prime")) mNil)) mNext)
  (mSeq (mIfS (mNot (mTest (mCallF F_is_whole (mCons (mVar 1) (mCons (mC (.int 1)) (mCons (mC (.int 12)) mNil)))))) (mRaise cl_BadSizes ["what"] (mCons (mC (.str "degree")) mNil)) mNext)
  (mIfS (mNot (mTest (mCallF F_is_whole (mCons (mVar 2) (mCons (mC (.int 1)) (mCons (mC (.int 12)) mNil)))))) (mRaise cl_BadSizes ["what"] (mCons (mC (.str "columns")) mNil)) mNext)))
theorem F_check_sizes_eq : F_check_sizes = mkF 3 B_check_sizes := Fns.e_check_sizes
def L_power_of_1 : M Fl :=
  (mAsg 2 (mBin dMul (mVar 2) (mVar 0)))
def B_power_of : M Fl :=
  (mSeq (mAsg 2 (mC (.int 1)))
  (mSeq (mFor (mRng (mCons (mVar 1) mNil)) (gN 3) [3] L_power_of_1)
  (mRet (mVar 2))))
theorem F_power_of_eq : F_power_of = mkF 4 B_power_of := Fns.e_power_of
def B_is_sequence : M Fl :=
  (mRet (mCall (fn2 (dIsi sub0 [])) (mCons (mVar 0) (mCons (mTup (mCons (mC (.ty "list")) (mCons (mC (.ty "tuple")) mNil))) mNil))))
theorem F_is_sequence_eq : F_is_sequence = mkF 1 B_is_sequence := Fns.e_is_sequence
def L_is_counts_1 : M Tk :=
  (mCallF F_is_whole (mPad [.non] (mCons (mVar 2) (mCons (mC (.int 0)) mNil))))
def B_is_counts : M Fl :=
  (mSeq (mIfS (mOr (mNot (mTest (mCallF F_is_sequence (mCons (mVar 1) mNil)))) (mCmp cNe (mCall (fn1 dLen) (mCons (mVar 1) mNil)) (mBin dAdd (mVar 0) (mC (.int 1))))) (mRet (mC (.bl false))) mNext)
  (mRet (mCall (fn1 dAllN) (mCons (mLc (mIter (mVar 1)) (gN 2) [2] mYes L_is_counts_1) mNil))))
theorem F_is_counts_eq : F_is_counts = mkF 3 B_is_counts := Fns.e_is_counts
def L_space_count_1 : M Fl :=
  (mSeq (mAsg 3 (mBin dMul (mVar 3) (mBin dSub (mCallF F_power_of (mCons (mVar 0) (mCons (mBin dSub (mVar 1) (mVar 5)) mNil))) (mC (.int 1)))))
  (mAsg 4 (mBin dMul (mVar 4) (mBin dSub (mCallF F_power_of (mCons (mVar 0) (mCons (mBin dAdd (mVar 5) (mC (.int 1))) mNil))) (mC (.int 1))))))
def B_space_count : M Fl :=
  (mSeq (mIfS (mOr (mCmp cLt (mVar 2) (mC (.int 0))) (mCmp cGt (mVar 2) (mVar 1))) (mRet (mC (.int 0))) mNext)
  (mSeq (mAsg 3 (mC (.int 1)))
  (mSeq (mAsg 4 (mC (.int 1)))
  (mSeq (mFor (mRng (mCons (mVar 2) mNil)) (gN 5) [5] L_space_count_1)
  (mRet (mBin dDiv (mVar 3) (mVar 4)))))))
theorem F_space_count_eq : F_space_count = mkF 6 B_space_count := Fns.e_space_count
def L_completed_counts_1 : M Tk :=
  (mBin dMul (mBin dIx (mVar 5) (mVar 11)) (mCallF F_space_count (mCons (mVar 0) (mCons (mBin dSub (mVar 2) (mVar 11)) (mCons (mVar 7) mNil)))))
def L_completed_counts_2 : M Fl :=
  (mSeq (mAsg 7 (mBin dSub (mVar 2) (mVar 6)))
  (mSeq (mAsg 8 (mBin dMul (mVar 3) (mCallF F_space_count (mCons (mVar 0) (mCons (mVar 2) (mCons (mVar 7) mNil))))))
  (mSeq (mAsg 9 (mCallF F_power_of (mCons (mVar 0) (mCons (mBin dMul (mVar 1) (mVar 7)) mNil))))
  (mSeq (mAsg 10 (mCall (fn1 dSumA) (mCons (mLc (mRng (mCons (mVar 6) mNil)) (gN 11) [11] mYes L_completed_counts_1) mNil)))
  (mSeq (mIfS (mOr (mCmp cNe (mBin dMod (mVar 8) (mVar 9)) (mC (.int 0))) (mCmp cLt (mBin dDiv (mVar 8) (mVar 9)) (mVar 10))) (mRaise cl_NoLot ["rank"] (mCons (mVar 6) mNil)) mNext)
  (mDrop (mApp 5 (mBin dSub (mBin dDiv (mVar 8) (mVar 9)) (mVar 10)))))))))
def B_completed_counts : M Fl :=
  (mSeq (mDrop (mCallF F_check_sizes (mCons (mVar 0) (mCons (mVar 1) (mCons (mVar 2) mNil)))))
  (mSeq (mIfS (mNot (mTest (mCallF F_is_whole (mCons (mVar 3) (mCons (mC (.int 1)) (mCons (mCallF F_power_of (mCons (mVar 0) (mCons (mBin dMul (mVar 1) (mVar 2)) mNil))) mNil)))))) (mRaise cl_BadSizes ["what"] (mCons (mC (.str "size")) mNil)) mNext)
  (mSeq (mIfS (mOr (mNot (mTest (mCallF F_is_sequence (mCons (mVar 4) mNil)))) (mNot (mChainB cLe cLe (mC (.int 1)) (mCall (fn1 dLen) (mCons (mVar 4) mNil)) (mBin dAdd (mVar 2) (mC (.int 1)))))) (mRaise cl_BadCounts ["what"] (mCons (mC (.str "row")) mNil)) mNext)
  (mSeq (mIfS (mNot (mTest (mCallF F_is_counts (mCons (mBin dSub (mCall (fn1 dLen) (mCons (mVar 4) mNil)) (mC (.int 1))) (mCons (mVar 4) mNil))))) (mRaise cl_BadCounts ["what"] (mCons (mC (.str "row")) mNil)) mNext)
  (mSeq (mIfS (mCmp cNe (mBin dIx (mVar 4) (mC (.int 0))) (mC (.int 1))) (mRaise cl_BadCounts ["what"] (mCons (mC (.str "first")) mNil)) mNext)
  (mSeq (mAsg 5 (mCall (fn1 dList) (mCons (mVar 4) mNil)))
  (mSeq (mFor (mRng (mCons (mCall (fn1 dLen) (mCons (mVar 4) mNil)) (mCons (mBin dAdd (mVar 2) (mC (.int 1))) mNil))) (gN 6) [6, 7, 8, 9, 10] L_completed_counts_2)
  (mRet (mCall (fn1 dTuple) (mCons (mVar 5) mNil))))))))))
theorem F_completed_counts_eq : F_completed_counts = mkF 12 B_completed_counts := Fns.e_completed_counts
def L_spread_sum_1 : M Tk :=
  (mBin dMul (mBin dIx (mVar 2) (mVar 4)) (mCallF F_space_count (mCons (mVar 0) (mCons (mBin dSub (mVar 1) (mVar 4)) (mCons (mVar 3) mNil)))))
def B_spread_sum : M Fl :=
  (mRet (mCall (fn1 dSumA) (mCons (mLc (mRng (mCons (mBin dAdd (mVar 1) (mC (.int 1))) mNil)) (gN 4) [4] mYes L_spread_sum_1) mNil)))
theorem F_spread_sum_eq : F_spread_sum = mkF 5 B_spread_sum := Fns.e_spread_sum
def L_known_part_1 : M Tk :=
  (mBin dMul (mBin dIx (mVar 2) (mVar 4)) (mCallF F_space_count (mCons (mVar 0) (mCons (mBin dSub (mVar 1) (mVar 4)) (mCons (mBin dSub (mVar 3) (mVar 4)) mNil)))))
def B_known_part : M Fl :=
  (mRet (mCall (fn1 dSumA) (mCons (mLc (mRng (mCons (mVar 3) mNil)) (gN 4) [4] mYes L_known_part_1) mNil)))
theorem F_known_part_eq : F_known_part = mkF 5 B_known_part := Fns.e_known_part
def L_turned_counts_1 : M Fl :=
  (mSeq (mAsg 6 (mBin dMul (mCallF F_power_of (mCons (mVar 0) (mCons (mBin dMul (mVar 1) (mVar 5)) mNil))) (mCallF F_spread_sum (mCons (mVar 0) (mCons (mVar 2) (mCons (mVar 3) (mCons (mVar 5) mNil)))))))
  (mDrop (mApp 4 (mBin dSub (mVar 6) (mCallF F_known_part (mCons (mVar 0) (mCons (mVar 2) (mCons (mVar 4) (mCons (mVar 5) mNil)))))))))
def B_turned_counts : M Fl :=
  (mSeq (mDrop (mCallF F_check_sizes (mCons (mVar 0) (mCons (mVar 1) (mCons (mVar 2) mNil)))))
  (mSeq (mIfS (mNot (mTest (mCallF F_is_counts (mCons (mVar 2) (mCons (mVar 3) mNil))))) (mRaise cl_BadCounts ["what"] (mCons (mC (.str "row")) mNil)) mNext)
  (mSeq (mIfS (mCmp cEq (mBin dIx (mVar 3) (mC (.int 0))) (mC (.int 0))) (mRaise cl_BadCounts ["what"] (mCons (mC (.str "first")) mNil)) mNext)
  (mSeq (mIfS (mCmp cNe (mCall (fn1 dSumA) (mCons (mVar 3) mNil)) (mBin dMul (mBin dIx (mVar 3) (mC (.int 0))) (mBin dIx (mVar 3) (mC (.int 0))))) (mRaise cl_BadCounts ["what"] (mCons (mC (.str "sum")) mNil)) mNext)
  (mSeq (mAsg 4 (mLst mNil))
  (mSeq (mFor (mRng (mCons (mBin dAdd (mVar 2) (mC (.int 1))) mNil)) (gN 5) [5, 6] L_turned_counts_1)
  (mRet (mCall (fn1 dTuple) (mCons (mVar 4) mNil)))))))))
theorem F_turned_counts_eq : F_turned_counts = mkF 7 B_turned_counts := Fns.e_turned_counts
def L__law_real_holds_1 : M Fl :=
  (mIfS (mAnd (mCmp cEq (mCall (fn1 dSumA) (mCons (mSlice (mBin dIx (mVar 7) (mC (.int 1))) (mPart (some (mC (.int 1)))) (mPart (some (mBin dSub (mVar 3) (mVar 8))))) mNil)) (mC (.int 0))) (mNot (mTest (mCallF F__law_same (mCons (mCallF F_completed_counts (mCons (mVar 1) (mCons (mVar 2) (mCons (mVar 3) (mCons (mVar 6) (mCons (mSlice (mVar 5) (mPart none) (mPart (some (mBin dAdd (mVar 8) (mC (.int 1)))))) mNil)))))) (mCons (mVar 5) mNil)))))) (mRet (mC (.bl false))) mNext)
def L__law_real_holds_2 : M Tk :=
  (mBin dMul (mVar 6) (mVar 10))
def L__law_real_holds_3 : M Tk :=
  (mBin dMul (mBin dMul (mVar 6) (mVar 6)) (mVar 10))
def B__law_real_holds : M Fl :=
  (mSeq (mAsg 5 (mCallIO F__law_real 0 (mCons (mVar 1) (mCons (mVar 2) (mCons (mVar 3) (mCons (mVar 4) mNil))))))
  (mSeq (mAsg 6 (mCall (fn1 dSumA) (mCons (mVar 5) mNil)))
  (mSeq (mAsg 7 (mCallF F__law_rest (mCons (mVar 1) (mCons (mVar 2) (mCons (mVar 3) (mCons (mVar 6) (mCons (mVar 5) (mCons (mVar 4) mNil))))))))
  (mSeq (mIfS (mCmp cEq (mBin dIx (mVar 7) (mC (.int 0))) (mC (.str "none"))) (mRet (mC (.bl false))) mNext)
  (mSeq (mFor (mRng (mCons (mBin dAdd (mVar 3) (mC (.int 1))) mNil)) (gN 8) [8] L__law_real_holds_1)
  (mSeq (mAsg 9 (mCall (fn1 dTuple) (mCons (mLc (mIter (mVar 5)) (gN 10) [10] mYes L__law_real_holds_2) mNil)))
  (mRet (mCallF F__law_same (mCons (mCallF F_turned_counts (mCons (mVar 1) (mCons (mVar 2) (mCons (mVar 3) (mCons (mVar 9) mNil))))) (mCons (mLc (mIter (mBin dIx (mVar 7) (mC (.int 1)))) (gN 10) [10] mYes L__law_real_holds_3) mNil))))))))))
theorem F__law_real_holds_eq : F__law_real_holds = mkIO 11 B__law_real_holds := Fns.e__law_real_holds
def B__law_pick : M Fl :=
  (mRet (mBin dIx (mVar 1) (mCallIO F__law_draw 0 (mCons (mCall (fn1 dLen) (mCons (mVar 1) mNil)) mNil))))
theorem F__law_pick_eq : F__law_pick = mkIO 2 B__law_pick := Fns.e__law_pick
def B__law_agrees : M Fl :=
  (mSeq (mIfS (mCmp cEq (mBin dIx (mVar 1) (mC (.int 0))) (mC (.str "none"))) (mRet (mBin (lift cEq) (mVar 0) (mVar 1))) mNext)
  (mRet (mAndV (mBin (lift cEq) (mBin dIx (mVar 0) (mC (.int 0))) (mC (.str "row"))) (mCallF F__law_same (mCons (mBin dIx (mVar 0) (mC (.int 1))) (mCons (mBin dIx (mVar 1) (mC (.int 1))) mNil))))))
theorem F__law_agrees_eq : F__law_agrees = mkF 2 B__law_agrees := Fns.e__law_agrees
def L__law_completed_1 : M Tk :=
  (mBin dMul (mBin dIx (mVar 6) (mVar 12)) (mCallF F__law_at (mCons (mVar 5) (mCons (mBin dSub (mVar 2) (mVar 12)) (mCons (mVar 8) mNil)))))
def L__law_completed_2 : M Fl :=
  (mSeq (mAsg 8 (mBin dSub (mVar 2) (mVar 7)))
  (mSeq (mAsg 9 (mBin dMul (mVar 3) (mBin dIx (mBin dIx (mVar 5) (mVar 2)) (mVar 8))))
  (mSeq (mAsg 10 (mCallF F__law_power (mCons (mVar 0) (mCons (mBin dMul (mVar 1) (mVar 8)) mNil))))
  (mSeq (mAsg 11 (mCall (fn1 dSumA) (mCons (mLc (mRng (mCons (mVar 7) mNil)) (gN 12) [12] mYes L__law_completed_1) mNil)))
  (mSeq (mIfS (mOr (mCmp cNe (mBin dMod (mCall (fn1 dInt) (mCons (mVar 9) mNil)) (mVar 10)) (mC (.int 0))) (mCmp cLt (mBin dDiv (mVar 9) (mVar 10)) (mVar 11))) (mRet (mTup (mCons (mC (.str "none")) (mCons (mVar 7) mNil)))) mNext)
  (mDrop (mApp 6 (mBin dSub (mBin dDiv (mVar 9) (mVar 10)) (mVar 11)))))))))
def B__law_completed : M Fl :=
  (mSeq (mAsg 6 (mCall (fn1 dList) (mCons (mVar 4) mNil)))
  (mSeq (mFor (mRng (mCons (mCall (fn1 dLen) (mCons (mVar 4) mNil)) (mCons (mBin dAdd (mVar 2) (mC (.int 1))) mNil))) (gN 7) [7, 8, 9, 10, 11] L__law_completed_2)
  (mRet (mTup (mCons (mC (.str "row")) (mCons (mVar 6) mNil))))))
theorem F__law_completed_eq : F__law_completed = mkF 13 B__law_completed := Fns.e__law_completed
def B__law_completed_told : M Fl :=
  (mSeq (mTry subE (mAsg 5 (mCallF F_completed_counts (mCons (mVar 0) (mCons (mVar 1) (mCons (mVar 2) (mCons (mVar 3) (mCons (mVar 4) mNil))))))) [(.cl cl_BadSizes, some 6, (mRet (mTup (mCons (mC (.str "sizes")) (mCons (mXf xs_0 6 "what") mNil))))), (.cl cl_BadCounts, some 6, (mRet (mTup (mCons (mC (.str "counts")) (mCons (mXf xs_1 6 "what") mNil))))), (.cl cl_NoLot, some 6, (mRet (mTup (mCons (mC (.str "none")) (mCons (mXf xs_2 6 "rank") mNil)))))])
  (mRet (mTup (mCons (mC (.str "row")) (mCons (mVar 5) mNil)))))
theorem F__law_completed_told_eq : F__law_completed_told = mkF 7 B__law_completed_told := Fns.e__law_completed_told
def L__law_turned_1 : M Fl :=
  (mSeq (mAsg 7 (mBin dMul (mCallF F__law_power (mCons (mVar 0) (mCons (mBin dMul (mVar 1) (mVar 6)) mNil))) (mCallF F__law_spread (mCons (mVar 2) (mCons (mVar 3) (mCons (mVar 6) (mCons (mVar 4) mNil)))))))
  (mDrop (mApp 5 (mBin dSub (mVar 7) (mCallF F__law_known (mCons (mVar 2) (mCons (mVar 5) (mCons (mVar 6) (mCons (mVar 4) mNil)))))))))
def B__law_turned : M Fl :=
  (mSeq (mAsg 5 (mLst mNil))
  (mSeq (mFor (mRng (mCons (mBin dAdd (mVar 2) (mC (.int 1))) mNil)) (gN 6) [6, 7] L__law_turned_1)
  (mRet (mVar 5))))
theorem F__law_turned_eq : F__law_turned = mkF 8 B__law_turned := Fns.e__law_turned
def L__law_free_holds_1 : M Tk :=
  (mCallIO F__law_draw 0 (mCons (mCallIO F__law_pick 0 (mCons (mLst (mCons (mC (.int 1)) (mCons (mC (.int 4)) (mCons (mC (.int 1000)) mNil)))) mNil)) mNil))
def L__law_free_holds_2 : M Fl :=
  (mSeq (mAsg 11 (mBin dAdd (mC (.int 1)) (mCallIO F__law_draw 0 (mCons (mVar 3) mNil))))
  (mSeq (mAsg 12 (mIf (mCmp cLt (mVar 10) (mC (.int 3))) (mCallIO F__law_draw 0 (mCons (mBin dAdd (mVar 8) (mC (.int 1))) mNil)) (mVar 8)))
  (mSeq (mSetI 9 (mVar 11) (mBin dAdd (mBin dIx (mVar 9) (mVar 11)) (mVar 12)))
  (mAsg 8 (mBin dSub (mVar 8) (mVar 12))))))
def B__law_free_holds : M Fl :=
  (mSeq (mAsg 5 (mBin dAdd (mLst (mCons (mC (.int 1)) mNil)) (mLc (mRng (mCons (mCallIO F__law_draw 0 (mCons (mBin dAdd (mVar 3) (mC (.int 1))) mNil)) mNil)) (gN 13) [13] mYes L__law_free_holds_1)))
  (mSeq (mAsg 6 (mBin dAdd (mC (.int 1)) (mCallIO F__law_draw 0 (mCons (mCallF F__law_power (mCons (mVar 1) (mCons (mBin dMul (mVar 2) (mVar 3)) mNil))) mNil))))
  (mSeq (mIfS (mCmp cEq (mCallIO F__law_draw 0 (mCons (mC (.int 2)) mNil)) (mC (.int 0))) (mSeq (mAsg 6 (mBin dMul (mCallF F__law_power (mCons (mVar 1) (mCons (mBin dMul (mVar 2) (mCallIO F__law_draw 0 (mCons (mBin dAdd (mVar 3) (mC (.int 1))) mNil))) mNil))) (mBin dAdd (mC (.int 1)) (mCallIO F__law_draw 0 (mCons (mBin dSub (mVar 1) (mC (.int 1))) mNil)))))
  (mAsg 6 (mCall (fn2 dMin) (mCons (mVar 6) (mCons (mCallF F__law_power (mCons (mVar 1) (mCons (mBin dMul (mVar 2) (mVar 3)) mNil))) mNil))))) mNext)
  (mSeq (mIfS (mNot (mTest (mCallF F__law_agrees (mCons (mCallF F__law_completed_told (mCons (mVar 1) (mCons (mVar 2) (mCons (mVar 3) (mCons (mVar 6) (mCons (mVar 5) mNil)))))) (mCons (mCallF F__law_completed (mCons (mVar 1) (mCons (mVar 2) (mCons (mVar 3) (mCons (mVar 6) (mCons (mVar 5) (mCons (mVar 4) mNil))))))) mNil))))) (mRet (mC (.bl false))) mNext)
  (mSeq (mAsg 7 (mBin dAdd (mC (.int 1)) (mCallIO F__law_draw 0 (mCons (mC (.int 300)) mNil))))
  (mSeq (mAsg 8 (mBin dSub (mBin dMul (mVar 7) (mVar 7)) (mVar 7)))
  (mSeq (mAsg 9 (mBin dAdd (mLst (mCons (mVar 7) mNil)) (mBin dMul (mLst (mCons (mC (.int 0)) mNil)) (mVar 3))))
  (mSeq (mFor (mRng (mCons (mC (.int 4)) mNil)) (gN 10) [10, 11, 12] L__law_free_holds_2)
  (mRet (mCallF F__law_same (mCons (mCallF F_turned_counts (mCons (mVar 1) (mCons (mVar 2) (mCons (mVar 3) (mCons (mVar 9) mNil))))) (mCons (mCallF F__law_turned (mCons (mVar 1) (mCons (mVar 2) (mCons (mVar 3) (mCons (mVar 9) (mCons (mVar 4) mNil)))))) mNil))))))))))))
theorem F__law_free_holds_eq : F__law_free_holds = mkIO 14 B__law_free_holds := Fns.e__law_free_holds
def B__law_odd : M Fl :=
  (mSeq (mAsg 3 (mCallIO F__law_draw 0 (mCons (mBin dPow (mC (.int 10)) (mC (.int 9))) mNil)))
  (mSeq (mAsg 4 (mCallIO F__law_draw 0 (mCons (mC (.int 8)) mNil)))
  (mSeq (mIfS (mCmp cEq (mVar 4) (mC (.int 0))) (mRet (mBin dSub (mVar 1) (mC (.int 1)))) mNext)
  (mSeq (mIfS (mCmp cEq (mVar 4) (mC (.int 1))) (mRet (mBin dAdd (mVar 2) (mC (.int 1)))) mNext)
  (mSeq (mIfS (mCmp cEq (mVar 4) (mC (.int 2))) (mRet (mBin dSub (mBin dSub (mVar 1) (mC (.int 2))) (mVar 3))) mNext)
  (mSeq (mIfS (mCmp cEq (mVar 4) (mC (.int 3))) (mRet (mBin dAdd (mBin dAdd (mVar 2) (mC (.int 2))) (mVar 3))) mNext)
  (mSeq (mIfS (mCmp cEq (mVar 4) (mC (.int 4))) (mRet (mC (.bl true))) mNext)
  (mSeq (mIfS (mCmp cEq (mVar 4) (mC (.int 5))) (mRet (mC .non)) mNext)
  (mSeq (mIfS (mCmp cEq (mVar 4) (mC (.int 6))) (mRet (mCall (fn1 dStr) (mCons (mVar 1) mNil))) mNext)
  (mRet (mLst (mCons (mVar 1) mNil))))))))))))
theorem F__law_odd_eq : F__law_odd = mkIO 5 B__law_odd := Fns.e__law_odd
def B__law_odd_row : M Fl :=
  (mSeq (mAsg 3 (mCallIO F__law_draw 0 (mCons (mCall (fn1 dLen) (mCons (mVar 2) mNil)) mNil)))
  (mSeq (mAsg 4 (mCallIO F__law_draw 0 (mCons (mC (.int 3)) mNil)))
  (mSeq (mIfS (mCmp cEq (mVar 4) (mC (.int 0))) (mRet (mBin dAdd (mVar 2) (mBin dMul (mLst (mCons (mC (.int 0)) mNil)) (mBin dSub (mBin dAdd (mVar 1) (mC (.int 2))) (mCall (fn1 dLen) (mCons (mVar 2) mNil)))))) mNext)
  (mSeq (mIfS (mCmp cEq (mVar 4) (mC (.int 1))) (mRet (mCallIO F__law_pick 0 (mCons (mLst (mCons (mTup mNil) (mCons (mC .non) (mCons (mC (.str "1")) mNil)))) mNil))) mNext)
  (mRet (mBin dAdd (mBin dAdd (mSlice (mVar 2) (mPart none) (mPart (some (mVar 3)))) (mLst (mCons (mCallIO F__law_pick 0 (mCons (mLst (mCons (mUn dNeg (mC (.int 1))) (mCons (mC (.bl true)) (mCons (mC .non) mNil)))) mNil)) mNil))) (mSlice (mVar 2) (mPart (some (mBin dAdd (mVar 3) (mC (.int 1))))) (mPart none))))))))
theorem F__law_odd_row_eq : F__law_odd_row = mkIO 5 B__law_odd_row := Fns.e__law_odd_row
def B__law_turned_told : M Fl :=
  (mSeq (mTry subE (mAsg 4 (mCallF F_turned_counts (mCons (mVar 0) (mCons (mVar 1) (mCons (mVar 2) (mCons (mVar 3) mNil)))))) [(.cl cl_BadSizes, some 5, (mRet (mTup (mCons (mC (.str "sizes")) (mCons (mXf xs_0 5 "what") mNil))))), (.cl cl_BadCounts, some 5, (mRet (mTup (mCons (mC (.str "counts")) (mCons (mXf xs_1 5 "what") mNil)))))])
  (mRet (mTup (mCons (mC (.str "row")) (mCons (mVar 4) mNil)))))
theorem F__law_turned_told_eq : F__law_turned_told = mkF 6 B__law_turned_told := Fns.e__law_turned_told
def L__law_refusals_hold_1 : M Tk :=
  (mIf (mCmp cEq (mBin dAnd (mBin dShr (mVar 4) (mVar 17)) (mC (.int 1))) (mC (.int 1))) (mBin dIx (mVar 6) (mVar 17)) (mBin dIx (mVar 7) (mVar 17)))
def L__law_refusals_hold_2 : M Tk :=
  (mVar 17)
def B__law_refusals_hold : M Fl :=
  (mSeq (mAsg 4 (mCallIO F__law_draw 0 (mCons (mC (.int 64)) mNil)))
  (mSeq (mAsg 5 (mCallF F__law_power (mCons (mVar 1) (mCons (mBin dMul (mVar 2) (mVar 3)) mNil))))
  (mSeq (mAsg 6 (mLst (mCons (mCallIO F__law_odd 0 (mCons (mC (.int 2)) (mCons (mC (.int 3)) mNil))) (mCons (mCallIO F__law_odd 0 (mCons (mC (.int 1)) (mCons (mC (.int 12)) mNil))) (mCons (mCallIO F__law_odd 0 (mCons (mC (.int 1)) (mCons (mC (.int 12)) mNil))) (mCons (mCallIO F__law_odd 0 (mCons (mC (.int 1)) (mCons (mVar 5) mNil))) mNil))))))
  (mSeq (mAsg 7 (mLst (mCons (mVar 1) (mCons (mVar 2) (mCons (mVar 3) (mCons (mCallIO F__law_pick 0 (mCons (mLst (mCons (mC (.int 1)) (mCons (mVar 5) mNil))) mNil)) mNil))))))
  (mSeq (mAsg 8 (mLc (mRng (mCons (mC (.int 4)) mNil)) (gN 17) [17] mYes L__law_refusals_hold_1))
  (mSeq (mAsg 9 (mBin dAdd (mLst (mCons (mCallIO F__law_pick 0 (mCons (mLst (mCons (mC (.int 0)) (mCons (mBin dAdd (mC (.int 2)) (mCallIO F__law_draw 0 (mCons (mC (.int 9)) mNil))) mNil))) mNil)) mNil)) (mBin dMul (mLst (mCons (mC (.int 0)) mNil)) (mCallIO F__law_draw 0 (mCons (mBin dAdd (mVar 3) (mC (.int 1))) mNil)))))
  (mSeq (mAsg 10 (mC (.str "first")))
  (mSeq (mIfS (mCmp cEq (mBin dAnd (mBin dShr (mVar 4) (mC (.int 4))) (mC (.int 1))) (mC (.int 1))) (mSeq (mAsg 9 (mCallIO F__law_odd_row 0 (mCons (mVar 3) (mCons (mVar 9) mNil))))
  (mAsg 10 (mC (.str "row")))) mNext)
  (mSeq (mAsg 11 (mLc (mRng (mCons (mC (.int 4)) mNil)) (gN 17) [17] (mCmp cEq (mBin dAnd (mBin dShr (mVar 4) (mVar 17)) (mC (.int 1))) (mC (.int 1))) L__law_refusals_hold_2))
  (mSeq (mAsg 12 (mLst (mCons (mC (.str "prime")) (mCons (mC (.str "degree")) (mCons (mC (.str "columns")) (mCons (mC (.str "size")) mNil))))))
  (mSeq (mAsg 13 (mIf (mTest (mVar 11)) (mTup (mCons (mC (.str "sizes")) (mCons (mBin dIx (mVar 12) (mBin dIx (mVar 11) (mC (.int 0)))) mNil))) (mTup (mCons (mC (.str "counts")) (mCons (mVar 10) mNil)))))
  (mSeq (mIfS (mCmp cNe (mCallF F__law_completed_told (mCons (mBin dIx (mVar 8) (mC (.int 0))) (mCons (mBin dIx (mVar 8) (mC (.int 1))) (mCons (mBin dIx (mVar 8) (mC (.int 2))) (mCons (mBin dIx (mVar 8) (mC (.int 3))) (mCons (mVar 9) mNil)))))) (mVar 13)) (mRet (mC (.bl false))) mNext)
  (mSeq (mAsg 14 (mBin dAdd (mC (.int 1)) (mCallIO F__law_draw 0 (mCons (mC (.int 99)) mNil))))
  (mSeq (mAsg 15 (mBin dAdd (mLst (mCons (mVar 14) (mCons (mBin dSub (mBin dMul (mVar 14) (mVar 14)) (mVar 14)) mNil))) (mBin dMul (mLst (mCons (mC (.int 0)) mNil)) (mBin dSub (mVar 3) (mC (.int 1))))))
  (mSeq (mAsg 16 (mCallIO F__law_draw 0 (mCons (mC (.int 3)) mNil)))
  (mSeq (mIfS (mCmp cEq (mVar 16) (mC (.int 0))) (mPar 15 10 (mCons (mBin dAdd (mBin dMul (mLst (mCons (mC (.int 0)) mNil)) (mVar 3)) (mLst (mCons (mCallIO F__law_draw 0 (mCons (mC (.int 3)) mNil)) mNil))) (mCons (mC (.str "first")) mNil))) (mIfS (mCmp cEq (mVar 16) (mC (.int 1))) (mPar 15 10 (mCons (mBin dAdd (mLst (mCons (mVar 14) (mCons (mBin dAdd (mBin dSub (mBin dMul (mVar 14) (mVar 14)) (mVar 14)) (mC (.int 1))) mNil))) (mBin dMul (mLst (mCons (mC (.int 0)) mNil)) (mBin dSub (mVar 3) (mC (.int 1))))) (mCons (mC (.str "sum")) mNil))) (mPar 15 10 (mCons (mCallIO F__law_odd_row 0 (mCons (mVar 3) (mCons (mVar 15) mNil))) (mCons (mC (.str "row")) mNil)))))
  (mSeq (mAsg 13 (mIf (mAnd (mTest (mVar 11)) (mCmp cLt (mBin dIx (mVar 11) (mC (.int 0))) (mC (.int 3)))) (mTup (mCons (mC (.str "sizes")) (mCons (mBin dIx (mVar 12) (mBin dIx (mVar 11) (mC (.int 0)))) mNil))) (mTup (mCons (mC (.str "counts")) (mCons (mVar 10) mNil)))))
  (mRet (mBin (lift cEq) (mCallF F__law_turned_told (mCons (mBin dIx (mVar 8) (mC (.int 0))) (mCons (mBin dIx (mVar 8) (mC (.int 1))) (mCons (mBin dIx (mVar 8) (mC (.int 2))) (mCons (mVar 15) mNil))))) (mVar 13))))))))))))))))))))
theorem F__law_refusals_hold_eq : F__law_refusals_hold = mkIO 18 B__law_refusals_hold := Fns.e__law_refusals_hold
def L_law_1 : M Tk :=
  (mCallIO F__law_draw 1 (mCons (mBin dPow (mC (.int 10)) (mC (.int 9))) mNil))
def B_law : M Fl :=
  (mSeq (mAsg 1 (mCallF F__law_hand (mCons (mVar 0) mNil)))
  (mSeq (mAsg 2 (mBin dAdd (mC (.int 2)) (mCallIO F__law_draw 1 (mCons (mC (.int 2)) mNil))))
  (mSeq (mAsg 3 (mBin dAdd (mC (.int 1)) (mCallIO F__law_draw 1 (mCons (mC (.int 12)) mNil))))
  (mSeq (mAsg 4 (mBin dAdd (mC (.int 1)) (mCallIO F__law_draw 1 (mCons (mC (.int 12)) mNil))))
  (mSeq (mAsg 5 (mCallF F__law_gauss (mCons (mVar 2) (mCons (mC (.int 12)) mNil))))
  (mSeq (mIfS (mOr (mNot (mTest (mCallIO F__law_real_holds 1 (mCons (mVar 2) (mCons (mVar 3) (mCons (mVar 4) (mCons (mVar 5) mNil))))))) (mNot (mTest (mCallIO F__law_free_holds 1 (mCons (mVar 2) (mCons (mVar 3) (mCons (mVar 4) (mCons (mVar 5) mNil)))))))) (mRet (mC (.bl false))) mNext)
  (mSeq (mAsg 6 (mBin dAdd (mLst (mCons (mC (.int 1)) mNil)) (mLc (mRng (mCons (mVar 4) mNil)) (gN 7) [7] mYes L_law_1)))
  (mSeq (mIfS (mNot (mTest (mCallF F__law_same (mCons (mCallF F_completed_counts (mCons (mVar 2) (mCons (mVar 3) (mCons (mVar 4) (mCons (mBin dAdd (mC (.int 1)) (mCallIO F__law_draw 1 (mCons (mC (.int 2)) mNil))) (mCons (mCall (fn1 dTuple) (mCons (mVar 6) mNil)) mNil)))))) (mCons (mVar 6) mNil))))) (mRet (mC (.bl false))) mNext)
  (mRet (mCallIO F__law_refusals_hold 1 (mCons (mVar 2) (mCons (mVar 3) (mCons (mVar 4) mNil)))))))))))))
theorem F_law_eq : F_law = mkF 8 B_law := Fns.e_law
structure Blt (mg : Str → Option Value) : Prop where
  b_abs : mg "abs" = none
  b_all : mg "all" = none
  b_bool : mg "bool" = none
  b_int : mg "int" = none
  b_isinstance : mg "isinstance" = none
  b_len : mg "len" = none
  b_list : mg "list" = none
  b_max : mg "max" = none
  b_min : mg "min" = none
  b_range : mg "range" = none
  b_str : mg "str" = none
  b_sum : mg "sum" = none
  b_tuple : mg "tuple" = none
  b_zip : mg "zip" = none
  g_MOST_SIDE : ∃ t, mg "MOST_SIDE" = some (.int 12 t)
section
variable {P : Program} {w : World} {K : PySem.W.Frag} {mg : Str → Option Value} {base : Heap} {cm : Nat → Addr} {f : Addr} {fd : FuncData}
structure Exs (P : Program) (w : World) (K : PySem.W.Frag) (mg : Str → Option Value) (base : Heap) (cm : Nat → Addr) : Prop where
  S : SubX K cm subE
  m_BadSizes : mg "BadSizes" = some (.ref (cm cl_BadSizes))
  m_BadCounts : mg "BadCounts" = some (.ref (cm cl_BadCounts))
  m_NoLot : mg "NoLot" = some (.ref (cm cl_NoLot))
  e_BadSizes : EC P w K mg base cm "BadSizes" cl_BadSizes 1 ["what"]
  e_BadCounts : EC P w K mg base cm "BadCounts" cl_BadCounts 1 ["what"]
  e_NoLot : EC P w K mg base cm "NoLot" cl_NoLot 1 ["rank"]
  t_0 : ∀ c ∈ xs_0, XfC K (cm c) ∧ PySem.W.findIn K (.ref (cm c)) "what" = some none
  t_1 : ∀ c ∈ xs_1, XfC K (cm c) ∧ PySem.W.findIn K (.ref (cm c)) "what" = some none
  t_2 : ∀ c ∈ xs_2, XfC K (cm c) ∧ PySem.W.findIn K (.ref (cm c)) "rank" = some none
theorem okI_BadSizes {C R fI : Addr} (BR : RB K R) (hR : mg "RankError" = some (.ref R)) (E : EcF K C fI ["what"]) (F : Fun K "__init__" "BadSizes.__init__" sI_BadSizes f fd) : FnOk P w K mg base (L2.CX P w) 1 f fd ["self", "what"] (spX C ["what"]) :=
  have sc := scI_BadSizes
  init1_ok (k := 0) E.o (E.n _ (by simp)) F sc rfl rfl fun cdv A outer s H EE => (pss_cons (ps_expr (pe_rkinit BR hR (pa_cons (pv 0) (pa_cons pe_str pa_nil))) rfl) (pss_one (ps_ost (pv 0) (pv 1))))
theorem okI_BadCounts {C R fI : Addr} (BR : RB K R) (hR : mg "RankError" = some (.ref R)) (E : EcF K C fI ["what"]) (F : Fun K "__init__" "BadCounts.__init__" sI_BadCounts f fd) : FnOk P w K mg base (L2.CX P w) 1 f fd ["self", "what"] (spX C ["what"]) :=
  have sc := scI_BadCounts
  init1_ok (k := 0) E.o (E.n _ (by simp)) F sc rfl rfl fun cdv A outer s H EE => (pss_cons (ps_expr (pe_rkinit BR hR (pa_cons (pv 0) (pa_cons pe_str pa_nil))) rfl) (pss_one (ps_ost (pv 0) (pv 1))))
theorem okI_NoLot {C R fI : Addr} (BR : RB K R) (hR : mg "RankError" = some (.ref R)) (E : EcF K C fI ["rank"]) (F : Fun K "__init__" "NoLot.__init__" sI_NoLot f fd) : FnOk P w K mg base (L2.CX P w) 1 f fd ["self", "rank"] (spX C ["rank"]) :=
  have sc := scI_NoLot
  init1_ok (k := 0) E.o (E.n _ (by simp)) F sc rfl rfl fun cdv A outer s H EE => (pss_cons (ps_expr (pe_rkinit BR hR (pa_cons (pv 0) (pa_cons pe_str pa_nil))) rfl) (pss_one (ps_ost (pv 0) (pv 1))))
theorem ok__law_hand (B : Blt mg) (Z : Exs P w K mg base cm)  (F : Fun K "_law_hand" "_law_hand" s__law_hand f fd) : FnOk P w K mg base (L2.CX P w) 1 f fd ["_law_script"] (spF ⟨K, cm⟩ 1 F__law_hand) := by
  rw [F__law_hand_eq]
  exact (have sc := sc__law_hand
  fn_ok (body := B__law_hand) (N := N__law_hand) (ps := ["_law_script"]) F sc (by decide) fun cdv A outer s H E hr =>
  (pssx_cons (psx_set (i := 1) sc.nd (px_add px_int (px_len B.b_len (pas_cons (px_var (pv 0)) pas_nil))))
  (pssx_cons (psx_set (i := 2) sc.nd (px_lst pas_nil))
  (pssx_cons (psx_for [3] hpF rfl (pix_seq (px_var (pv 0))) (pgx_name (i := 3) sc.nd) (pssx_cons (psx_set (i := 1) sc.nd (px_mod (px_int1 B.b_int (pas_cons (px_add (px_mul (px_var (pv 1)) px_int) (px_int1 B.b_int (pas_cons (px_var (pv 3)) pas_nil))) pas_nil)) px_int))
  (pssx_one (psx_expr (px_app (k := 2) (pv 2) (px_abs B.b_abs (pas_cons (px_int1 B.b_int (pas_cons (px_var (pv 3)) pas_nil)) pas_nil)) (pe_bm PySem.F.plainAttrs_list PySem.F.slot_list_append PySem.F.type_list_append mt_append (pv 2) (pa_cons (PX.pe (px_abs B.b_abs (pas_cons (px_int1 B.b_int (pas_cons (px_var (pv 3)) pas_nil)) pas_nil))) pa_nil)))))))
  (pssx_one (psx_ret (px_lst (pas_cons (px_var (pv 2)) (pas_cons px_int (pas_cons px_int (pas_cons (px_var (pv 1)) pas_nil)))))))))))
theorem ok__law_mixed (B : Blt mg) (Z : Exs P w K mg base cm)  (F : Fun K "_law_mixed" "_law_mixed" s__law_mixed f fd) : FnOk P w K mg base (L2.CX P w) 1 f fd ["_law_number", "_law_turn"] (spF ⟨K, cm⟩ 2 F__law_mixed) := by
  rw [F__law_mixed_eq]
  exact (have sc := sc__law_mixed
  fn_ok (body := B__law_mixed) (N := N__law_mixed) (ps := ["_law_number", "_law_turn"]) F sc (by decide) fun cdv A outer s H E hr =>
  (pssx_cons (psx_set (i := 2) sc.nd (px_mod (px_int1 B.b_int (pas_cons (px_add (px_add (px_mul (px_var (pv 0)) px_int) (px_mul (px_var (pv 1)) px_int)) px_int) pas_nil)) px_int))
  (pssx_cons (psx_set (i := 3) sc.nd (px_mod (px_int1 B.b_int (pas_cons (px_add (px_add (px_mul (px_var (pv 2)) (px_var (pv 2))) (px_mul (px_var (pv 1)) px_int)) (px_div (px_var (pv 2)) px_int)) pas_nil)) px_int))
  (pssx_one (psx_ret (px_div (px_int1 B.b_int (pas_cons (px_mod (px_int1 B.b_int (pas_cons (px_add (px_mul (px_var (pv 3)) px_int) (px_div (px_var (pv 2)) px_int)) pas_nil)) px_int) pas_nil)) px_int))))))
theorem ok__law_draw (B : Blt mg) (Z : Exs P w K mg base cm) (c__law_mixed : CF P w K mg base cm "_law_mixed" 1 ["_law_number", "_law_turn"] F__law_mixed) (F : Fun K "_law_draw" "_law_draw" s__law_draw f fd) : FnOk P w K mg base (L2.CX P w) 2 f fd ["_law_hand_here", "_law_many"] (spIO ⟨K, cm⟩ 2 F__law_draw) := by
  rw [F__law_draw_eq]
  exact (have sc := sc__law_draw
  fnIO_ok (body := B__law_draw) (N := N__law_draw) (ps := ["_law_hand_here", "_law_many"]) F sc (by decide) fun cdv A outer s H E a hr =>
  (pssx_cons (psx_if (PBW.pb (pb_and (pb_eq hr (px_ix (px_var (pv 0)) px_int) px_int) (pb_and1 (pb_lt (px_ix (px_var (pv 0)) px_int) (px_len B.b_len (pas_cons (px_ix (px_var (pv 0)) px_int) pas_nil)))))) (pssx_cons (psx_set (i := 2) sc.nd (px_ix (px_ix (px_var (pv 0)) px_int) (px_ix (px_var (pv 0)) px_int)))
  (pssx_cons (psx_setI (k := 0) (px_add (px_ix (px_var (pv 0)) px_int) px_int) px_int (ps_asg (PX.pe (px_add (px_ix (px_var (pv 0)) px_int) px_int)) (pg_sub (pv 0) (PX.pe px_int) set_list)))
  (pssx_cons (psx_if (pb_lt (px_var (pv 2)) (px_pow px_int px_int)) (pssx_one (psx_ret (px_mod (px_int1 B.b_int (pas_cons (px_callC c__law_mixed hr tkF (pas_cons (px_mod (px_int1 B.b_int (pas_cons (px_var (pv 2)) pas_nil)) px_int) (pas_cons (px_ix (px_var (pv 0)) px_int) pas_nil))) pas_nil)) (px_var (pv 1))))) pssx_nil)
  (pssx_one (psx_setI (k := 0) (px_var (pv 2)) px_int (ps_asg (PX.pe (px_var (pv 2))) (pg_sub (pv 0) (PX.pe px_int) set_list))))))) pssx_nil)
  (pssx_cons (psx_if (pb_gt (px_ix (px_var (pv 0)) px_int) px_int) (pssx_cons (psx_set (i := 3) sc.nd (px_ix (px_var (pv 0)) px_int))
  (pssx_cons (psx_setI (k := 0) (px_div (px_int1 B.b_int (pas_cons (px_var (pv 3)) pas_nil)) (px_var (pv 1))) px_int (ps_asg (PX.pe (px_div (px_int1 B.b_int (pas_cons (px_var (pv 3)) pas_nil)) (px_var (pv 1)))) (pg_sub (pv 0) (PX.pe px_int) set_list)))
  (pssx_one (psx_ret (px_mod (px_int1 B.b_int (pas_cons (px_var (pv 3)) pas_nil)) (px_var (pv 1))))))) pssx_nil)
  (pssx_cons (psx_setI (k := 0) (px_mod (px_int1 B.b_int (pas_cons (px_add (px_ix (px_var (pv 0)) px_int) px_int) pas_nil)) px_int) px_int (ps_asg (PX.pe (px_mod (px_int1 B.b_int (pas_cons (px_add (px_ix (px_var (pv 0)) px_int) px_int) pas_nil)) px_int)) (pg_sub (pv 0) (PX.pe px_int) set_list)))
  (pssx_one (psx_ret (px_mod (px_int1 B.b_int (pas_cons (px_callC c__law_mixed hr tkF (pas_cons (px_ix (px_var (pv 0)) px_int) (pas_cons (px_ix (px_var (pv 0)) px_int) pas_nil))) pas_nil)) (px_var (pv 1)))))))))
theorem ok__law_power (B : Blt mg) (Z : Exs P w K mg base cm)  (F : Fun K "_law_power" "_law_power" s__law_power f fd) : FnOk P w K mg base (L2.CX P w) 1 f fd ["_law_base", "_law_times"] (spF ⟨K, cm⟩ 2 F__law_power) := by
  rw [F__law_power_eq]
  exact (have sc := sc__law_power
  fn_ok (body := B__law_power) (N := N__law_power) (ps := ["_law_base", "_law_times"]) F sc (by decide) fun cdv A outer s H E hr =>
  (pssx_cons (psx_set (i := 2) sc.nd px_int)
  (pssx_cons (psx_for [3] hpF rfl (pix_rng1 B.b_range (pas_cons (px_var (pv 1)) pas_nil) (many_cons many_nil)) (pgx_name (i := 3) sc.nd) (pssx_one (psx_set (i := 2) sc.nd (px_mul (px_var (pv 2)) (px_var (pv 0))))))
  (pssx_one (psx_ret (px_var (pv 2)))))))
theorem ok__law_gauss (B : Blt mg) (Z : Exs P w K mg base cm) (c__law_power : CF P w K mg base cm "_law_power" 1 ["_law_base", "_law_times"] F__law_power) (F : Fun K "_law_gauss" "_law_gauss" s__law_gauss f fd) : FnOk P w K mg base (L2.CX P w) 2 f fd ["_law_q", "_law_most"] (spF ⟨K, cm⟩ 2 F__law_gauss) := by
  rw [F__law_gauss_eq]
  exact (have sc := sc__law_gauss
  fn_ok (body := B__law_gauss) (N := N__law_gauss) (ps := ["_law_q", "_law_most"]) F sc (by decide) fun cdv A outer s H E hr =>
  (pssx_cons (psx_set (i := 2) sc.nd (px_lst (pas_cons (px_lst (pas_cons px_int pas_nil)) pas_nil)))
  (pssx_cons (psx_for [3, 4, 5, 6] hpF rfl (pix_rng2 B.b_range (pas_cons px_int (pas_cons (px_add (px_var (pv 1)) px_int) pas_nil)) (many_cons (many_cons many_nil))) (pgx_name (i := 3) sc.nd) (pssx_cons (psx_set (i := 4) sc.nd (px_ix (px_var (pv 2)) (px_sub (px_var (pv 3)) px_int)))
  (pssx_cons (psx_set (i := 5) sc.nd (px_lst (pas_cons px_int pas_nil)))
  (pssx_cons (psx_for [6] hpF rfl (pix_rng2 B.b_range (pas_cons px_int (pas_cons (px_var (pv 3)) pas_nil)) (many_cons (many_cons many_nil))) (pgx_name (i := 6) sc.nd) (pssx_one (psx_expr (px_app (k := 5) (pv 5) (px_add (px_ix (px_var (pv 4)) (px_sub (px_var (pv 6)) px_int)) (px_mul (px_callC c__law_power hr tkF (pas_cons (px_var (pv 0)) (pas_cons (px_var (pv 6)) pas_nil))) (px_ix (px_var (pv 4)) (px_var (pv 6))))) (pe_bm PySem.F.plainAttrs_list PySem.F.slot_list_append PySem.F.type_list_append mt_append (pv 5) (pa_cons (PX.pe (px_add (px_ix (px_var (pv 4)) (px_sub (px_var (pv 6)) px_int)) (px_mul (px_callC c__law_power hr tkF (pas_cons (px_var (pv 0)) (pas_cons (px_var (pv 6)) pas_nil))) (px_ix (px_var (pv 4)) (px_var (pv 6)))))) pa_nil))))))
  (pssx_one (psx_expr (px_app (k := 2) (pv 2) (px_add (px_var (pv 5)) (px_lst (pas_cons px_int pas_nil))) (pe_bm PySem.F.plainAttrs_list PySem.F.slot_list_append PySem.F.type_list_append mt_append (pv 2) (pa_cons (PX.pe (px_add (px_var (pv 5)) (px_lst (pas_cons px_int pas_nil)))) pa_nil)))))))))
  (pssx_one (psx_ret (px_var (pv 2)))))))
theorem ok__law_met (B : Blt mg) (Z : Exs P w K mg base cm) (c__law_power : CF P w K mg base cm "_law_power" 1 ["_law_base", "_law_times"] F__law_power) (F : Fun K "_law_met" "_law_met" s__law_met f fd) : FnOk P w K mg base (L2.CX P w) 2 f fd ["_law_q", "_law_m", "_law_n", "_law_d", "_law_rows"] (spF ⟨K, cm⟩ 5 F__law_met) := by
  rw [F__law_met_eq]
  exact (have sc := sc__law_met
  fn_ok (body := B__law_met) (N := N__law_met) (ps := ["_law_q", "_law_m", "_law_n", "_law_d", "_law_rows"]) F sc (by decide) fun cdv A outer s H E hr =>
  (pssx_cons (psx_set (i := 5) sc.nd (px_lst pas_nil))
  (pssx_cons (psx_for [7, 8] hpF rfl (pix_rng1 B.b_range (pas_cons (px_add (px_var (pv 2)) px_int) pas_nil) (many_cons many_nil)) (pgx_name (i := 6) sc.nd) (pssx_cons (psx_set (i := 7) sc.nd (px_callC c__law_power hr tkF (pas_cons (px_var (pv 0)) (pas_cons (px_mul (px_var (pv 1)) (px_max2 rfl B.b_max (pas_cons px_int (pas_cons (px_add (px_sub (px_var (pv 6)) (px_var (pv 3))) px_int) pas_nil)))) pas_nil))))
  (pssx_cons (psx_for [8] hpF rfl (pix_rng1 B.b_range (pas_cons (px_var (pv 6)) pas_nil) (many_cons many_nil)) (pgx_name (i := 8) sc.nd) (pssx_one (psx_set (i := 7) sc.nd (px_sub (px_var (pv 7)) (px_mul (px_ix (px_var (pv 5)) (px_var (pv 8))) (px_ix (px_ix (px_var (pv 4)) (px_var (pv 6))) (px_var (pv 8))))))))
  (pssx_one (psx_expr (px_app (k := 5) (pv 5) (px_var (pv 7)) (pe_bm PySem.F.plainAttrs_list PySem.F.slot_list_append PySem.F.type_list_append mt_append (pv 5) (pa_cons (PX.pe (px_var (pv 7))) pa_nil))))))))
  (pssx_one (psx_ret (px_lc rfl sc.nd (pix_rng1 B.b_range (pas_cons (px_add (px_var (pv 2)) px_int) pas_nil) (many_cons many_nil)) (blkOk_by (own := [("_law_s", 6)]) (by first | (show blkC N__law_met (defScope s__law_met) _ _ = true; decide +kernel) | rfl)) (fun _ _ _ _ _ => (pgx_name (i := 6) sc.nd)) (fun _ _ _ _ _ => pbs_nil) (fun _ _ _ _ _ => (px_mul (px_ix (px_var (pv 5)) (px_var (pv 6))) (px_ix (px_ix (px_var (pv 4)) (px_var (pv 2))) (px_var (pv 6)))))))))))
theorem ok__law_at (B : Blt mg) (Z : Exs P w K mg base cm)  (F : Fun K "_law_at" "_law_at" s__law_at f fd) : FnOk P w K mg base (L2.CX P w) 1 f fd ["_law_rows", "_law_a", "_law_b"] (spF ⟨K, cm⟩ 3 F__law_at) := by
  rw [F__law_at_eq]
  exact (have sc := sc__law_at
  fn_ok (body := B__law_at) (N := N__law_at) (ps := ["_law_rows", "_law_a", "_law_b"]) F sc (by decide) fun cdv A outer s H E hr =>
  (pssx_cons (psx_if (PBW.pb (pb_or (pb_lt (px_var (pv 2)) px_int) (pb_or1 (pb_gt (px_var (pv 2)) (px_var (pv 1)))))) (pssx_one (psx_ret px_int)) pssx_nil)
  (pssx_one (psx_ret (px_ix (px_ix (px_var (pv 0)) (px_var (pv 1))) (px_var (pv 2)))))))
theorem ok__law_tables (B : Blt mg) (Z : Exs P w K mg base cm) (c__law_at : CF P w K mg base cm "_law_at" 1 ["_law_rows", "_law_a", "_law_b"] F__law_at) (c__law_power : CF P w K mg base cm "_law_power" 1 ["_law_base", "_law_times"] F__law_power) (F : Fun K "_law_tables" "_law_tables" s__law_tables f fd) : FnOk P w K mg base (L2.CX P w) 2 f fd ["_law_q", "_law_tall", "_law_wide", "_law_ranks", "_law_rows"] (spF ⟨K, cm⟩ 5 F__law_tables) := by
  rw [F__law_tables_eq]
  exact (have sc := sc__law_tables
  fn_ok (body := B__law_tables) (N := N__law_tables) (ps := ["_law_q", "_law_tall", "_law_wide", "_law_ranks", "_law_rows"]) F sc (by decide) fun cdv A outer s H E hr =>
  (pssx_cons (psx_set (i := 5) sc.nd (px_lst pas_nil))
  (pssx_cons (psx_for [6, 7, 8] hpF rfl (pix_rng1 B.b_range (pas_cons (px_add (px_var (pv 3)) px_int) pas_nil) (many_cons many_nil)) (pgx_name (i := 6) sc.nd) (pssx_cons (psx_set (i := 7) sc.nd (px_callC c__law_at hr tkF (pas_cons (px_var (pv 4)) (pas_cons (px_var (pv 2)) (pas_cons (px_var (pv 6)) pas_nil)))))
  (pssx_cons (psx_for [8] hpF rfl (pix_rng1 B.b_range (pas_cons (px_var (pv 6)) pas_nil) (many_cons many_nil)) (pgx_name (i := 8) sc.nd) (pssx_one (psx_set (i := 7) sc.nd (px_if (pb_lt (px_var (pv 8)) (px_var (pv 1))) (px_mul (px_var (pv 7)) (px_sub (px_callC c__law_power hr tkF (pas_cons (px_var (pv 0)) (pas_cons (px_var (pv 1)) pas_nil))) (px_callC c__law_power hr tkF (pas_cons (px_var (pv 0)) (pas_cons (px_var (pv 8)) pas_nil))))) px_int))))
  (pssx_one (psx_expr (px_app (k := 5) (pv 5) (px_var (pv 7)) (pe_bm PySem.F.plainAttrs_list PySem.F.slot_list_append PySem.F.type_list_append mt_append (pv 5) (pa_cons (PX.pe (px_var (pv 7))) pa_nil))))))))
  (pssx_one (psx_ret (px_var (pv 5)))))))
theorem ok__law_real (B : Blt mg) (Z : Exs P w K mg base cm) (c__law_draw : CIO P w K mg base cm "_law_draw" 2 ["_law_hand_here", "_law_many"] F__law_draw) (c__law_met : CF P w K mg base cm "_law_met" 2 ["_law_q", "_law_m", "_law_n", "_law_d", "_law_rows"] F__law_met) (c__law_tables : CF P w K mg base cm "_law_tables" 2 ["_law_q", "_law_tall", "_law_wide", "_law_ranks", "_law_rows"] F__law_tables) (F : Fun K "_law_real" "_law_real" s__law_real f fd) : FnOk P w K mg base (L2.CX P w) 3 f fd ["_law_hand_here", "_law_q", "_law_m", "_law_n", "_law_rows"] (spIO ⟨K, cm⟩ 5 F__law_real) := by
  rw [F__law_real_eq]
  exact (have sc := sc__law_real
  fnIO_ok (body := B__law_real) (N := N__law_real) (ps := ["_law_hand_here", "_law_q", "_law_m", "_law_n", "_law_rows"]) F sc (by decide) fun cdv A outer s H E a hr =>
  (pssx_cons (psx_if (PBW.pb (pb_and (pb_le (px_var (pv 3)) (px_var (pv 2))) (pb_and1 (pb_eq hr (px_callI 0 c__law_draw hr tkF (pv 0) (pas_cons px_int pas_nil)) px_int)))) (pssx_one (psx_ret (px_callC c__law_met hr tkF (pas_cons (px_var (pv 1)) (pas_cons (px_var (pv 2)) (pas_cons (px_var (pv 3)) (pas_cons (px_add px_int (px_callI 0 c__law_draw hr tkF (pv 0) (pas_cons (px_add (px_var (pv 3)) px_int) pas_nil))) (pas_cons (px_var (pv 4)) pas_nil)))))))) pssx_nil)
  (pssx_one (psx_ret (px_callC c__law_tables hr tkF (pas_cons (px_var (pv 1)) (pas_cons (px_callI 0 c__law_draw hr tkF (pv 0) (pas_cons (px_add (px_var (pv 2)) px_int) pas_nil)) (pas_cons (px_callI 0 c__law_draw hr tkF (pv 0) (pas_cons (px_add (px_var (pv 3)) px_int) pas_nil)) (pas_cons (px_var (pv 3)) (pas_cons (px_var (pv 4)) pas_nil))))))))))
theorem ok__law_spread (B : Blt mg) (Z : Exs P w K mg base cm) (c__law_at : CF P w K mg base cm "_law_at" 1 ["_law_rows", "_law_a", "_law_b"] F__law_at) (F : Fun K "_law_spread" "_law_spread" s__law_spread f fd) : FnOk P w K mg base (L2.CX P w) 2 f fd ["_law_n", "_law_counts", "_law_u", "_law_rows"] (spF ⟨K, cm⟩ 4 F__law_spread) := by
  rw [F__law_spread_eq]
  exact (have sc := sc__law_spread
  fn_ok (body := B__law_spread) (N := N__law_spread) (ps := ["_law_n", "_law_counts", "_law_u", "_law_rows"]) F sc (by decide) fun cdv A outer s H E hr =>
  (pssx_one (psx_ret (px_sumA rfl B.b_sum (pas_cons (px_lc rfl sc.nd (pix_rng1 B.b_range (pas_cons (px_add (px_var (pv 0)) px_int) pas_nil) (many_cons many_nil)) (blkOk_by (own := [("_law_i", 4)]) (by first | (show blkC N__law_spread (defScope s__law_spread) _ _ = true; decide +kernel) | rfl)) (fun _ _ _ _ _ => (pgx_name (i := 4) sc.nd)) (fun _ _ _ _ _ => pbs_nil) (fun _ _ _ _ _ => (px_mul (px_ix (px_var (pv 1)) (px_var (pv 4))) (px_callC c__law_at hr takes0 (pas_cons (px_var (pv 3)) (pas_cons (px_sub (px_var (pv 0)) (px_var (pv 4))) (pas_cons (px_var (pv 2)) pas_nil))))))) pas_nil)))))
theorem ok__law_known (B : Blt mg) (Z : Exs P w K mg base cm) (c__law_at : CF P w K mg base cm "_law_at" 1 ["_law_rows", "_law_a", "_law_b"] F__law_at) (F : Fun K "_law_known" "_law_known" s__law_known f fd) : FnOk P w K mg base (L2.CX P w) 2 f fd ["_law_n", "_law_told", "_law_u", "_law_rows"] (spF ⟨K, cm⟩ 4 F__law_known) := by
  rw [F__law_known_eq]
  exact (have sc := sc__law_known
  fn_ok (body := B__law_known) (N := N__law_known) (ps := ["_law_n", "_law_told", "_law_u", "_law_rows"]) F sc (by decide) fun cdv A outer s H E hr =>
  (pssx_one (psx_ret (px_sumA rfl B.b_sum (pas_cons (px_lc rfl sc.nd (pix_rng1 B.b_range (pas_cons (px_var (pv 2)) pas_nil) (many_cons many_nil)) (blkOk_by (own := [("_law_j", 4)]) (by first | (show blkC N__law_known (defScope s__law_known) _ _ = true; decide +kernel) | rfl)) (fun _ _ _ _ _ => (pgx_name (i := 4) sc.nd)) (fun _ _ _ _ _ => pbs_nil) (fun _ _ _ _ _ => (px_mul (px_ix (px_var (pv 1)) (px_var (pv 4))) (px_callC c__law_at hr takes0 (pas_cons (px_var (pv 3)) (pas_cons (px_sub (px_var (pv 0)) (px_var (pv 4))) (pas_cons (px_sub (px_var (pv 2)) (px_var (pv 4))) pas_nil))))))) pas_nil)))))
theorem ok__law_rest (B : Blt mg) (Z : Exs P w K mg base cm) (c__law_power : CF P w K mg base cm "_law_power" 1 ["_law_base", "_law_times"] F__law_power) (c__law_spread : CF P w K mg base cm "_law_spread" 2 ["_law_n", "_law_counts", "_law_u", "_law_rows"] F__law_spread) (c__law_known : CF P w K mg base cm "_law_known" 2 ["_law_n", "_law_told", "_law_u", "_law_rows"] F__law_known) (F : Fun K "_law_rest" "_law_rest" s__law_rest f fd) : FnOk P w K mg base (L2.CX P w) 3 f fd ["_law_q", "_law_m", "_law_n", "_law_size", "_law_counts", "_law_rows"] (spF ⟨K, cm⟩ 6 F__law_rest) := by
  rw [F__law_rest_eq]
  exact (have sc := sc__law_rest
  fn_ok (body := B__law_rest) (N := N__law_rest) (ps := ["_law_q", "_law_m", "_law_n", "_law_size", "_law_counts", "_law_rows"]) F sc (by decide) fun cdv A outer s H E hr =>
  (pssx_cons (psx_set (i := 6) sc.nd (px_lst pas_nil))
  (pssx_cons (psx_for [7, 8] hpF rfl (pix_rng1 B.b_range (pas_cons (px_add (px_var (pv 2)) px_int) pas_nil) (many_cons many_nil)) (pgx_name (i := 7) sc.nd) (pssx_cons (psx_set (i := 8) sc.nd (px_sub (px_mul (px_callC c__law_power hr tkF (pas_cons (px_var (pv 0)) (pas_cons (px_mul (px_var (pv 1)) (px_var (pv 7))) pas_nil))) (px_callC c__law_spread hr tkF (pas_cons (px_var (pv 2)) (pas_cons (px_var (pv 4)) (pas_cons (px_var (pv 7)) (pas_cons (px_var (pv 5)) pas_nil)))))) (px_mul (px_var (pv 3)) (px_callC c__law_known hr tkF (pas_cons (px_var (pv 2)) (pas_cons (px_var (pv 6)) (pas_cons (px_var (pv 7)) (pas_cons (px_var (pv 5)) pas_nil))))))))
  (pssx_cons (psx_if (PBW.pb (pb_or (pb_lt (px_var (pv 8)) px_int) (pb_or1 (pb_ne hr (px_mod (px_int1 B.b_int (pas_cons (px_var (pv 8)) pas_nil)) (px_var (pv 3))) px_int)))) (pssx_one (psx_ret (px_tup (pas_cons px_str (pas_cons (px_var (pv 7)) pas_nil))))) pssx_nil)
  (pssx_one (psx_expr (px_app (k := 6) (pv 6) (px_div (px_var (pv 8)) (px_var (pv 3))) (pe_bm PySem.F.plainAttrs_list PySem.F.slot_list_append PySem.F.type_list_append mt_append (pv 6) (pa_cons (PX.pe (px_div (px_var (pv 8)) (px_var (pv 3)))) pa_nil))))))))
  (pssx_one (psx_ret (px_tup (pas_cons px_str (pas_cons (px_var (pv 6)) pas_nil))))))))
theorem ok__law_whole (B : Blt mg) (Z : Exs P w K mg base cm)  (F : Fun K "_law_whole" "_law_whole" s__law_whole f fd) : FnOk P w K mg base (L2.CX P w) 1 f fd ["_law_thing"] (spF ⟨K, cm⟩ 1 F__law_whole) := by
  rw [F__law_whole_eq]
  exact (have sc := sc__law_whole
  fn_ok (body := B__law_whole) (N := N__law_whole) (ps := ["_law_thing"]) F sc (by decide) fun cdv A outer s H E hr =>
  (pssx_one (psx_ret (px_and (px_isi sub0_ok B.b_isinstance (pas_cons (px_var (pv 0)) (pas_cons (px_ty B.b_int) pas_nil))) (px_one (px_not (px_isi sub0_ok B.b_isinstance (pas_cons (px_var (pv 0)) (pas_cons (px_ty B.b_bool) pas_nil)))))))))
theorem ok__law_same (B : Blt mg) (Z : Exs P w K mg base cm) (c__law_whole : CF P w K mg base cm "_law_whole" 1 ["_law_thing"] F__law_whole) (F : Fun K "_law_same" "_law_same" s__law_same f fd) : FnOk P w K mg base (L2.CX P w) 2 f fd ["_law_told", "_law_due"] (spF ⟨K, cm⟩ 2 F__law_same) := by
  rw [F__law_same_eq]
  exact (have sc := sc__law_same
  fn_ok (body := B__law_same) (N := N__law_same) (ps := ["_law_told", "_law_due"]) F sc (by decide) fun cdv A outer s H E hr =>
  (pssx_cons (psx_if (PBW.pb (pb_or (pb_not (pb_x (px_isi sub0_ok B.b_isinstance (pas_cons (px_var (pv 0)) (pas_cons (px_ty B.b_tuple) pas_nil))))) (pb_or1 (pb_ne hr (px_len B.b_len (pas_cons (px_var (pv 0)) pas_nil)) (px_len B.b_len (pas_cons (px_var (pv 1)) pas_nil)))))) (pssx_one (psx_ret px_bl)) pssx_nil)
  (pssx_cons (psx_for [2, 3] hpF rfl (pix_zipM B.b_zip (pas_cons (px_var (pv 0)) (pas_cons (px_var (pv 1)) pas_nil))) (pgx_tup rfl (pgsx_cons (pgx_name (i := 2) sc.nd) (pgsx_cons (pgx_name (i := 3) sc.nd) pgsx_nil))) (pssx_one (psx_if (PBW.pb (pb_or (pb_not (pb_x (px_callC c__law_whole hr tkF (pas_cons (px_var (pv 2)) pas_nil)))) (pb_or1 (pb_ne hr (px_var (pv 2)) (px_var (pv 3)))))) (pssx_one (psx_ret px_bl)) pssx_nil)))
  (pssx_one (psx_ret px_bl)))))
theorem ok_is_whole (B : Blt mg) (Z : Exs P w K mg base cm)  {dvs : List V} (F : FunD K "is_whole" "is_whole" (defArgs s_is_whole) (defBody s_is_whole) (defScope s_is_whole) dvs [] f fd) : FnOk P w K mg base (L2.CX P w) 1 f fd ["thing", "low", "high"] (spF ⟨K, cm⟩ 3 F_is_whole) := by
  rw [F_is_whole_eq]
  exact (have sc := sc_is_whole
  fn_okD (body := B_is_whole) (N := N_is_whole) (ps := ["thing", "low", "high"]) F sc (by decide) fun cdv A outer s H E hr =>
  (pssx_cons (psx_if (PBW.pb (pb_or (pb_not (pb_x (px_isi sub0_ok B.b_isinstance (pas_cons (px_var (pv 0)) (pas_cons (px_ty B.b_int) pas_nil))))) (pb_or1 (pb_x (px_isi sub0_ok B.b_isinstance (pas_cons (px_var (pv 0)) (pas_cons (px_ty B.b_bool) pas_nil))))))) (pssx_one (psx_ret px_bl)) pssx_nil)
  (pssx_cons (psx_if (PBW.pb (pb_and (pb_isnot (px_var (pv 1)) px_non) (pb_and1 (pb_lt (px_var (pv 0)) (px_var (pv 1)))))) (pssx_one (psx_ret px_bl)) pssx_nil)
  (pssx_one (psx_ret (px_or (px_is (px_var (pv 2)) px_non) (px_one (px_le (px_var (pv 0)) (px_var (pv 2))))))))))
theorem ok_check_sizes (B : Blt mg) (Z : Exs P w K mg base cm) (c_is_whole_3 : CF P w K mg base cm "is_whole" 1 ["thing", "low", "high"] F_is_whole) (F : Fun K "check_sizes" "check_sizes" s_check_sizes f fd) : FnOk P w K mg base (L2.CX P w) 3 f fd ["prime", "degree", "columns"] (spF ⟨K, cm⟩ 3 F_check_sizes) := by
  rw [F_check_sizes_eq]
  exact (have sc := sc_check_sizes
  fn_ok (body := B_check_sizes) (N := N_check_sizes) (ps := ["prime", "degree", "columns"]) F sc (by decide) fun cdv A outer s H E hr =>
  (pssx_cons (psx_if (pb_not (pb_x (px_callC c_is_whole_3 hr tkF (pas_cons (px_var (pv 0)) (pas_cons px_int (pas_cons px_int pas_nil)))))) (pssx_one (psx_raise Z.e_BadSizes hr rfl tkF (pas_cons px_str pas_nil))) pssx_nil)
  (pssx_cons (psx_if (pb_not (pb_x (px_callC c_is_whole_3 hr tkF (pas_cons (px_var (pv 1)) (pas_cons px_int (pas_cons (px_glob B.g_MOST_SIDE rfl) pas_nil)))))) (pssx_one (psx_raise Z.e_BadSizes hr rfl tkF (pas_cons px_str pas_nil))) pssx_nil)
  (pssx_one (psx_if (pb_not (pb_x (px_callC c_is_whole_3 hr tkF (pas_cons (px_var (pv 2)) (pas_cons px_int (pas_cons (px_glob B.g_MOST_SIDE rfl) pas_nil)))))) (pssx_one (psx_raise Z.e_BadSizes hr rfl tkF (pas_cons px_str pas_nil))) pssx_nil)))))
theorem ok_power_of (B : Blt mg) (Z : Exs P w K mg base cm)  (F : Fun K "power_of" "power_of" s_power_of f fd) : FnOk P w K mg base (L2.CX P w) 1 f fd ["base", "exponent"] (spF ⟨K, cm⟩ 2 F_power_of) := by
  rw [F_power_of_eq]
  exact (have sc := sc_power_of
  fn_ok (body := B_power_of) (N := N_power_of) (ps := ["base", "exponent"]) F sc (by decide) fun cdv A outer s H E hr =>
  (pssx_cons (psx_set (i := 2) sc.nd px_int)
  (pssx_cons (psx_for [3] hpF rfl (pix_rng1 B.b_range (pas_cons (px_var (pv 1)) pas_nil) (many_cons many_nil)) (pgx_name (i := 3) sc.nd) (pssx_one (psx_set (i := 2) sc.nd (px_mul (px_var (pv 2)) (px_var (pv 0))))))
  (pssx_one (psx_ret (px_var (pv 2)))))))
theorem ok_is_sequence (B : Blt mg) (Z : Exs P w K mg base cm)  (F : Fun K "is_sequence" "is_sequence" s_is_sequence f fd) : FnOk P w K mg base (L2.CX P w) 1 f fd ["thing"] (spF ⟨K, cm⟩ 1 F_is_sequence) := by
  rw [F_is_sequence_eq]
  exact (have sc := sc_is_sequence
  fn_ok (body := B_is_sequence) (N := N_is_sequence) (ps := ["thing"]) F sc (by decide) fun cdv A outer s H E hr =>
  (pssx_one (psx_ret (px_isi sub0_ok B.b_isinstance (pas_cons (px_var (pv 0)) (pas_cons (px_tup (pas_cons (px_ty B.b_list) (pas_cons (px_ty B.b_tuple) pas_nil))) pas_nil))))))
theorem ok_is_counts (B : Blt mg) (Z : Exs P w K mg base cm) (c_is_sequence : CF P w K mg base cm "is_sequence" 1 ["thing"] F_is_sequence) (c_is_whole_2 : CFD P w K mg base cm "is_whole" 1 ["thing", "low", "high"] F_is_whole [.non]) (F : Fun K "is_counts" "is_counts" s_is_counts f fd) : FnOk P w K mg base (L2.CX P w) 2 f fd ["columns", "counts"] (spF ⟨K, cm⟩ 2 F_is_counts) := by
  rw [F_is_counts_eq]
  exact (have sc := sc_is_counts
  fn_ok (body := B_is_counts) (N := N_is_counts) (ps := ["columns", "counts"]) F sc (by decide) fun cdv A outer s H E hr =>
  (pssx_cons (psx_if (PBW.pb (pb_or (pb_not (pb_x (px_callC c_is_sequence hr tkF (pas_cons (px_var (pv 1)) pas_nil)))) (pb_or1 (pb_ne hr (px_len B.b_len (pas_cons (px_var (pv 1)) pas_nil)) (px_add (px_var (pv 0)) px_int))))) (pssx_one (psx_ret px_bl)) pssx_nil)
  (pssx_one (psx_ret (px_allN rfl B.b_all (pas_cons (px_lc rfl sc.nd (pix_seq (px_var (pv 1))) (blkOk_by (own := [("one", 2)]) (by first | (show blkC N_is_counts (defScope s_is_counts) _ _ = true; decide +kernel) | rfl)) (fun _ _ _ _ _ => (pgx_name (i := 2) sc.nd)) (fun _ _ _ _ _ => pbs_nil) (fun _ _ _ _ _ => (px_callD (n := 2) c_is_whole_2 hr takes0 (pas_cons (px_var (pv 2)) (pas_cons px_int pas_nil))))) pas_nil))))))
theorem ok_space_count (B : Blt mg) (Z : Exs P w K mg base cm) (c_power_of : CF P w K mg base cm "power_of" 1 ["base", "exponent"] F_power_of) (F : Fun K "space_count" "space_count" s_space_count f fd) : FnOk P w K mg base (L2.CX P w) 2 f fd ["prime", "whole", "part"] (spF ⟨K, cm⟩ 3 F_space_count) := by
  rw [F_space_count_eq]
  exact (have sc := sc_space_count
  fn_ok (body := B_space_count) (N := N_space_count) (ps := ["prime", "whole", "part"]) F sc (by decide) fun cdv A outer s H E hr =>
  (pssx_cons (psx_if (PBW.pb (pb_or (pb_lt (px_var (pv 2)) px_int) (pb_or1 (pb_gt (px_var (pv 2)) (px_var (pv 1)))))) (pssx_one (psx_ret px_int)) pssx_nil)
  (pssx_cons (psx_set (i := 3) sc.nd px_int)
  (pssx_cons (psx_set (i := 4) sc.nd px_int)
  (pssx_cons (psx_for [5] hpF rfl (pix_rng1 B.b_range (pas_cons (px_var (pv 2)) pas_nil) (many_cons many_nil)) (pgx_name (i := 5) sc.nd) (pssx_cons (psx_set (i := 3) sc.nd (px_mul (px_var (pv 3)) (px_sub (px_callC c_power_of hr tkF (pas_cons (px_var (pv 0)) (pas_cons (px_sub (px_var (pv 1)) (px_var (pv 5))) pas_nil))) px_int)))
  (pssx_one (psx_set (i := 4) sc.nd (px_mul (px_var (pv 4)) (px_sub (px_callC c_power_of hr tkF (pas_cons (px_var (pv 0)) (pas_cons (px_add (px_var (pv 5)) px_int) pas_nil))) px_int))))))
  (pssx_one (psx_ret (px_div (px_var (pv 3)) (px_var (pv 4))))))))))
theorem ok_completed_counts (B : Blt mg) (Z : Exs P w K mg base cm) (c_check_sizes : CF P w K mg base cm "check_sizes" 3 ["prime", "degree", "columns"] F_check_sizes) (c_power_of : CF P w K mg base cm "power_of" 1 ["base", "exponent"] F_power_of) (c_is_sequence : CF P w K mg base cm "is_sequence" 1 ["thing"] F_is_sequence) (c_is_counts : CF P w K mg base cm "is_counts" 2 ["columns", "counts"] F_is_counts) (c_space_count : CF P w K mg base cm "space_count" 2 ["prime", "whole", "part"] F_space_count) (c_is_whole_3 : CF P w K mg base cm "is_whole" 1 ["thing", "low", "high"] F_is_whole) (F : Fun K "completed_counts" "completed_counts" s_completed_counts f fd) : FnOk P w K mg base (L2.CX P w) 4 f fd ["prime", "degree", "columns", "size", "first"] (spF ⟨K, cm⟩ 5 F_completed_counts) := by
  rw [F_completed_counts_eq]
  exact (have sc := sc_completed_counts
  fn_ok (body := B_completed_counts) (N := N_completed_counts) (ps := ["prime", "degree", "columns", "size", "first"]) F sc (by decide) fun cdv A outer s H E hr =>
  (pssx_cons (psx_expr (px_callC c_check_sizes hr tkF (pas_cons (px_var (pv 0)) (pas_cons (px_var (pv 1)) (pas_cons (px_var (pv 2)) pas_nil)))))
  (pssx_cons (psx_if (pb_not (pb_x (px_callC c_is_whole_3 hr tkF (pas_cons (px_var (pv 3)) (pas_cons px_int (pas_cons (px_callC c_power_of hr tkF (pas_cons (px_var (pv 0)) (pas_cons (px_mul (px_var (pv 1)) (px_var (pv 2))) pas_nil))) pas_nil)))))) (pssx_one (psx_raise Z.e_BadSizes hr rfl tkF (pas_cons px_str pas_nil))) pssx_nil)
  (pssx_cons (psx_if (PBW.pb (pb_or (pb_not (pb_x (px_callC c_is_sequence hr tkF (pas_cons (px_var (pv 4)) pas_nil)))) (pb_or1 (pb_not (pb_lele px_int (px_len B.b_len (pas_cons (px_var (pv 4)) pas_nil)) (px_add (px_var (pv 2)) px_int)))))) (pssx_one (psx_raise Z.e_BadCounts hr rfl tkF (pas_cons px_str pas_nil))) pssx_nil)
  (pssx_cons (psx_if (pb_not (pb_x (px_callC c_is_counts hr tkF (pas_cons (px_sub (px_len B.b_len (pas_cons (px_var (pv 4)) pas_nil)) px_int) (pas_cons (px_var (pv 4)) pas_nil))))) (pssx_one (psx_raise Z.e_BadCounts hr rfl tkF (pas_cons px_str pas_nil))) pssx_nil)
  (pssx_cons (psx_if (pb_ne hr (px_ix (px_var (pv 4)) px_int) px_int) (pssx_one (psx_raise Z.e_BadCounts hr rfl tkF (pas_cons px_str pas_nil))) pssx_nil)
  (pssx_cons (psx_set (i := 5) sc.nd (px_list B.b_list (pas_cons (px_var (pv 4)) pas_nil)))
  (pssx_cons (psx_for [6, 7, 8, 9, 10] hpF rfl (pix_rng2 B.b_range (pas_cons (px_len B.b_len (pas_cons (px_var (pv 4)) pas_nil)) (pas_cons (px_add (px_var (pv 2)) px_int) pas_nil)) (many_cons (many_cons many_nil))) (pgx_name (i := 6) sc.nd) (pssx_cons (psx_set (i := 7) sc.nd (px_sub (px_var (pv 2)) (px_var (pv 6))))
  (pssx_cons (psx_set (i := 8) sc.nd (px_mul (px_var (pv 3)) (px_callC c_space_count hr tkF (pas_cons (px_var (pv 0)) (pas_cons (px_var (pv 2)) (pas_cons (px_var (pv 7)) pas_nil))))))
  (pssx_cons (psx_set (i := 9) sc.nd (px_callC c_power_of hr tkF (pas_cons (px_var (pv 0)) (pas_cons (px_mul (px_var (pv 1)) (px_var (pv 7))) pas_nil))))
  (pssx_cons (psx_set (i := 10) sc.nd (px_sumA rfl B.b_sum (pas_cons (px_lc rfl sc.nd (pix_rng1 B.b_range (pas_cons (px_var (pv 6)) pas_nil) (many_cons many_nil)) (blkOk_by (own := [("at", 11)]) (by first | (show blkC N_completed_counts (defScope s_completed_counts) _ _ = true; decide +kernel) | rfl)) (fun _ _ _ _ _ => (pgx_name (i := 11) sc.nd)) (fun _ _ _ _ _ => pbs_nil) (fun _ _ _ _ _ => (px_mul (px_ix (px_var (pv 5)) (px_var (pv 11))) (px_callC c_space_count hr takes0 (pas_cons (px_var (pv 0)) (pas_cons (px_sub (px_var (pv 2)) (px_var (pv 11))) (pas_cons (px_var (pv 7)) pas_nil))))))) pas_nil)))
  (pssx_cons (psx_if (PBW.pb (pb_or (pb_ne hr (px_mod (px_var (pv 8)) (px_var (pv 9))) px_int) (pb_or1 (pb_lt (px_div (px_var (pv 8)) (px_var (pv 9))) (px_var (pv 10)))))) (pssx_one (psx_raise Z.e_NoLot hr rfl tkF (pas_cons (px_var (pv 6)) pas_nil))) pssx_nil)
  (pssx_one (psx_expr (px_app (k := 5) (pv 5) (px_sub (px_div (px_var (pv 8)) (px_var (pv 9))) (px_var (pv 10))) (pe_bm PySem.F.plainAttrs_list PySem.F.slot_list_append PySem.F.type_list_append mt_append (pv 5) (pa_cons (PX.pe (px_sub (px_div (px_var (pv 8)) (px_var (pv 9))) (px_var (pv 10)))) pa_nil)))))))))))
  (pssx_one (psx_ret (px_tuple B.b_tuple (pas_cons (px_var (pv 5)) pas_nil))))))))))))
theorem ok_spread_sum (B : Blt mg) (Z : Exs P w K mg base cm) (c_space_count : CF P w K mg base cm "space_count" 2 ["prime", "whole", "part"] F_space_count) (F : Fun K "spread_sum" "spread_sum" s_spread_sum f fd) : FnOk P w K mg base (L2.CX P w) 3 f fd ["prime", "columns", "counts", "part"] (spF ⟨K, cm⟩ 4 F_spread_sum) := by
  rw [F_spread_sum_eq]
  exact (have sc := sc_spread_sum
  fn_ok (body := B_spread_sum) (N := N_spread_sum) (ps := ["prime", "columns", "counts", "part"]) F sc (by decide) fun cdv A outer s H E hr =>
  (pssx_one (psx_ret (px_sumA rfl B.b_sum (pas_cons (px_lc rfl sc.nd (pix_rng1 B.b_range (pas_cons (px_add (px_var (pv 1)) px_int) pas_nil) (many_cons many_nil)) (blkOk_by (own := [("rank", 4)]) (by first | (show blkC N_spread_sum (defScope s_spread_sum) _ _ = true; decide +kernel) | rfl)) (fun _ _ _ _ _ => (pgx_name (i := 4) sc.nd)) (fun _ _ _ _ _ => pbs_nil) (fun _ _ _ _ _ => (px_mul (px_ix (px_var (pv 2)) (px_var (pv 4))) (px_callC c_space_count hr takes0 (pas_cons (px_var (pv 0)) (pas_cons (px_sub (px_var (pv 1)) (px_var (pv 4))) (pas_cons (px_var (pv 3)) pas_nil))))))) pas_nil)))))
theorem ok_known_part (B : Blt mg) (Z : Exs P w K mg base cm) (c_space_count : CF P w K mg base cm "space_count" 2 ["prime", "whole", "part"] F_space_count) (F : Fun K "known_part" "known_part" s_known_part f fd) : FnOk P w K mg base (L2.CX P w) 3 f fd ["prime", "columns", "told", "part"] (spF ⟨K, cm⟩ 4 F_known_part) := by
  rw [F_known_part_eq]
  exact (have sc := sc_known_part
  fn_ok (body := B_known_part) (N := N_known_part) (ps := ["prime", "columns", "told", "part"]) F sc (by decide) fun cdv A outer s H E hr =>
  (pssx_one (psx_ret (px_sumA rfl B.b_sum (pas_cons (px_lc rfl sc.nd (pix_rng1 B.b_range (pas_cons (px_var (pv 3)) pas_nil) (many_cons many_nil)) (blkOk_by (own := [("at", 4)]) (by first | (show blkC N_known_part (defScope s_known_part) _ _ = true; decide +kernel) | rfl)) (fun _ _ _ _ _ => (pgx_name (i := 4) sc.nd)) (fun _ _ _ _ _ => pbs_nil) (fun _ _ _ _ _ => (px_mul (px_ix (px_var (pv 2)) (px_var (pv 4))) (px_callC c_space_count hr takes0 (pas_cons (px_var (pv 0)) (pas_cons (px_sub (px_var (pv 1)) (px_var (pv 4))) (pas_cons (px_sub (px_var (pv 3)) (px_var (pv 4))) pas_nil))))))) pas_nil)))))
theorem ok_turned_counts (B : Blt mg) (Z : Exs P w K mg base cm) (c_check_sizes : CF P w K mg base cm "check_sizes" 3 ["prime", "degree", "columns"] F_check_sizes) (c_is_counts : CF P w K mg base cm "is_counts" 2 ["columns", "counts"] F_is_counts) (c_power_of : CF P w K mg base cm "power_of" 1 ["base", "exponent"] F_power_of) (c_spread_sum : CF P w K mg base cm "spread_sum" 3 ["prime", "columns", "counts", "part"] F_spread_sum) (c_known_part : CF P w K mg base cm "known_part" 3 ["prime", "columns", "told", "part"] F_known_part) (F : Fun K "turned_counts" "turned_counts" s_turned_counts f fd) : FnOk P w K mg base (L2.CX P w) 4 f fd ["prime", "degree", "columns", "couples"] (spF ⟨K, cm⟩ 4 F_turned_counts) := by
  rw [F_turned_counts_eq]
  exact (have sc := sc_turned_counts
  fn_ok (body := B_turned_counts) (N := N_turned_counts) (ps := ["prime", "degree", "columns", "couples"]) F sc (by decide) fun cdv A outer s H E hr =>
  (pssx_cons (psx_expr (px_callC c_check_sizes hr tkF (pas_cons (px_var (pv 0)) (pas_cons (px_var (pv 1)) (pas_cons (px_var (pv 2)) pas_nil)))))
  (pssx_cons (psx_if (pb_not (pb_x (px_callC c_is_counts hr tkF (pas_cons (px_var (pv 2)) (pas_cons (px_var (pv 3)) pas_nil))))) (pssx_one (psx_raise Z.e_BadCounts hr rfl tkF (pas_cons px_str pas_nil))) pssx_nil)
  (pssx_cons (psx_if (pb_eq hr (px_ix (px_var (pv 3)) px_int) px_int) (pssx_one (psx_raise Z.e_BadCounts hr rfl tkF (pas_cons px_str pas_nil))) pssx_nil)
  (pssx_cons (psx_if (pb_ne hr (px_sumA rfl B.b_sum (pas_cons (px_var (pv 3)) pas_nil)) (px_mul (px_ix (px_var (pv 3)) px_int) (px_ix (px_var (pv 3)) px_int))) (pssx_one (psx_raise Z.e_BadCounts hr rfl tkF (pas_cons px_str pas_nil))) pssx_nil)
  (pssx_cons (psx_set (i := 4) sc.nd (px_lst pas_nil))
  (pssx_cons (psx_for [5, 6] hpF rfl (pix_rng1 B.b_range (pas_cons (px_add (px_var (pv 2)) px_int) pas_nil) (many_cons many_nil)) (pgx_name (i := 5) sc.nd) (pssx_cons (psx_set (i := 6) sc.nd (px_mul (px_callC c_power_of hr tkF (pas_cons (px_var (pv 0)) (pas_cons (px_mul (px_var (pv 1)) (px_var (pv 5))) pas_nil))) (px_callC c_spread_sum hr tkF (pas_cons (px_var (pv 0)) (pas_cons (px_var (pv 2)) (pas_cons (px_var (pv 3)) (pas_cons (px_var (pv 5)) pas_nil)))))))
  (pssx_one (psx_expr (px_app (k := 4) (pv 4) (px_sub (px_var (pv 6)) (px_callC c_known_part hr tkF (pas_cons (px_var (pv 0)) (pas_cons (px_var (pv 2)) (pas_cons (px_var (pv 4)) (pas_cons (px_var (pv 5)) pas_nil)))))) (pe_bm PySem.F.plainAttrs_list PySem.F.slot_list_append PySem.F.type_list_append mt_append (pv 4) (pa_cons (PX.pe (px_sub (px_var (pv 6)) (px_callC c_known_part hr tkF (pas_cons (px_var (pv 0)) (pas_cons (px_var (pv 2)) (pas_cons (px_var (pv 4)) (pas_cons (px_var (pv 5)) pas_nil))))))) pa_nil)))))))
  (pssx_one (psx_ret (px_tuple B.b_tuple (pas_cons (px_var (pv 4)) pas_nil)))))))))))
theorem ok__law_real_holds (B : Blt mg) (Z : Exs P w K mg base cm) (c__law_real : CIO P w K mg base cm "_law_real" 3 ["_law_hand_here", "_law_q", "_law_m", "_law_n", "_law_rows"] F__law_real) (c__law_rest : CF P w K mg base cm "_law_rest" 3 ["_law_q", "_law_m", "_law_n", "_law_size", "_law_counts", "_law_rows"] F__law_rest) (c__law_same : CF P w K mg base cm "_law_same" 2 ["_law_told", "_law_due"] F__law_same) (c_completed_counts : CF P w K mg base cm "completed_counts" 4 ["prime", "degree", "columns", "size", "first"] F_completed_counts) (c_turned_counts : CF P w K mg base cm "turned_counts" 4 ["prime", "degree", "columns", "couples"] F_turned_counts) (F : Fun K "_law_real_holds" "_law_real_holds" s__law_real_holds f fd) : FnOk P w K mg base (L2.CX P w) 5 f fd ["_law_hand_here", "_law_q", "_law_m", "_law_n", "_law_rows"] (spIO ⟨K, cm⟩ 5 F__law_real_holds) := by
  rw [F__law_real_holds_eq]
  exact (have sc := sc__law_real_holds
  fnIO_ok (body := B__law_real_holds) (N := N__law_real_holds) (ps := ["_law_hand_here", "_law_q", "_law_m", "_law_n", "_law_rows"]) F sc (by decide) fun cdv A outer s H E a hr =>
  (pssx_cons (psx_set (i := 5) sc.nd (px_callI 0 c__law_real hr tkF (pv 0) (pas_cons (px_var (pv 1)) (pas_cons (px_var (pv 2)) (pas_cons (px_var (pv 3)) (pas_cons (px_var (pv 4)) pas_nil))))))
  (pssx_cons (psx_set (i := 6) sc.nd (px_sumA rfl B.b_sum (pas_cons (px_var (pv 5)) pas_nil)))
  (pssx_cons (psx_set (i := 7) sc.nd (px_callC c__law_rest hr tkF (pas_cons (px_var (pv 1)) (pas_cons (px_var (pv 2)) (pas_cons (px_var (pv 3)) (pas_cons (px_var (pv 6)) (pas_cons (px_var (pv 5)) (pas_cons (px_var (pv 4)) pas_nil))))))))
  (pssx_cons (psx_if (pb_eq hr (px_ix (px_var (pv 7)) px_int) px_str) (pssx_one (psx_ret px_bl)) pssx_nil)
  (pssx_cons (psx_for [8] hpF rfl (pix_rng1 B.b_range (pas_cons (px_add (px_var (pv 3)) px_int) pas_nil) (many_cons many_nil)) (pgx_name (i := 8) sc.nd) (pssx_one (psx_if (PBW.pb (pb_and (pb_eq hr (px_sumA rfl B.b_sum (pas_cons (px_slice (px_ix (px_var (pv 7)) px_int) (pp_some px_int) (pp_some (px_sub (px_var (pv 3)) (px_var (pv 8))))) pas_nil)) px_int) (pb_and1 (pb_not (pb_x (px_callC c__law_same hr tkF (pas_cons (px_callC c_completed_counts hr tkF (pas_cons (px_var (pv 1)) (pas_cons (px_var (pv 2)) (pas_cons (px_var (pv 3)) (pas_cons (px_var (pv 6)) (pas_cons (px_slice (px_var (pv 5)) pp_none (pp_some (px_add (px_var (pv 8)) px_int))) pas_nil)))))) (pas_cons (px_var (pv 5)) pas_nil)))))))) (pssx_one (psx_ret px_bl)) pssx_nil)))
  (pssx_cons (psx_set (i := 9) sc.nd (px_tuple B.b_tuple (pas_cons (px_lc rfl sc.nd (pix_seq (px_var (pv 5))) (blkOk_by (own := [("_law_one", 10)]) (by first | (show blkC N__law_real_holds (defScope s__law_real_holds) _ _ = true; decide +kernel) | rfl)) (fun _ _ _ _ _ => (pgx_name (i := 10) sc.nd)) (fun _ _ _ _ _ => pbs_nil) (fun _ _ _ _ _ => (px_mul (px_var (pv 6)) (px_var (pv 10))))) pas_nil)))
  (pssx_one (psx_ret (px_callC c__law_same hr tkF (pas_cons (px_callC c_turned_counts hr tkF (pas_cons (px_var (pv 1)) (pas_cons (px_var (pv 2)) (pas_cons (px_var (pv 3)) (pas_cons (px_var (pv 9)) pas_nil))))) (pas_cons (px_lc rfl sc.nd (pix_seq (px_ix (px_var (pv 7)) px_int)) (blkOk_by (own := [("_law_one", 10)]) (by first | (show blkC N__law_real_holds (defScope s__law_real_holds) _ _ = true; decide +kernel) | rfl)) (fun _ _ _ _ _ => (pgx_name (i := 10) sc.nd)) (fun _ _ _ _ _ => pbs_nil) (fun _ _ _ _ _ => (px_mul (px_mul (px_var (pv 6)) (px_var (pv 6))) (px_var (pv 10))))) pas_nil))))))))))))
theorem ok__law_pick (B : Blt mg) (Z : Exs P w K mg base cm) (c__law_draw : CIO P w K mg base cm "_law_draw" 2 ["_law_hand_here", "_law_many"] F__law_draw) (F : Fun K "_law_pick" "_law_pick" s__law_pick f fd) : FnOk P w K mg base (L2.CX P w) 3 f fd ["_law_hand_here", "_law_things"] (spIO ⟨K, cm⟩ 2 F__law_pick) := by
  rw [F__law_pick_eq]
  exact (have sc := sc__law_pick
  fnIO_ok (body := B__law_pick) (N := N__law_pick) (ps := ["_law_hand_here", "_law_things"]) F sc (by decide) fun cdv A outer s H E a hr =>
  (pssx_one (psx_ret (px_ix (px_var (pv 1)) (px_callI 0 c__law_draw hr tkF (pv 0) (pas_cons (px_len B.b_len (pas_cons (px_var (pv 1)) pas_nil)) pas_nil))))))
theorem ok__law_agrees (B : Blt mg) (Z : Exs P w K mg base cm) (c__law_same : CF P w K mg base cm "_law_same" 2 ["_law_told", "_law_due"] F__law_same) (F : Fun K "_law_agrees" "_law_agrees" s__law_agrees f fd) : FnOk P w K mg base (L2.CX P w) 3 f fd ["_law_told", "_law_due"] (spF ⟨K, cm⟩ 2 F__law_agrees) := by
  rw [F__law_agrees_eq]
  exact (have sc := sc__law_agrees
  fn_ok (body := B__law_agrees) (N := N__law_agrees) (ps := ["_law_told", "_law_due"]) F sc (by decide) fun cdv A outer s H E hr =>
  (pssx_cons (psx_if (pb_eq hr (px_ix (px_var (pv 1)) px_int) px_str) (pssx_one (psx_ret (px_eq hr (px_var (pv 0)) (px_var (pv 1))))) pssx_nil)
  (pssx_one (psx_ret (px_and (px_eq hr (px_ix (px_var (pv 0)) px_int) px_str) (px_one (px_callC c__law_same hr tkF (pas_cons (px_ix (px_var (pv 0)) px_int) (pas_cons (px_ix (px_var (pv 1)) px_int) pas_nil)))))))))
theorem ok__law_completed (B : Blt mg) (Z : Exs P w K mg base cm) (c__law_power : CF P w K mg base cm "_law_power" 1 ["_law_base", "_law_times"] F__law_power) (c__law_at : CF P w K mg base cm "_law_at" 1 ["_law_rows", "_law_a", "_law_b"] F__law_at) (F : Fun K "_law_completed" "_law_completed" s__law_completed f fd) : FnOk P w K mg base (L2.CX P w) 2 f fd ["_law_q", "_law_m", "_law_n", "_law_size", "_law_first", "_law_rows"] (spF ⟨K, cm⟩ 6 F__law_completed) := by
  rw [F__law_completed_eq]
  exact (have sc := sc__law_completed
  fn_ok (body := B__law_completed) (N := N__law_completed) (ps := ["_law_q", "_law_m", "_law_n", "_law_size", "_law_first", "_law_rows"]) F sc (by decide) fun cdv A outer s H E hr =>
  (pssx_cons (psx_set (i := 6) sc.nd (px_list B.b_list (pas_cons (px_var (pv 4)) pas_nil)))
  (pssx_cons (psx_for [7, 8, 9, 10, 11] hpF rfl (pix_rng2 B.b_range (pas_cons (px_len B.b_len (pas_cons (px_var (pv 4)) pas_nil)) (pas_cons (px_add (px_var (pv 2)) px_int) pas_nil)) (many_cons (many_cons many_nil))) (pgx_name (i := 7) sc.nd) (pssx_cons (psx_set (i := 8) sc.nd (px_sub (px_var (pv 2)) (px_var (pv 7))))
  (pssx_cons (psx_set (i := 9) sc.nd (px_mul (px_var (pv 3)) (px_ix (px_ix (px_var (pv 5)) (px_var (pv 2))) (px_var (pv 8)))))
  (pssx_cons (psx_set (i := 10) sc.nd (px_callC c__law_power hr tkF (pas_cons (px_var (pv 0)) (pas_cons (px_mul (px_var (pv 1)) (px_var (pv 8))) pas_nil))))
  (pssx_cons (psx_set (i := 11) sc.nd (px_sumA rfl B.b_sum (pas_cons (px_lc rfl sc.nd (pix_rng1 B.b_range (pas_cons (px_var (pv 7)) pas_nil) (many_cons many_nil)) (blkOk_by (own := [("_law_i", 12)]) (by first | (show blkC N__law_completed (defScope s__law_completed) _ _ = true; decide +kernel) | rfl)) (fun _ _ _ _ _ => (pgx_name (i := 12) sc.nd)) (fun _ _ _ _ _ => pbs_nil) (fun _ _ _ _ _ => (px_mul (px_ix (px_var (pv 6)) (px_var (pv 12))) (px_callC c__law_at hr takes0 (pas_cons (px_var (pv 5)) (pas_cons (px_sub (px_var (pv 2)) (px_var (pv 12))) (pas_cons (px_var (pv 8)) pas_nil))))))) pas_nil)))
  (pssx_cons (psx_if (PBW.pb (pb_or (pb_ne hr (px_mod (px_int1 B.b_int (pas_cons (px_var (pv 9)) pas_nil)) (px_var (pv 10))) px_int) (pb_or1 (pb_lt (px_div (px_var (pv 9)) (px_var (pv 10))) (px_var (pv 11)))))) (pssx_one (psx_ret (px_tup (pas_cons px_str (pas_cons (px_var (pv 7)) pas_nil))))) pssx_nil)
  (pssx_one (psx_expr (px_app (k := 6) (pv 6) (px_sub (px_div (px_var (pv 9)) (px_var (pv 10))) (px_var (pv 11))) (pe_bm PySem.F.plainAttrs_list PySem.F.slot_list_append PySem.F.type_list_append mt_append (pv 6) (pa_cons (PX.pe (px_sub (px_div (px_var (pv 9)) (px_var (pv 10))) (px_var (pv 11)))) pa_nil)))))))))))
  (pssx_one (psx_ret (px_tup (pas_cons px_str (pas_cons (px_var (pv 6)) pas_nil))))))))
theorem ok__law_completed_told (B : Blt mg) (Z : Exs P w K mg base cm) (c_completed_counts : CF P w K mg base cm "completed_counts" 4 ["prime", "degree", "columns", "size", "first"] F_completed_counts) (F : Fun K "_law_completed_told" "_law_completed_told" s__law_completed_told f fd) : FnOk P w K mg base (L2.CX P w) 5 f fd ["_law_q", "_law_m", "_law_n", "_law_size", "_law_first"] (spF ⟨K, cm⟩ 5 F__law_completed_told) := by
  rw [F__law_completed_told_eq]
  exact (have sc := sc__law_completed_told
  fn_ok (body := B__law_completed_told) (N := N__law_completed_told) (ps := ["_law_q", "_law_m", "_law_n", "_law_size", "_law_first"]) F sc (by decide) fun cdv A outer s H E hr =>
  (pssx_cons (psx_try Z.S tkF (fun W1 pn1 xe1 t1 p1 => (pssx_one (psx_set (i := 5) sc.nd (px_callC c_completed_counts hr t1 (pas_cons (px_var (pv 0)) (pas_cons (px_var (pv 1)) (pas_cons (px_var (pv 2)) (pas_cons (px_var (pv 3)) (pas_cons (px_var (pv 4)) pas_nil))))))))) (.consN sc.nd rfl rfl rfl ⟨rfl, by decide, .inl Z.m_BadSizes⟩ (fun _ _ _ _ _ hz hf => (pssx_one (psx_ret (px_tup (pas_cons px_str (pas_cons (px_xf Z.t_0 hz hf (pv 6)) pas_nil)))))) (.consN sc.nd rfl rfl rfl ⟨rfl, by decide, .inl Z.m_BadCounts⟩ (fun _ _ _ _ _ hz hf => (pssx_one (psx_ret (px_tup (pas_cons px_str (pas_cons (px_xf Z.t_1 hz hf (pv 6)) pas_nil)))))) (.consN sc.nd rfl rfl rfl ⟨rfl, by decide, .inl Z.m_NoLot⟩ (fun _ _ _ _ _ hz hf => (pssx_one (psx_ret (px_tup (pas_cons px_str (pas_cons (px_xf Z.t_2 hz hf (pv 6)) pas_nil)))))) .nil))))
  (pssx_one (psx_ret (px_tup (pas_cons px_str (pas_cons (px_var (pv 5)) pas_nil)))))))
theorem ok__law_turned (B : Blt mg) (Z : Exs P w K mg base cm) (c__law_power : CF P w K mg base cm "_law_power" 1 ["_law_base", "_law_times"] F__law_power) (c__law_spread : CF P w K mg base cm "_law_spread" 2 ["_law_n", "_law_counts", "_law_u", "_law_rows"] F__law_spread) (c__law_known : CF P w K mg base cm "_law_known" 2 ["_law_n", "_law_told", "_law_u", "_law_rows"] F__law_known) (F : Fun K "_law_turned" "_law_turned" s__law_turned f fd) : FnOk P w K mg base (L2.CX P w) 3 f fd ["_law_q", "_law_m", "_law_n", "_law_couples", "_law_rows"] (spF ⟨K, cm⟩ 5 F__law_turned) := by
  rw [F__law_turned_eq]
  exact (have sc := sc__law_turned
  fn_ok (body := B__law_turned) (N := N__law_turned) (ps := ["_law_q", "_law_m", "_law_n", "_law_couples", "_law_rows"]) F sc (by decide) fun cdv A outer s H E hr =>
  (pssx_cons (psx_set (i := 5) sc.nd (px_lst pas_nil))
  (pssx_cons (psx_for [6, 7] hpF rfl (pix_rng1 B.b_range (pas_cons (px_add (px_var (pv 2)) px_int) pas_nil) (many_cons many_nil)) (pgx_name (i := 6) sc.nd) (pssx_cons (psx_set (i := 7) sc.nd (px_mul (px_callC c__law_power hr tkF (pas_cons (px_var (pv 0)) (pas_cons (px_mul (px_var (pv 1)) (px_var (pv 6))) pas_nil))) (px_callC c__law_spread hr tkF (pas_cons (px_var (pv 2)) (pas_cons (px_var (pv 3)) (pas_cons (px_var (pv 6)) (pas_cons (px_var (pv 4)) pas_nil)))))))
  (pssx_one (psx_expr (px_app (k := 5) (pv 5) (px_sub (px_var (pv 7)) (px_callC c__law_known hr tkF (pas_cons (px_var (pv 2)) (pas_cons (px_var (pv 5)) (pas_cons (px_var (pv 6)) (pas_cons (px_var (pv 4)) pas_nil)))))) (pe_bm PySem.F.plainAttrs_list PySem.F.slot_list_append PySem.F.type_list_append mt_append (pv 5) (pa_cons (PX.pe (px_sub (px_var (pv 7)) (px_callC c__law_known hr tkF (pas_cons (px_var (pv 2)) (pas_cons (px_var (pv 5)) (pas_cons (px_var (pv 6)) (pas_cons (px_var (pv 4)) pas_nil))))))) pa_nil)))))))
  (pssx_one (psx_ret (px_var (pv 5)))))))
theorem ok__law_free_holds (B : Blt mg) (Z : Exs P w K mg base cm) (c__law_draw : CIO P w K mg base cm "_law_draw" 2 ["_law_hand_here", "_law_many"] F__law_draw) (c__law_pick : CIO P w K mg base cm "_law_pick" 3 ["_law_hand_here", "_law_things"] F__law_pick) (c__law_power : CF P w K mg base cm "_law_power" 1 ["_law_base", "_law_times"] F__law_power) (c__law_agrees : CF P w K mg base cm "_law_agrees" 3 ["_law_told", "_law_due"] F__law_agrees) (c__law_completed : CF P w K mg base cm "_law_completed" 2 ["_law_q", "_law_m", "_law_n", "_law_size", "_law_first", "_law_rows"] F__law_completed) (c__law_completed_told : CF P w K mg base cm "_law_completed_told" 5 ["_law_q", "_law_m", "_law_n", "_law_size", "_law_first"] F__law_completed_told) (c__law_same : CF P w K mg base cm "_law_same" 2 ["_law_told", "_law_due"] F__law_same) (c__law_turned : CF P w K mg base cm "_law_turned" 3 ["_law_q", "_law_m", "_law_n", "_law_couples", "_law_rows"] F__law_turned) (c_turned_counts : CF P w K mg base cm "turned_counts" 4 ["prime", "degree", "columns", "couples"] F_turned_counts) (F : Fun K "_law_free_holds" "_law_free_holds" s__law_free_holds f fd) : FnOk P w K mg base (L2.CX P w) 6 f fd ["_law_hand_here", "_law_q", "_law_m", "_law_n", "_law_rows"] (spIO ⟨K, cm⟩ 5 F__law_free_holds) := by
  rw [F__law_free_holds_eq]
  exact (have sc := sc__law_free_holds
  fnIO_ok (body := B__law_free_holds) (N := N__law_free_holds) (ps := ["_law_hand_here", "_law_q", "_law_m", "_law_n", "_law_rows"]) F sc (by decide) fun cdv A outer s H E a hr =>
  (pssx_cons (psx_set (i := 5) sc.nd (px_add (px_lst (pas_cons px_int pas_nil)) (px_lc rfl sc.nd (pix_rng1 B.b_range (pas_cons (px_callI 0 c__law_draw hr tkF (pv 0) (pas_cons (px_add (px_var (pv 3)) px_int) pas_nil)) pas_nil) (many_cons many_nil)) (blkOk_by (own := [("_law_k", 13)]) (by first | (show blkC N__law_free_holds (defScope s__law_free_holds) _ _ = true; decide +kernel) | rfl)) (fun _ _ _ _ _ => (pgx_name (i := 13) sc.nd)) (fun _ _ _ _ _ => pbs_nil) (fun _ _ _ _ _ => (px_callI 0 c__law_draw hr takes0 (pv 0) (pas_cons (px_callI 0 c__law_pick hr takes0 (pv 0) (pas_cons (px_lst (pas_cons px_int (pas_cons px_int (pas_cons px_int pas_nil)))) pas_nil)) pas_nil))))))
  (pssx_cons (psx_set (i := 6) sc.nd (px_add px_int (px_callI 0 c__law_draw hr tkF (pv 0) (pas_cons (px_callC c__law_power hr tkF (pas_cons (px_var (pv 1)) (pas_cons (px_mul (px_var (pv 2)) (px_var (pv 3))) pas_nil))) pas_nil))))
  (pssx_cons (psx_if (pb_eq hr (px_callI 0 c__law_draw hr tkF (pv 0) (pas_cons px_int pas_nil)) px_int) (pssx_cons (psx_set (i := 6) sc.nd (px_mul (px_callC c__law_power hr tkF (pas_cons (px_var (pv 1)) (pas_cons (px_mul (px_var (pv 2)) (px_callI 0 c__law_draw hr tkF (pv 0) (pas_cons (px_add (px_var (pv 3)) px_int) pas_nil))) pas_nil))) (px_add px_int (px_callI 0 c__law_draw hr tkF (pv 0) (pas_cons (px_sub (px_var (pv 1)) px_int) pas_nil)))))
  (pssx_one (psx_set (i := 6) sc.nd (px_min2 rfl B.b_min (pas_cons (px_var (pv 6)) (pas_cons (px_callC c__law_power hr tkF (pas_cons (px_var (pv 1)) (pas_cons (px_mul (px_var (pv 2)) (px_var (pv 3))) pas_nil))) pas_nil)))))) pssx_nil)
  (pssx_cons (psx_if (pb_not (pb_x (px_callC c__law_agrees hr tkF (pas_cons (px_callC c__law_completed_told hr tkF (pas_cons (px_var (pv 1)) (pas_cons (px_var (pv 2)) (pas_cons (px_var (pv 3)) (pas_cons (px_var (pv 6)) (pas_cons (px_var (pv 5)) pas_nil)))))) (pas_cons (px_callC c__law_completed hr tkF (pas_cons (px_var (pv 1)) (pas_cons (px_var (pv 2)) (pas_cons (px_var (pv 3)) (pas_cons (px_var (pv 6)) (pas_cons (px_var (pv 5)) (pas_cons (px_var (pv 4)) pas_nil))))))) pas_nil))))) (pssx_one (psx_ret px_bl)) pssx_nil)
  (pssx_cons (psx_set (i := 7) sc.nd (px_add px_int (px_callI 0 c__law_draw hr tkF (pv 0) (pas_cons px_int pas_nil))))
  (pssx_cons (psx_set (i := 8) sc.nd (px_sub (px_mul (px_var (pv 7)) (px_var (pv 7))) (px_var (pv 7))))
  (pssx_cons (psx_set (i := 9) sc.nd (px_add (px_lst (pas_cons (px_var (pv 7)) pas_nil)) (px_mul (px_lst (pas_cons px_int pas_nil)) (px_var (pv 3)))))
  (pssx_cons (psx_for [10, 11, 12] hpF rfl (pix_rng1 B.b_range (pas_cons px_int pas_nil) (many_cons many_nil)) (pgx_name (i := 10) sc.nd) (pssx_cons (psx_set (i := 11) sc.nd (px_add px_int (px_callI 0 c__law_draw hr tkF (pv 0) (pas_cons (px_var (pv 3)) pas_nil))))
  (pssx_cons (psx_set (i := 12) sc.nd (px_if (pb_lt (px_var (pv 10)) px_int) (px_callI 0 c__law_draw hr tkF (pv 0) (pas_cons (px_add (px_var (pv 8)) px_int) pas_nil)) (px_var (pv 8))))
  (pssx_cons (psx_setI (k := 9) (px_add (px_ix (px_var (pv 9)) (px_var (pv 11))) (px_var (pv 12))) (px_var (pv 11)) (ps_asg (PX.pe (px_add (px_ix (px_var (pv 9)) (px_var (pv 11))) (px_var (pv 12)))) (pg_sub (pv 9) (PX.pe (px_var (pv 11))) set_list)))
  (pssx_one (psx_set (i := 8) sc.nd (px_sub (px_var (pv 8)) (px_var (pv 12)))))))))
  (pssx_one (psx_ret (px_callC c__law_same hr tkF (pas_cons (px_callC c_turned_counts hr tkF (pas_cons (px_var (pv 1)) (pas_cons (px_var (pv 2)) (pas_cons (px_var (pv 3)) (pas_cons (px_var (pv 9)) pas_nil))))) (pas_cons (px_callC c__law_turned hr tkF (pas_cons (px_var (pv 1)) (pas_cons (px_var (pv 2)) (pas_cons (px_var (pv 3)) (pas_cons (px_var (pv 9)) (pas_cons (px_var (pv 4)) pas_nil)))))) pas_nil))))))))))))))
theorem ok__law_odd (B : Blt mg) (Z : Exs P w K mg base cm) (c__law_draw : CIO P w K mg base cm "_law_draw" 2 ["_law_hand_here", "_law_many"] F__law_draw) (F : Fun K "_law_odd" "_law_odd" s__law_odd f fd) : FnOk P w K mg base (L2.CX P w) 3 f fd ["_law_hand_here", "_law_low", "_law_high"] (spIO ⟨K, cm⟩ 3 F__law_odd) := by
  rw [F__law_odd_eq]
  exact (have sc := sc__law_odd
  fnIO_ok (body := B__law_odd) (N := N__law_odd) (ps := ["_law_hand_here", "_law_low", "_law_high"]) F sc (by decide) fun cdv A outer s H E a hr =>
  (pssx_cons (psx_set (i := 3) sc.nd (px_callI 0 c__law_draw hr tkF (pv 0) (pas_cons (px_pow px_int px_int) pas_nil)))
  (pssx_cons (psx_set (i := 4) sc.nd (px_callI 0 c__law_draw hr tkF (pv 0) (pas_cons px_int pas_nil)))
  (pssx_cons (psx_if (pb_eq hr (px_var (pv 4)) px_int) (pssx_one (psx_ret (px_sub (px_var (pv 1)) px_int))) pssx_nil)
  (pssx_cons (psx_if (pb_eq hr (px_var (pv 4)) px_int) (pssx_one (psx_ret (px_add (px_var (pv 2)) px_int))) pssx_nil)
  (pssx_cons (psx_if (pb_eq hr (px_var (pv 4)) px_int) (pssx_one (psx_ret (px_sub (px_sub (px_var (pv 1)) px_int) (px_var (pv 3))))) pssx_nil)
  (pssx_cons (psx_if (pb_eq hr (px_var (pv 4)) px_int) (pssx_one (psx_ret (px_add (px_add (px_var (pv 2)) px_int) (px_var (pv 3))))) pssx_nil)
  (pssx_cons (psx_if (pb_eq hr (px_var (pv 4)) px_int) (pssx_one (psx_ret px_bl)) pssx_nil)
  (pssx_cons (psx_if (pb_eq hr (px_var (pv 4)) px_int) (pssx_one (psx_ret px_non)) pssx_nil)
  (pssx_cons (psx_if (pb_eq hr (px_var (pv 4)) px_int) (pssx_one (psx_ret (px_str1 B.b_str (pas_cons (px_var (pv 1)) pas_nil)))) pssx_nil)
  (pssx_one (psx_ret (px_lst (pas_cons (px_var (pv 1)) pas_nil))))))))))))))
theorem ok__law_odd_row (B : Blt mg) (Z : Exs P w K mg base cm) (c__law_draw : CIO P w K mg base cm "_law_draw" 2 ["_law_hand_here", "_law_many"] F__law_draw) (c__law_pick : CIO P w K mg base cm "_law_pick" 3 ["_law_hand_here", "_law_things"] F__law_pick) (F : Fun K "_law_odd_row" "_law_odd_row" s__law_odd_row f fd) : FnOk P w K mg base (L2.CX P w) 4 f fd ["_law_hand_here", "_law_n", "_law_row"] (spIO ⟨K, cm⟩ 3 F__law_odd_row) := by
  rw [F__law_odd_row_eq]
  exact (have sc := sc__law_odd_row
  fnIO_ok (body := B__law_odd_row) (N := N__law_odd_row) (ps := ["_law_hand_here", "_law_n", "_law_row"]) F sc (by decide) fun cdv A outer s H E a hr =>
  (pssx_cons (psx_set (i := 3) sc.nd (px_callI 0 c__law_draw hr tkF (pv 0) (pas_cons (px_len B.b_len (pas_cons (px_var (pv 2)) pas_nil)) pas_nil)))
  (pssx_cons (psx_set (i := 4) sc.nd (px_callI 0 c__law_draw hr tkF (pv 0) (pas_cons px_int pas_nil)))
  (pssx_cons (psx_if (pb_eq hr (px_var (pv 4)) px_int) (pssx_one (psx_ret (px_add (px_var (pv 2)) (px_mul (px_lst (pas_cons px_int pas_nil)) (px_sub (px_add (px_var (pv 1)) px_int) (px_len B.b_len (pas_cons (px_var (pv 2)) pas_nil))))))) pssx_nil)
  (pssx_cons (psx_if (pb_eq hr (px_var (pv 4)) px_int) (pssx_one (psx_ret (px_callI 0 c__law_pick hr tkF (pv 0) (pas_cons (px_lst (pas_cons (px_tup pas_nil) (pas_cons px_non (pas_cons px_str pas_nil)))) pas_nil)))) pssx_nil)
  (pssx_one (psx_ret (px_add (px_add (px_slice (px_var (pv 2)) pp_none (pp_some (px_var (pv 3)))) (px_lst (pas_cons (px_callI 0 c__law_pick hr tkF (pv 0) (pas_cons (px_lst (pas_cons (px_neg px_int) (pas_cons px_bl (pas_cons px_non pas_nil)))) pas_nil)) pas_nil))) (px_slice (px_var (pv 2)) (pp_some (px_add (px_var (pv 3)) px_int)) pp_none)))))))))
theorem ok__law_turned_told (B : Blt mg) (Z : Exs P w K mg base cm) (c_turned_counts : CF P w K mg base cm "turned_counts" 4 ["prime", "degree", "columns", "couples"] F_turned_counts) (F : Fun K "_law_turned_told" "_law_turned_told" s__law_turned_told f fd) : FnOk P w K mg base (L2.CX P w) 5 f fd ["_law_q", "_law_m", "_law_n", "_law_couples"] (spF ⟨K, cm⟩ 4 F__law_turned_told) := by
  rw [F__law_turned_told_eq]
  exact (have sc := sc__law_turned_told
  fn_ok (body := B__law_turned_told) (N := N__law_turned_told) (ps := ["_law_q", "_law_m", "_law_n", "_law_couples"]) F sc (by decide) fun cdv A outer s H E hr =>
  (pssx_cons (psx_try Z.S tkF (fun W1 pn1 xe1 t1 p1 => (pssx_one (psx_set (i := 4) sc.nd (px_callC c_turned_counts hr t1 (pas_cons (px_var (pv 0)) (pas_cons (px_var (pv 1)) (pas_cons (px_var (pv 2)) (pas_cons (px_var (pv 3)) pas_nil)))))))) (.consN sc.nd rfl rfl rfl ⟨rfl, by decide, .inl Z.m_BadSizes⟩ (fun _ _ _ _ _ hz hf => (pssx_one (psx_ret (px_tup (pas_cons px_str (pas_cons (px_xf Z.t_0 hz hf (pv 5)) pas_nil)))))) (.consN sc.nd rfl rfl rfl ⟨rfl, by decide, .inl Z.m_BadCounts⟩ (fun _ _ _ _ _ hz hf => (pssx_one (psx_ret (px_tup (pas_cons px_str (pas_cons (px_xf Z.t_1 hz hf (pv 5)) pas_nil)))))) .nil)))
  (pssx_one (psx_ret (px_tup (pas_cons px_str (pas_cons (px_var (pv 4)) pas_nil)))))))
theorem ok__law_refusals_hold (B : Blt mg) (Z : Exs P w K mg base cm) (c__law_draw : CIO P w K mg base cm "_law_draw" 2 ["_law_hand_here", "_law_many"] F__law_draw) (c__law_power : CF P w K mg base cm "_law_power" 1 ["_law_base", "_law_times"] F__law_power) (c__law_odd : CIO P w K mg base cm "_law_odd" 3 ["_law_hand_here", "_law_low", "_law_high"] F__law_odd) (c__law_pick : CIO P w K mg base cm "_law_pick" 3 ["_law_hand_here", "_law_things"] F__law_pick) (c__law_odd_row : CIO P w K mg base cm "_law_odd_row" 4 ["_law_hand_here", "_law_n", "_law_row"] F__law_odd_row) (c__law_completed_told : CF P w K mg base cm "_law_completed_told" 5 ["_law_q", "_law_m", "_law_n", "_law_size", "_law_first"] F__law_completed_told) (c__law_turned_told : CF P w K mg base cm "_law_turned_told" 5 ["_law_q", "_law_m", "_law_n", "_law_couples"] F__law_turned_told) (F : Fun K "_law_refusals_hold" "_law_refusals_hold" s__law_refusals_hold f fd) : FnOk P w K mg base (L2.CX P w) 6 f fd ["_law_hand_here", "_law_q", "_law_m", "_law_n"] (spIO ⟨K, cm⟩ 4 F__law_refusals_hold) := by
  rw [F__law_refusals_hold_eq]
  exact (have sc := sc__law_refusals_hold
  fnIO_ok (body := B__law_refusals_hold) (N := N__law_refusals_hold) (ps := ["_law_hand_here", "_law_q", "_law_m", "_law_n"]) F sc (by decide) fun cdv A outer s H E a hr =>
  (pssx_cons (psx_set (i := 4) sc.nd (px_callI 0 c__law_draw hr tkF (pv 0) (pas_cons px_int pas_nil)))
  (pssx_cons (psx_set (i := 5) sc.nd (px_callC c__law_power hr tkF (pas_cons (px_var (pv 1)) (pas_cons (px_mul (px_var (pv 2)) (px_var (pv 3))) pas_nil))))
  (pssx_cons (psx_set (i := 6) sc.nd (px_lst (pas_cons (px_callI 0 c__law_odd hr tkF (pv 0) (pas_cons px_int (pas_cons px_int pas_nil))) (pas_cons (px_callI 0 c__law_odd hr tkF (pv 0) (pas_cons px_int (pas_cons px_int pas_nil))) (pas_cons (px_callI 0 c__law_odd hr tkF (pv 0) (pas_cons px_int (pas_cons px_int pas_nil))) (pas_cons (px_callI 0 c__law_odd hr tkF (pv 0) (pas_cons px_int (pas_cons (px_var (pv 5)) pas_nil))) pas_nil))))))
  (pssx_cons (psx_set (i := 7) sc.nd (px_lst (pas_cons (px_var (pv 1)) (pas_cons (px_var (pv 2)) (pas_cons (px_var (pv 3)) (pas_cons (px_callI 0 c__law_pick hr tkF (pv 0) (pas_cons (px_lst (pas_cons px_int (pas_cons (px_var (pv 5)) pas_nil))) pas_nil)) pas_nil))))))
  (pssx_cons (psx_setLc (i := 8) rfl sc.nd (pix_rng1 B.b_range (pas_cons px_int pas_nil) (many_cons many_nil)) (blkOk_by (own := [("_law_k", 17)]) (by first | (show blkC N__law_refusals_hold (defScope s__law_refusals_hold) _ _ = true; decide +kernel) | rfl)) (fun _ _ _ _ _ => (pgx_name (i := 17) sc.nd)) (fun _ _ _ _ _ => pbs_nil) (fun _ _ _ _ _ => (px_if (pb_eq hr (px_band (px_shr (px_var (pv 4)) (px_var (pv 17))) px_int) px_int) (px_ix (px_var (pv 6)) (px_var (pv 17))) (px_ix (px_var (pv 7)) (px_var (pv 17))))))
  (pssx_cons (psx_set (i := 9) sc.nd (px_add (px_lst (pas_cons (px_callI 0 c__law_pick hr tkF (pv 0) (pas_cons (px_lst (pas_cons px_int (pas_cons (px_add px_int (px_callI 0 c__law_draw hr tkF (pv 0) (pas_cons px_int pas_nil))) pas_nil))) pas_nil)) pas_nil)) (px_mul (px_lst (pas_cons px_int pas_nil)) (px_callI 0 c__law_draw hr tkF (pv 0) (pas_cons (px_add (px_var (pv 3)) px_int) pas_nil)))))
  (pssx_cons (psx_set (i := 10) sc.nd px_str)
  (pssx_cons (psx_if (pb_eq hr (px_band (px_shr (px_var (pv 4)) px_int) px_int) px_int) (pssx_cons (psx_set (i := 9) sc.nd (px_callI 0 c__law_odd_row hr tkF (pv 0) (pas_cons (px_var (pv 3)) (pas_cons (px_var (pv 9)) pas_nil))))
  (pssx_one (psx_set (i := 10) sc.nd px_str))) pssx_nil)
  (pssx_cons (psx_setLc (i := 11) rfl sc.nd (pix_rng1 B.b_range (pas_cons px_int pas_nil) (many_cons many_nil)) (blkOk_by (own := [("_law_k", 17)]) (by first | (show blkC N__law_refusals_hold (defScope s__law_refusals_hold) _ _ = true; decide +kernel) | rfl)) (fun _ _ _ _ _ => (pgx_name (i := 17) sc.nd)) (fun _ _ _ _ _ => (pbs_one (pb_eq hr (px_band (px_shr (px_var (pv 4)) (px_var (pv 17))) px_int) px_int))) (fun _ _ _ _ _ => (px_var (pv 17))))
  (pssx_cons (psx_set (i := 12) sc.nd (px_lst (pas_cons px_str (pas_cons px_str (pas_cons px_str (pas_cons px_str pas_nil))))))
  (pssx_cons (psx_set (i := 13) sc.nd (px_if (pb_x (px_var (pv 11))) (px_tup (pas_cons px_str (pas_cons (px_ix (px_var (pv 12)) (px_ix (px_var (pv 11)) px_int)) pas_nil))) (px_tup (pas_cons px_str (pas_cons (px_var (pv 10)) pas_nil)))))
  (pssx_cons (psx_if (pb_ne hr (px_callC c__law_completed_told hr tkF (pas_cons (px_ix (px_var (pv 8)) px_int) (pas_cons (px_ix (px_var (pv 8)) px_int) (pas_cons (px_ix (px_var (pv 8)) px_int) (pas_cons (px_ix (px_var (pv 8)) px_int) (pas_cons (px_var (pv 9)) pas_nil)))))) (px_var (pv 13))) (pssx_one (psx_ret px_bl)) pssx_nil)
  (pssx_cons (psx_set (i := 14) sc.nd (px_add px_int (px_callI 0 c__law_draw hr tkF (pv 0) (pas_cons px_int pas_nil))))
  (pssx_cons (psx_set (i := 15) sc.nd (px_add (px_lst (pas_cons (px_var (pv 14)) (pas_cons (px_sub (px_mul (px_var (pv 14)) (px_var (pv 14))) (px_var (pv 14))) pas_nil))) (px_mul (px_lst (pas_cons px_int pas_nil)) (px_sub (px_var (pv 3)) px_int))))
  (pssx_cons (psx_set (i := 16) sc.nd (px_callI 0 c__law_draw hr tkF (pv 0) (pas_cons px_int pas_nil)))
  (pssx_cons (psx_if (pb_eq hr (px_var (pv 16)) px_int) (pssx_one (psx_par (i := 15) (j := 10) rfl sc.nd (pas_cons (px_add (px_mul (px_lst (pas_cons px_int pas_nil)) (px_var (pv 3))) (px_lst (pas_cons (px_callI 0 c__law_draw hr tkF (pv 0) (pas_cons px_int pas_nil)) pas_nil))) (pas_cons px_str pas_nil)))) (pssx_one (psx_if (pb_eq hr (px_var (pv 16)) px_int) (pssx_one (psx_par (i := 15) (j := 10) rfl sc.nd (pas_cons (px_add (px_lst (pas_cons (px_var (pv 14)) (pas_cons (px_add (px_sub (px_mul (px_var (pv 14)) (px_var (pv 14))) (px_var (pv 14))) px_int) pas_nil))) (px_mul (px_lst (pas_cons px_int pas_nil)) (px_sub (px_var (pv 3)) px_int))) (pas_cons px_str pas_nil)))) (pssx_one (psx_par (i := 15) (j := 10) rfl sc.nd (pas_cons (px_callI 0 c__law_odd_row hr tkF (pv 0) (pas_cons (px_var (pv 3)) (pas_cons (px_var (pv 15)) pas_nil))) (pas_cons px_str pas_nil)))))))
  (pssx_cons (psx_set (i := 13) sc.nd (px_if (PBW.pb (pb_and (pb_x (px_var (pv 11))) (pb_and1 (pb_lt (px_ix (px_var (pv 11)) px_int) px_int)))) (px_tup (pas_cons px_str (pas_cons (px_ix (px_var (pv 12)) (px_ix (px_var (pv 11)) px_int)) pas_nil))) (px_tup (pas_cons px_str (pas_cons (px_var (pv 10)) pas_nil)))))
  (pssx_one (psx_ret (px_eq hr (px_callC c__law_turned_told hr tkF (pas_cons (px_ix (px_var (pv 8)) px_int) (pas_cons (px_ix (px_var (pv 8)) px_int) (pas_cons (px_ix (px_var (pv 8)) px_int) (pas_cons (px_var (pv 15)) pas_nil))))) (px_var (pv 13)))))))))))))))))))))))
theorem ok_law (B : Blt mg) (Z : Exs P w K mg base cm) (c__law_hand : CF P w K mg base cm "_law_hand" 1 ["_law_script"] F__law_hand) (c__law_draw : CIO P w K mg base cm "_law_draw" 2 ["_law_hand_here", "_law_many"] F__law_draw) (c__law_gauss : CF P w K mg base cm "_law_gauss" 2 ["_law_q", "_law_most"] F__law_gauss) (c__law_real_holds : CIO P w K mg base cm "_law_real_holds" 5 ["_law_hand_here", "_law_q", "_law_m", "_law_n", "_law_rows"] F__law_real_holds) (c__law_free_holds : CIO P w K mg base cm "_law_free_holds" 6 ["_law_hand_here", "_law_q", "_law_m", "_law_n", "_law_rows"] F__law_free_holds) (c__law_same : CF P w K mg base cm "_law_same" 2 ["_law_told", "_law_due"] F__law_same) (c_completed_counts : CF P w K mg base cm "completed_counts" 4 ["prime", "degree", "columns", "size", "first"] F_completed_counts) (c__law_refusals_hold : CIO P w K mg base cm "_law_refusals_hold" 6 ["_law_hand_here", "_law_q", "_law_m", "_law_n"] F__law_refusals_hold) (F : Fun K "law" "law" s_law f fd) : FnOk P w K mg base (L2.CX P w) 7 f fd ["_law_script"] (spF ⟨K, cm⟩ 1 F_law) := by
  rw [F_law_eq]
  exact (have sc := sc_law
  fn_ok (body := B_law) (N := N_law) (ps := ["_law_script"]) F sc (by decide) fun cdv A outer s H E hr =>
  (pssx_cons (psx_set (i := 1) sc.nd (px_callC c__law_hand hr tkF (pas_cons (px_var (pv 0)) pas_nil)))
  (pssx_cons (psx_set (i := 2) sc.nd (px_add px_int (px_callI 1 c__law_draw hr tkF (pv 1) (pas_cons px_int pas_nil))))
  (pssx_cons (psx_set (i := 3) sc.nd (px_add px_int (px_callI 1 c__law_draw hr tkF (pv 1) (pas_cons px_int pas_nil))))
  (pssx_cons (psx_set (i := 4) sc.nd (px_add px_int (px_callI 1 c__law_draw hr tkF (pv 1) (pas_cons px_int pas_nil))))
  (pssx_cons (psx_set (i := 5) sc.nd (px_callC c__law_gauss hr tkF (pas_cons (px_var (pv 2)) (pas_cons px_int pas_nil))))
  (pssx_cons (psx_if (PBW.pb (pb_or (pb_not (pb_x (px_callI 1 c__law_real_holds hr tkF (pv 1) (pas_cons (px_var (pv 2)) (pas_cons (px_var (pv 3)) (pas_cons (px_var (pv 4)) (pas_cons (px_var (pv 5)) pas_nil))))))) (pb_or1 (pb_not (pb_x (px_callI 1 c__law_free_holds hr tkF (pv 1) (pas_cons (px_var (pv 2)) (pas_cons (px_var (pv 3)) (pas_cons (px_var (pv 4)) (pas_cons (px_var (pv 5)) pas_nil)))))))))) (pssx_one (psx_ret px_bl)) pssx_nil)
  (pssx_cons (psx_set (i := 6) sc.nd (px_add (px_lst (pas_cons px_int pas_nil)) (px_lc rfl sc.nd (pix_rng1 B.b_range (pas_cons (px_var (pv 4)) pas_nil) (many_cons many_nil)) (blkOk_by (own := [("_law_k", 7)]) (by first | (show blkC N_law (defScope s_law) _ _ = true; decide +kernel) | rfl)) (fun _ _ _ _ _ => (pgx_name (i := 7) sc.nd)) (fun _ _ _ _ _ => pbs_nil) (fun _ _ _ _ _ => (px_callI 1 c__law_draw hr takes0 (pv 1) (pas_cons (px_pow px_int px_int) pas_nil))))))
  (pssx_cons (psx_if (pb_not (pb_x (px_callC c__law_same hr tkF (pas_cons (px_callC c_completed_counts hr tkF (pas_cons (px_var (pv 2)) (pas_cons (px_var (pv 3)) (pas_cons (px_var (pv 4)) (pas_cons (px_add px_int (px_callI 1 c__law_draw hr tkF (pv 1) (pas_cons px_int pas_nil))) (pas_cons (px_tuple B.b_tuple (pas_cons (px_var (pv 6)) pas_nil)) pas_nil)))))) (pas_cons (px_var (pv 6)) pas_nil))))) (pssx_one (psx_ret px_bl)) pssx_nil)
  (pssx_one (psx_ret (px_callI 1 c__law_refusals_hold hr tkF (pv 1) (pas_cons (px_var (pv 2)) (pas_cons (px_var (pv 3)) (pas_cons (px_var (pv 4)) pas_nil)))))))))))))))
theorem all_mk {h : Heap} {fa : Addr} (X : K.In h) (G : h.Ns mainGlobals mg) (hfa : mg "law" = some (.ref fa))
    {C0 C1 C2 f0 f1 f2 f3 f4 f5 f6 f7 f8 f9 f10 f11 f12 f13 f14 T14 f15 f16 f17 f18 f19 f20 f21 f22 f23 f24 f25 f26 f27 f28 f29 f30 f31 f32 f33 f34 f35 RR fI0 fI1 fI2 : Addr} {od0 an0 od1 an1 od2 an2 od3 an3 od4 an4 od5 an5 od6 an6 od7 an7 od8 an8 od9 an9 od10 an10 od11 an11 od12 an12 od13 an13 td14 od14 an14 od15 an15 od16 an16 od17 an17 od18 an18 od19 an19 od20 an20 od21 an21 od22 an22 od23 an23 od24 an24 od25 an25 od26 an26 od27 an27 od28 an28 od29 an29 od30 an30 od31 an31 od32 an32 od33 an33 od34 an34 od35 an35 odI0 anI0 odI1 anI1 odI2 anI2 : Option Addr} {sl0 sl1 sl2 sl3 sl4 sl5 sl6 sl7 sl8 sl9 sl10 sl11 sl12 sl13 ts14 sl14 sl15 sl16 sl17 sl18 sl19 sl20 sl21 sl22 sl23 sl24 sl25 sl26 sl27 sl28 sl29 sl30 sl31 sl32 sl33 sl34 sl35 slI0 slI1 slI2 : Array (Option Value)} {oc0 kV0 dc0 pm0 cd0 ct0 oc1 kV1 dc1 pm1 cd1 ct1 oc2 kV2 dc2 pm2 cd2 ct2 oc3 kV3 dc3 pm3 cd3 ct3 oc4 kV4 dc4 pm4 cd4 ct4 oc5 kV5 dc5 pm5 cd5 ct5 oc6 kV6 dc6 pm6 cd6 ct6 oc7 kV7 dc7 pm7 cd7 ct7 oc8 kV8 dc8 pm8 cd8 ct8 oc9 kV9 dc9 pm9 cd9 ct9 oc10 kV10 dc10 pm10 cd10 ct10 oc11 kV11 dc11 pm11 cd11 ct11 oc12 kV12 dc12 pm12 cd12 ct12 oc13 kV13 dc13 pm13 cd13 ct13 tc14 oc14 kV14 dc14 pm14 cd14 ct14 oc15 kV15 dc15 pm15 cd15 ct15 oc16 kV16 dc16 pm16 cd16 ct16 oc17 kV17 dc17 pm17 cd17 ct17 oc18 kV18 dc18 pm18 cd18 ct18 oc19 kV19 dc19 pm19 cd19 ct19 oc20 kV20 dc20 pm20 cd20 ct20 oc21 kV21 dc21 pm21 cd21 ct21 oc22 kV22 dc22 pm22 cd22 ct22 oc23 kV23 dc23 pm23 cd23 ct23 oc24 kV24 dc24 pm24 cd24 ct24 oc25 kV25 dc25 pm25 cd25 ct25 oc26 kV26 dc26 pm26 cd26 ct26 oc27 kV27 dc27 pm27 cd27 ct27 oc28 kV28 dc28 pm28 cd28 ct28 oc29 kV29 dc29 pm29 cd29 ct29 oc30 kV30 dc30 pm30 cd30 ct30 oc31 kV31 dc31 pm31 cd31 ct31 oc32 kV32 dc32 pm32 cd32 ct32 oc33 kV33 dc33 pm33 cd33 ct33 oc34 kV34 dc34 pm34 cd34 ct34 oc35 kV35 dc35 pm35 cd35 ct35 ocI0 kVI0 dcI0 pmI0 cdI0 ctI0 ocI1 kVI1 dcI1 pmI1 cdI1 ctI1 ocI2 kVI2 dcI2 pmI2 cdI2 ctI2 : Value} {tn14 gt_MOST_SIDE : Nat}
    (aC0 : PySem.W.nsIn K mainGlobals "BadSizes" = some (some (.ref C0)))
    (aC1 : PySem.W.nsIn K mainGlobals "BadCounts" = some (some (.ref C1)))
    (aC2 : PySem.W.nsIn K mainGlobals "NoLot" = some (some (.ref C2)))
    (a0 : PySem.W.nsIn K mainGlobals "_law_hand" = some (some (.ref f0))) (l0 : K.lookup f0 = some ⟨oc0, od0, .func (PySem.W.fnOf "_law_hand" "_law_hand" (defArgs s__law_hand) (defBody s__law_hand) (defScope s__law_hand) .none kV0 dc0 pm0 an0 cd0 ct0), sl0⟩) (e0 : PySem.W.codeIn K cd0 "_law_hand" = true) (k0 : PySem.W.keepIn K (.ref f0) = true)
    (a1 : PySem.W.nsIn K mainGlobals "_law_mixed" = some (some (.ref f1))) (l1 : K.lookup f1 = some ⟨oc1, od1, .func (PySem.W.fnOf "_law_mixed" "_law_mixed" (defArgs s__law_mixed) (defBody s__law_mixed) (defScope s__law_mixed) .none kV1 dc1 pm1 an1 cd1 ct1), sl1⟩) (e1 : PySem.W.codeIn K cd1 "_law_mixed" = true) (k1 : PySem.W.keepIn K (.ref f1) = true)
    (a2 : PySem.W.nsIn K mainGlobals "_law_draw" = some (some (.ref f2))) (l2 : K.lookup f2 = some ⟨oc2, od2, .func (PySem.W.fnOf "_law_draw" "_law_draw" (defArgs s__law_draw) (defBody s__law_draw) (defScope s__law_draw) .none kV2 dc2 pm2 an2 cd2 ct2), sl2⟩) (e2 : PySem.W.codeIn K cd2 "_law_draw" = true) (k2 : PySem.W.keepIn K (.ref f2) = true)
    (a3 : PySem.W.nsIn K mainGlobals "_law_power" = some (some (.ref f3))) (l3 : K.lookup f3 = some ⟨oc3, od3, .func (PySem.W.fnOf "_law_power" "_law_power" (defArgs s__law_power) (defBody s__law_power) (defScope s__law_power) .none kV3 dc3 pm3 an3 cd3 ct3), sl3⟩) (e3 : PySem.W.codeIn K cd3 "_law_power" = true) (k3 : PySem.W.keepIn K (.ref f3) = true)
    (a4 : PySem.W.nsIn K mainGlobals "_law_gauss" = some (some (.ref f4))) (l4 : K.lookup f4 = some ⟨oc4, od4, .func (PySem.W.fnOf "_law_gauss" "_law_gauss" (defArgs s__law_gauss) (defBody s__law_gauss) (defScope s__law_gauss) .none kV4 dc4 pm4 an4 cd4 ct4), sl4⟩) (e4 : PySem.W.codeIn K cd4 "_law_gauss" = true) (k4 : PySem.W.keepIn K (.ref f4) = true)
    (a5 : PySem.W.nsIn K mainGlobals "_law_met" = some (some (.ref f5))) (l5 : K.lookup f5 = some ⟨oc5, od5, .func (PySem.W.fnOf "_law_met" "_law_met" (defArgs s__law_met) (defBody s__law_met) (defScope s__law_met) .none kV5 dc5 pm5 an5 cd5 ct5), sl5⟩) (e5 : PySem.W.codeIn K cd5 "_law_met" = true) (k5 : PySem.W.keepIn K (.ref f5) = true)
    (a6 : PySem.W.nsIn K mainGlobals "_law_at" = some (some (.ref f6))) (l6 : K.lookup f6 = some ⟨oc6, od6, .func (PySem.W.fnOf "_law_at" "_law_at" (defArgs s__law_at) (defBody s__law_at) (defScope s__law_at) .none kV6 dc6 pm6 an6 cd6 ct6), sl6⟩) (e6 : PySem.W.codeIn K cd6 "_law_at" = true) (k6 : PySem.W.keepIn K (.ref f6) = true)
    (a7 : PySem.W.nsIn K mainGlobals "_law_tables" = some (some (.ref f7))) (l7 : K.lookup f7 = some ⟨oc7, od7, .func (PySem.W.fnOf "_law_tables" "_law_tables" (defArgs s__law_tables) (defBody s__law_tables) (defScope s__law_tables) .none kV7 dc7 pm7 an7 cd7 ct7), sl7⟩) (e7 : PySem.W.codeIn K cd7 "_law_tables" = true) (k7 : PySem.W.keepIn K (.ref f7) = true)
    (a8 : PySem.W.nsIn K mainGlobals "_law_real" = some (some (.ref f8))) (l8 : K.lookup f8 = some ⟨oc8, od8, .func (PySem.W.fnOf "_law_real" "_law_real" (defArgs s__law_real) (defBody s__law_real) (defScope s__law_real) .none kV8 dc8 pm8 an8 cd8 ct8), sl8⟩) (e8 : PySem.W.codeIn K cd8 "_law_real" = true) (k8 : PySem.W.keepIn K (.ref f8) = true)
    (a9 : PySem.W.nsIn K mainGlobals "_law_spread" = some (some (.ref f9))) (l9 : K.lookup f9 = some ⟨oc9, od9, .func (PySem.W.fnOf "_law_spread" "_law_spread" (defArgs s__law_spread) (defBody s__law_spread) (defScope s__law_spread) .none kV9 dc9 pm9 an9 cd9 ct9), sl9⟩) (e9 : PySem.W.codeIn K cd9 "_law_spread" = true) (k9 : PySem.W.keepIn K (.ref f9) = true)
    (a10 : PySem.W.nsIn K mainGlobals "_law_known" = some (some (.ref f10))) (l10 : K.lookup f10 = some ⟨oc10, od10, .func (PySem.W.fnOf "_law_known" "_law_known" (defArgs s__law_known) (defBody s__law_known) (defScope s__law_known) .none kV10 dc10 pm10 an10 cd10 ct10), sl10⟩) (e10 : PySem.W.codeIn K cd10 "_law_known" = true) (k10 : PySem.W.keepIn K (.ref f10) = true)
    (a11 : PySem.W.nsIn K mainGlobals "_law_rest" = some (some (.ref f11))) (l11 : K.lookup f11 = some ⟨oc11, od11, .func (PySem.W.fnOf "_law_rest" "_law_rest" (defArgs s__law_rest) (defBody s__law_rest) (defScope s__law_rest) .none kV11 dc11 pm11 an11 cd11 ct11), sl11⟩) (e11 : PySem.W.codeIn K cd11 "_law_rest" = true) (k11 : PySem.W.keepIn K (.ref f11) = true)
    (a12 : PySem.W.nsIn K mainGlobals "_law_whole" = some (some (.ref f12))) (l12 : K.lookup f12 = some ⟨oc12, od12, .func (PySem.W.fnOf "_law_whole" "_law_whole" (defArgs s__law_whole) (defBody s__law_whole) (defScope s__law_whole) .none kV12 dc12 pm12 an12 cd12 ct12), sl12⟩) (e12 : PySem.W.codeIn K cd12 "_law_whole" = true) (k12 : PySem.W.keepIn K (.ref f12) = true)
    (a13 : PySem.W.nsIn K mainGlobals "_law_same" = some (some (.ref f13))) (l13 : K.lookup f13 = some ⟨oc13, od13, .func (PySem.W.fnOf "_law_same" "_law_same" (defArgs s__law_same) (defBody s__law_same) (defScope s__law_same) .none kV13 dc13 pm13 an13 cd13 ct13), sl13⟩) (e13 : PySem.W.codeIn K cd13 "_law_same" = true) (k13 : PySem.W.keepIn K (.ref f13) = true)
    (a14 : PySem.W.nsIn K mainGlobals "is_whole" = some (some (.ref f14))) (l14 : K.lookup f14 = some ⟨oc14, od14, .func (PySem.W.fnOf "is_whole" "is_whole" (defArgs s_is_whole) (defBody s_is_whole) (defScope s_is_whole) (.ref T14) kV14 dc14 pm14 an14 cd14 ct14), sl14⟩) (t14 : K.lookup T14 = some ⟨tc14, td14, .seq #[.none, .none] tn14, ts14⟩) (e14 : PySem.W.codeIn K cd14 "is_whole" = true) (k14 : PySem.W.keepIn K (.ref f14) = true)
    (a15 : PySem.W.nsIn K mainGlobals "check_sizes" = some (some (.ref f15))) (l15 : K.lookup f15 = some ⟨oc15, od15, .func (PySem.W.fnOf "check_sizes" "check_sizes" (defArgs s_check_sizes) (defBody s_check_sizes) (defScope s_check_sizes) .none kV15 dc15 pm15 an15 cd15 ct15), sl15⟩) (e15 : PySem.W.codeIn K cd15 "check_sizes" = true) (k15 : PySem.W.keepIn K (.ref f15) = true)
    (a16 : PySem.W.nsIn K mainGlobals "power_of" = some (some (.ref f16))) (l16 : K.lookup f16 = some ⟨oc16, od16, .func (PySem.W.fnOf "power_of" "power_of" (defArgs s_power_of) (defBody s_power_of) (defScope s_power_of) .none kV16 dc16 pm16 an16 cd16 ct16), sl16⟩) (e16 : PySem.W.codeIn K cd16 "power_of" = true) (k16 : PySem.W.keepIn K (.ref f16) = true)
    (a17 : PySem.W.nsIn K mainGlobals "is_sequence" = some (some (.ref f17))) (l17 : K.lookup f17 = some ⟨oc17, od17, .func (PySem.W.fnOf "is_sequence" "is_sequence" (defArgs s_is_sequence) (defBody s_is_sequence) (defScope s_is_sequence) .none kV17 dc17 pm17 an17 cd17 ct17), sl17⟩) (e17 : PySem.W.codeIn K cd17 "is_sequence" = true) (k17 : PySem.W.keepIn K (.ref f17) = true)
    (a18 : PySem.W.nsIn K mainGlobals "is_counts" = some (some (.ref f18))) (l18 : K.lookup f18 = some ⟨oc18, od18, .func (PySem.W.fnOf "is_counts" "is_counts" (defArgs s_is_counts) (defBody s_is_counts) (defScope s_is_counts) .none kV18 dc18 pm18 an18 cd18 ct18), sl18⟩) (e18 : PySem.W.codeIn K cd18 "is_counts" = true) (k18 : PySem.W.keepIn K (.ref f18) = true)
    (a19 : PySem.W.nsIn K mainGlobals "space_count" = some (some (.ref f19))) (l19 : K.lookup f19 = some ⟨oc19, od19, .func (PySem.W.fnOf "space_count" "space_count" (defArgs s_space_count) (defBody s_space_count) (defScope s_space_count) .none kV19 dc19 pm19 an19 cd19 ct19), sl19⟩) (e19 : PySem.W.codeIn K cd19 "space_count" = true) (k19 : PySem.W.keepIn K (.ref f19) = true)
    (a20 : PySem.W.nsIn K mainGlobals "completed_counts" = some (some (.ref f20))) (l20 : K.lookup f20 = some ⟨oc20, od20, .func (PySem.W.fnOf "completed_counts" "completed_counts" (defArgs s_completed_counts) (defBody s_completed_counts) (defScope s_completed_counts) .none kV20 dc20 pm20 an20 cd20 ct20), sl20⟩) (e20 : PySem.W.codeIn K cd20 "completed_counts" = true) (k20 : PySem.W.keepIn K (.ref f20) = true)
    (a21 : PySem.W.nsIn K mainGlobals "spread_sum" = some (some (.ref f21))) (l21 : K.lookup f21 = some ⟨oc21, od21, .func (PySem.W.fnOf "spread_sum" "spread_sum" (defArgs s_spread_sum) (defBody s_spread_sum) (defScope s_spread_sum) .none kV21 dc21 pm21 an21 cd21 ct21), sl21⟩) (e21 : PySem.W.codeIn K cd21 "spread_sum" = true) (k21 : PySem.W.keepIn K (.ref f21) = true)
    (a22 : PySem.W.nsIn K mainGlobals "known_part" = some (some (.ref f22))) (l22 : K.lookup f22 = some ⟨oc22, od22, .func (PySem.W.fnOf "known_part" "known_part" (defArgs s_known_part) (defBody s_known_part) (defScope s_known_part) .none kV22 dc22 pm22 an22 cd22 ct22), sl22⟩) (e22 : PySem.W.codeIn K cd22 "known_part" = true) (k22 : PySem.W.keepIn K (.ref f22) = true)
    (a23 : PySem.W.nsIn K mainGlobals "turned_counts" = some (some (.ref f23))) (l23 : K.lookup f23 = some ⟨oc23, od23, .func (PySem.W.fnOf "turned_counts" "turned_counts" (defArgs s_turned_counts) (defBody s_turned_counts) (defScope s_turned_counts) .none kV23 dc23 pm23 an23 cd23 ct23), sl23⟩) (e23 : PySem.W.codeIn K cd23 "turned_counts" = true) (k23 : PySem.W.keepIn K (.ref f23) = true)
    (a24 : PySem.W.nsIn K mainGlobals "_law_real_holds" = some (some (.ref f24))) (l24 : K.lookup f24 = some ⟨oc24, od24, .func (PySem.W.fnOf "_law_real_holds" "_law_real_holds" (defArgs s__law_real_holds) (defBody s__law_real_holds) (defScope s__law_real_holds) .none kV24 dc24 pm24 an24 cd24 ct24), sl24⟩) (e24 : PySem.W.codeIn K cd24 "_law_real_holds" = true) (k24 : PySem.W.keepIn K (.ref f24) = true)
    (a25 : PySem.W.nsIn K mainGlobals "_law_pick" = some (some (.ref f25))) (l25 : K.lookup f25 = some ⟨oc25, od25, .func (PySem.W.fnOf "_law_pick" "_law_pick" (defArgs s__law_pick) (defBody s__law_pick) (defScope s__law_pick) .none kV25 dc25 pm25 an25 cd25 ct25), sl25⟩) (e25 : PySem.W.codeIn K cd25 "_law_pick" = true) (k25 : PySem.W.keepIn K (.ref f25) = true)
    (a26 : PySem.W.nsIn K mainGlobals "_law_agrees" = some (some (.ref f26))) (l26 : K.lookup f26 = some ⟨oc26, od26, .func (PySem.W.fnOf "_law_agrees" "_law_agrees" (defArgs s__law_agrees) (defBody s__law_agrees) (defScope s__law_agrees) .none kV26 dc26 pm26 an26 cd26 ct26), sl26⟩) (e26 : PySem.W.codeIn K cd26 "_law_agrees" = true) (k26 : PySem.W.keepIn K (.ref f26) = true)
    (a27 : PySem.W.nsIn K mainGlobals "_law_completed" = some (some (.ref f27))) (l27 : K.lookup f27 = some ⟨oc27, od27, .func (PySem.W.fnOf "_law_completed" "_law_completed" (defArgs s__law_completed) (defBody s__law_completed) (defScope s__law_completed) .none kV27 dc27 pm27 an27 cd27 ct27), sl27⟩) (e27 : PySem.W.codeIn K cd27 "_law_completed" = true) (k27 : PySem.W.keepIn K (.ref f27) = true)
    (a28 : PySem.W.nsIn K mainGlobals "_law_completed_told" = some (some (.ref f28))) (l28 : K.lookup f28 = some ⟨oc28, od28, .func (PySem.W.fnOf "_law_completed_told" "_law_completed_told" (defArgs s__law_completed_told) (defBody s__law_completed_told) (defScope s__law_completed_told) .none kV28 dc28 pm28 an28 cd28 ct28), sl28⟩) (e28 : PySem.W.codeIn K cd28 "_law_completed_told" = true) (k28 : PySem.W.keepIn K (.ref f28) = true)
    (a29 : PySem.W.nsIn K mainGlobals "_law_turned" = some (some (.ref f29))) (l29 : K.lookup f29 = some ⟨oc29, od29, .func (PySem.W.fnOf "_law_turned" "_law_turned" (defArgs s__law_turned) (defBody s__law_turned) (defScope s__law_turned) .none kV29 dc29 pm29 an29 cd29 ct29), sl29⟩) (e29 : PySem.W.codeIn K cd29 "_law_turned" = true) (k29 : PySem.W.keepIn K (.ref f29) = true)
    (a30 : PySem.W.nsIn K mainGlobals "_law_free_holds" = some (some (.ref f30))) (l30 : K.lookup f30 = some ⟨oc30, od30, .func (PySem.W.fnOf "_law_free_holds" "_law_free_holds" (defArgs s__law_free_holds) (defBody s__law_free_holds) (defScope s__law_free_holds) .none kV30 dc30 pm30 an30 cd30 ct30), sl30⟩) (e30 : PySem.W.codeIn K cd30 "_law_free_holds" = true) (k30 : PySem.W.keepIn K (.ref f30) = true)
    (a31 : PySem.W.nsIn K mainGlobals "_law_odd" = some (some (.ref f31))) (l31 : K.lookup f31 = some ⟨oc31, od31, .func (PySem.W.fnOf "_law_odd" "_law_odd" (defArgs s__law_odd) (defBody s__law_odd) (defScope s__law_odd) .none kV31 dc31 pm31 an31 cd31 ct31), sl31⟩) (e31 : PySem.W.codeIn K cd31 "_law_odd" = true) (k31 : PySem.W.keepIn K (.ref f31) = true)
    (a32 : PySem.W.nsIn K mainGlobals "_law_odd_row" = some (some (.ref f32))) (l32 : K.lookup f32 = some ⟨oc32, od32, .func (PySem.W.fnOf "_law_odd_row" "_law_odd_row" (defArgs s__law_odd_row) (defBody s__law_odd_row) (defScope s__law_odd_row) .none kV32 dc32 pm32 an32 cd32 ct32), sl32⟩) (e32 : PySem.W.codeIn K cd32 "_law_odd_row" = true) (k32 : PySem.W.keepIn K (.ref f32) = true)
    (a33 : PySem.W.nsIn K mainGlobals "_law_turned_told" = some (some (.ref f33))) (l33 : K.lookup f33 = some ⟨oc33, od33, .func (PySem.W.fnOf "_law_turned_told" "_law_turned_told" (defArgs s__law_turned_told) (defBody s__law_turned_told) (defScope s__law_turned_told) .none kV33 dc33 pm33 an33 cd33 ct33), sl33⟩) (e33 : PySem.W.codeIn K cd33 "_law_turned_told" = true) (k33 : PySem.W.keepIn K (.ref f33) = true)
    (a34 : PySem.W.nsIn K mainGlobals "_law_refusals_hold" = some (some (.ref f34))) (l34 : K.lookup f34 = some ⟨oc34, od34, .func (PySem.W.fnOf "_law_refusals_hold" "_law_refusals_hold" (defArgs s__law_refusals_hold) (defBody s__law_refusals_hold) (defScope s__law_refusals_hold) .none kV34 dc34 pm34 an34 cd34 ct34), sl34⟩) (e34 : PySem.W.codeIn K cd34 "_law_refusals_hold" = true) (k34 : PySem.W.keepIn K (.ref f34) = true)
    (a35 : PySem.W.nsIn K mainGlobals "law" = some (some (.ref f35))) (l35 : K.lookup f35 = some ⟨oc35, od35, .func (PySem.W.fnOf "law" "law" (defArgs s_law) (defBody s_law) (defScope s_law) .none kV35 dc35 pm35 an35 cd35 ct35), sl35⟩) (e35 : PySem.W.codeIn K cd35 "law" = true) (k35 : PySem.W.keepIn K (.ref f35) = true)
    (aRR : PySem.W.nsIn K mainGlobals "RankError" = some (some (.ref RR)))
    (rR : rbB K RR = true) (cR : PySem.W.findCls K (.ref RR) (.type "type") "__init__" = some (.val (.builtin "ValueError.__init__")))
    (iI0 : PySem.W.findIn K (.ref C0) "__init__" = some (some (.ref fI0))) (lI0 : K.lookup fI0 = some ⟨ocI0, odI0, .func (PySem.W.fnOf "__init__" "BadSizes.__init__" (defArgs sI_BadSizes) (defBody sI_BadSizes) (defScope sI_BadSizes) .none kVI0 dcI0 pmI0 anI0 cdI0 ctI0), slI0⟩) (eI0 : PySem.W.codeIn K cdI0 "BadSizes.__init__" = true) (kI0 : PySem.W.keepIn K (.ref fI0) = true) (xI0 : ecB K C0 fI0 ["what"] = true)
    (iI1 : PySem.W.findIn K (.ref C1) "__init__" = some (some (.ref fI1))) (lI1 : K.lookup fI1 = some ⟨ocI1, odI1, .func (PySem.W.fnOf "__init__" "BadCounts.__init__" (defArgs sI_BadCounts) (defBody sI_BadCounts) (defScope sI_BadCounts) .none kVI1 dcI1 pmI1 anI1 cdI1 ctI1), slI1⟩) (eI1 : PySem.W.codeIn K cdI1 "BadCounts.__init__" = true) (kI1 : PySem.W.keepIn K (.ref fI1) = true) (xI1 : ecB K C1 fI1 ["what"] = true)
    (iI2 : PySem.W.findIn K (.ref C2) "__init__" = some (some (.ref fI2))) (lI2 : K.lookup fI2 = some ⟨ocI2, odI2, .func (PySem.W.fnOf "__init__" "NoLot.__init__" (defArgs sI_NoLot) (defBody sI_NoLot) (defScope sI_NoLot) .none kVI2 dcI2 pmI2 anI2 cdI2 ctI2), slI2⟩) (eI2 : PySem.W.codeIn K cdI2 "NoLot.__init__" = true) (kI2 : PySem.W.keepIn K (.ref fI2) = true) (xI2 : ecB K C2 fI2 ["rank"] = true)
    (y_BadSizes_BadSizes : PySem.W.exmOne K (.ref C0) (.ref C0) = some true)
    (y_BadSizes_BadCounts : PySem.W.exmOne K (.ref C0) (.ref C1) = some false)
    (y_BadSizes_NoLot : PySem.W.exmOne K (.ref C0) (.ref C2) = some false)
    (y_BadCounts_BadSizes : PySem.W.exmOne K (.ref C1) (.ref C0) = some false)
    (y_BadCounts_BadCounts : PySem.W.exmOne K (.ref C1) (.ref C1) = some true)
    (y_BadCounts_NoLot : PySem.W.exmOne K (.ref C1) (.ref C2) = some false)
    (y_NoLot_BadSizes : PySem.W.exmOne K (.ref C2) (.ref C0) = some false)
    (y_NoLot_BadCounts : PySem.W.exmOne K (.ref C2) (.ref C1) = some false)
    (y_NoLot_NoLot : PySem.W.exmOne K (.ref C2) (.ref C2) = some true)
    (z_abs : PySem.W.nsIn K mainGlobals "abs" = some none)
    (z_all : PySem.W.nsIn K mainGlobals "all" = some none)
    (z_bool : PySem.W.nsIn K mainGlobals "bool" = some none)
    (z_int : PySem.W.nsIn K mainGlobals "int" = some none)
    (z_isinstance : PySem.W.nsIn K mainGlobals "isinstance" = some none)
    (z_len : PySem.W.nsIn K mainGlobals "len" = some none)
    (z_list : PySem.W.nsIn K mainGlobals "list" = some none)
    (z_max : PySem.W.nsIn K mainGlobals "max" = some none)
    (z_min : PySem.W.nsIn K mainGlobals "min" = some none)
    (z_range : PySem.W.nsIn K mainGlobals "range" = some none)
    (z_str : PySem.W.nsIn K mainGlobals "str" = some none)
    (z_sum : PySem.W.nsIn K mainGlobals "sum" = some none)
    (z_tuple : PySem.W.nsIn K mainGlobals "tuple" = some none)
    (z_zip : PySem.W.nsIn K mainGlobals "zip" = some none)
    (g_MOST_SIDE : PySem.W.nsIn K mainGlobals "MOST_SIDE" = some (some (.int 12 gt_MOST_SIDE))) :
    ∃ fd : FuncData, (∀ (s : Shared) (v : Value), BindsTo s fd ⟨[v], []⟩ [("_law_script", v)]) ∧ ∀ base : Heap, K.In base → base.Ns mainGlobals mg → FnOk P w K mg base (L2.CX P w) 7 fa fd ["_law_script"] (spL K F_law) := by
  have e := hfa.symm.trans (PySem.W.mg_of X G a35)
  cases e
  have B : Blt mg := ⟨PySem.W.mg_none_of X G z_abs, PySem.W.mg_none_of X G z_all, PySem.W.mg_none_of X G z_bool, PySem.W.mg_none_of X G z_int, PySem.W.mg_none_of X G z_isinstance, PySem.W.mg_none_of X G z_len, PySem.W.mg_none_of X G z_list, PySem.W.mg_none_of X G z_max, PySem.W.mg_none_of X G z_min, PySem.W.mg_none_of X G z_range, PySem.W.mg_none_of X G z_str, PySem.W.mg_none_of X G z_sum, PySem.W.mg_none_of X G z_tuple, PySem.W.mg_none_of X G z_zip, ⟨_, PySem.W.mg_of X G g_MOST_SIDE⟩⟩
  have F0 := fun_mk (st := s__law_hand) l0 e0 k0
  have F1 := fun_mk (st := s__law_mixed) l1 e1 k1
  have F2 := fun_mk (st := s__law_draw) l2 e2 k2
  have F3 := fun_mk (st := s__law_power) l3 e3 k3
  have F4 := fun_mk (st := s__law_gauss) l4 e4 k4
  have F5 := fun_mk (st := s__law_met) l5 e5 k5
  have F6 := fun_mk (st := s__law_at) l6 e6 k6
  have F7 := fun_mk (st := s__law_tables) l7 e7 k7
  have F8 := fun_mk (st := s__law_real) l8 e8 k8
  have F9 := fun_mk (st := s__law_spread) l9 e9 k9
  have F10 := fun_mk (st := s__law_known) l10 e10 k10
  have F11 := fun_mk (st := s__law_rest) l11 e11 k11
  have F12 := fun_mk (st := s__law_whole) l12 e12 k12
  have F13 := fun_mk (st := s__law_same) l13 e13 k13
  have F14 := funD_mk (st := s_is_whole) (dvs := [.non, .non]) (its := [.none, .none]) l14 e14 k14 t14 (by simp) (.cons rfl (.cons rfl (.nil)))
  have F15 := fun_mk (st := s_check_sizes) l15 e15 k15
  have F16 := fun_mk (st := s_power_of) l16 e16 k16
  have F17 := fun_mk (st := s_is_sequence) l17 e17 k17
  have F18 := fun_mk (st := s_is_counts) l18 e18 k18
  have F19 := fun_mk (st := s_space_count) l19 e19 k19
  have F20 := fun_mk (st := s_completed_counts) l20 e20 k20
  have F21 := fun_mk (st := s_spread_sum) l21 e21 k21
  have F22 := fun_mk (st := s_known_part) l22 e22 k22
  have F23 := fun_mk (st := s_turned_counts) l23 e23 k23
  have F24 := fun_mk (st := s__law_real_holds) l24 e24 k24
  have F25 := fun_mk (st := s__law_pick) l25 e25 k25
  have F26 := fun_mk (st := s__law_agrees) l26 e26 k26
  have F27 := fun_mk (st := s__law_completed) l27 e27 k27
  have F28 := fun_mk (st := s__law_completed_told) l28 e28 k28
  have F29 := fun_mk (st := s__law_turned) l29 e29 k29
  have F30 := fun_mk (st := s__law_free_holds) l30 e30 k30
  have F31 := fun_mk (st := s__law_odd) l31 e31 k31
  have F32 := fun_mk (st := s__law_odd_row) l32 e32 k32
  have F33 := fun_mk (st := s__law_turned_told) l33 e33 k33
  have F34 := fun_mk (st := s__law_refusals_hold) l34 e34 k34
  have F35 := fun_mk (st := s_law) l35 e35 k35
  refine ⟨PySem.W.fnOf "law" "law" (defArgs s_law) (defBody s_law) (defScope s_law) .none kV35 dc35 pm35 an35 cd35 ct35, fun s v => .of_eq rfl, fun base _ _ => ?_⟩
  have BR : RB K RR := rbB_ok rR cR
  have hR : mg "RankError" = some (.ref RR) := PySem.W.mg_of X G aRR
  have EI0 := ecB_ok xI0
  have FI0 := fun_mk (st := sI_BadSizes) lI0 eI0 kI0
  have e_BadSizes : EC P w K mg base (fun i => [C0, C1, C2].getD i 0) "BadSizes" cl_BadSizes 1 ["what"] := ⟨_, _, _, EI0.o, EI0.i, EI0.t, okI_BadSizes BR hR EI0 FI0, FI0.binds (ps := ["self", "what"]) fun _ _ _ _ _ _ us hl => match us, hl with | [_, _], _ => rfl, PySem.W.mg_of X G aC0⟩
  have EI1 := ecB_ok xI1
  have FI1 := fun_mk (st := sI_BadCounts) lI1 eI1 kI1
  have e_BadCounts : EC P w K mg base (fun i => [C0, C1, C2].getD i 0) "BadCounts" cl_BadCounts 1 ["what"] := ⟨_, _, _, EI1.o, EI1.i, EI1.t, okI_BadCounts BR hR EI1 FI1, FI1.binds (ps := ["self", "what"]) fun _ _ _ _ _ _ us hl => match us, hl with | [_, _], _ => rfl, PySem.W.mg_of X G aC1⟩
  have EI2 := ecB_ok xI2
  have FI2 := fun_mk (st := sI_NoLot) lI2 eI2 kI2
  have e_NoLot : EC P w K mg base (fun i => [C0, C1, C2].getD i 0) "NoLot" cl_NoLot 1 ["rank"] := ⟨_, _, _, EI2.o, EI2.i, EI2.t, okI_NoLot BR hR EI2 FI2, FI2.binds (ps := ["self", "rank"]) fun _ _ _ _ _ _ us hl => match us, hl with | [_, _], _ => rfl, PySem.W.mg_of X G aC2⟩
  have Z : Exs P w K mg base (fun i => [C0, C1, C2].getD i 0) := ⟨subOf_ok (List.forall_mem_cons.mpr ⟨fun _ h => by cases h; exact y_BadSizes_BadSizes, List.forall_mem_cons.mpr ⟨fun _ h => by cases h; exact y_BadSizes_BadCounts, List.forall_mem_cons.mpr ⟨fun _ h => by cases h; exact y_BadSizes_NoLot, List.forall_mem_cons.mpr ⟨fun _ h => by cases h; exact y_BadCounts_BadSizes, List.forall_mem_cons.mpr ⟨fun _ h => by cases h; exact y_BadCounts_BadCounts, List.forall_mem_cons.mpr ⟨fun _ h => by cases h; exact y_BadCounts_NoLot, List.forall_mem_cons.mpr ⟨fun _ h => by cases h; exact y_NoLot_BadSizes, List.forall_mem_cons.mpr ⟨fun _ h => by cases h; exact y_NoLot_BadCounts, List.forall_mem_cons.mpr ⟨fun _ h => by cases h; exact y_NoLot_NoLot, fun _ h => nomatch h⟩⟩⟩⟩⟩⟩⟩⟩⟩), PySem.W.mg_of X G aC0, PySem.W.mg_of X G aC1, PySem.W.mg_of X G aC2, e_BadSizes, e_BadCounts, e_NoLot, List.forall_mem_cons.mpr ⟨⟨EI0.x, EI0.n _ (by simp)⟩, fun _ h => nomatch h⟩, List.forall_mem_cons.mpr ⟨⟨EI1.x, EI1.n _ (by simp)⟩, fun _ h => nomatch h⟩, List.forall_mem_cons.mpr ⟨⟨EI2.x, EI2.n _ (by simp)⟩, fun _ h => nomatch h⟩⟩
  have c__law_hand : CF P w K mg base (fun i => [C0, C1, C2].getD i 0) "_law_hand" 1 ["_law_script"] F__law_hand := ⟨_, _, ok__law_hand (cm := (fun i => [C0, C1, C2].getD i 0)) B Z  F0, PySem.W.mg_of X G a0, F0.kp, F0.binds (ps := ["_law_script"]) fun _ _ _ _ _ _ us hl => match us, hl with | [_], _ => rfl⟩
  have c__law_mixed : CF P w K mg base (fun i => [C0, C1, C2].getD i 0) "_law_mixed" 1 ["_law_number", "_law_turn"] F__law_mixed := ⟨_, _, ok__law_mixed (cm := (fun i => [C0, C1, C2].getD i 0)) B Z  F1, PySem.W.mg_of X G a1, F1.kp, F1.binds (ps := ["_law_number", "_law_turn"]) fun _ _ _ _ _ _ us hl => match us, hl with | [_, _], _ => rfl⟩
  have c__law_draw : CIO P w K mg base (fun i => [C0, C1, C2].getD i 0) "_law_draw" 2 ["_law_hand_here", "_law_many"] F__law_draw := ⟨_, _, ok__law_draw (cm := (fun i => [C0, C1, C2].getD i 0)) B Z c__law_mixed F2, PySem.W.mg_of X G a2, F2.kp, F2.binds (ps := ["_law_hand_here", "_law_many"]) fun _ _ _ _ _ _ us hl => match us, hl with | [_, _], _ => rfl⟩
  have c__law_power : CF P w K mg base (fun i => [C0, C1, C2].getD i 0) "_law_power" 1 ["_law_base", "_law_times"] F__law_power := ⟨_, _, ok__law_power (cm := (fun i => [C0, C1, C2].getD i 0)) B Z  F3, PySem.W.mg_of X G a3, F3.kp, F3.binds (ps := ["_law_base", "_law_times"]) fun _ _ _ _ _ _ us hl => match us, hl with | [_, _], _ => rfl⟩
  have c__law_gauss : CF P w K mg base (fun i => [C0, C1, C2].getD i 0) "_law_gauss" 2 ["_law_q", "_law_most"] F__law_gauss := ⟨_, _, ok__law_gauss (cm := (fun i => [C0, C1, C2].getD i 0)) B Z c__law_power F4, PySem.W.mg_of X G a4, F4.kp, F4.binds (ps := ["_law_q", "_law_most"]) fun _ _ _ _ _ _ us hl => match us, hl with | [_, _], _ => rfl⟩
  have c__law_met : CF P w K mg base (fun i => [C0, C1, C2].getD i 0) "_law_met" 2 ["_law_q", "_law_m", "_law_n", "_law_d", "_law_rows"] F__law_met := ⟨_, _, ok__law_met (cm := (fun i => [C0, C1, C2].getD i 0)) B Z c__law_power F5, PySem.W.mg_of X G a5, F5.kp, F5.binds (ps := ["_law_q", "_law_m", "_law_n", "_law_d", "_law_rows"]) fun _ _ _ _ _ _ us hl => match us, hl with | [_, _, _, _, _], _ => rfl⟩
  have c__law_at : CF P w K mg base (fun i => [C0, C1, C2].getD i 0) "_law_at" 1 ["_law_rows", "_law_a", "_law_b"] F__law_at := ⟨_, _, ok__law_at (cm := (fun i => [C0, C1, C2].getD i 0)) B Z  F6, PySem.W.mg_of X G a6, F6.kp, F6.binds (ps := ["_law_rows", "_law_a", "_law_b"]) fun _ _ _ _ _ _ us hl => match us, hl with | [_, _, _], _ => rfl⟩
  have c__law_tables : CF P w K mg base (fun i => [C0, C1, C2].getD i 0) "_law_tables" 2 ["_law_q", "_law_tall", "_law_wide", "_law_ranks", "_law_rows"] F__law_tables := ⟨_, _, ok__law_tables (cm := (fun i => [C0, C1, C2].getD i 0)) B Z c__law_at c__law_power F7, PySem.W.mg_of X G a7, F7.kp, F7.binds (ps := ["_law_q", "_law_tall", "_law_wide", "_law_ranks", "_law_rows"]) fun _ _ _ _ _ _ us hl => match us, hl with | [_, _, _, _, _], _ => rfl⟩
  have c__law_real : CIO P w K mg base (fun i => [C0, C1, C2].getD i 0) "_law_real" 3 ["_law_hand_here", "_law_q", "_law_m", "_law_n", "_law_rows"] F__law_real := ⟨_, _, ok__law_real (cm := (fun i => [C0, C1, C2].getD i 0)) B Z c__law_draw c__law_met c__law_tables F8, PySem.W.mg_of X G a8, F8.kp, F8.binds (ps := ["_law_hand_here", "_law_q", "_law_m", "_law_n", "_law_rows"]) fun _ _ _ _ _ _ us hl => match us, hl with | [_, _, _, _, _], _ => rfl⟩
  have c__law_spread : CF P w K mg base (fun i => [C0, C1, C2].getD i 0) "_law_spread" 2 ["_law_n", "_law_counts", "_law_u", "_law_rows"] F__law_spread := ⟨_, _, ok__law_spread (cm := (fun i => [C0, C1, C2].getD i 0)) B Z c__law_at F9, PySem.W.mg_of X G a9, F9.kp, F9.binds (ps := ["_law_n", "_law_counts", "_law_u", "_law_rows"]) fun _ _ _ _ _ _ us hl => match us, hl with | [_, _, _, _], _ => rfl⟩
  have c__law_known : CF P w K mg base (fun i => [C0, C1, C2].getD i 0) "_law_known" 2 ["_law_n", "_law_told", "_law_u", "_law_rows"] F__law_known := ⟨_, _, ok__law_known (cm := (fun i => [C0, C1, C2].getD i 0)) B Z c__law_at F10, PySem.W.mg_of X G a10, F10.kp, F10.binds (ps := ["_law_n", "_law_told", "_law_u", "_law_rows"]) fun _ _ _ _ _ _ us hl => match us, hl with | [_, _, _, _], _ => rfl⟩
  have c__law_rest : CF P w K mg base (fun i => [C0, C1, C2].getD i 0) "_law_rest" 3 ["_law_q", "_law_m", "_law_n", "_law_size", "_law_counts", "_law_rows"] F__law_rest := ⟨_, _, ok__law_rest (cm := (fun i => [C0, C1, C2].getD i 0)) B Z c__law_power c__law_spread c__law_known F11, PySem.W.mg_of X G a11, F11.kp, F11.binds (ps := ["_law_q", "_law_m", "_law_n", "_law_size", "_law_counts", "_law_rows"]) fun _ _ _ _ _ _ us hl => match us, hl with | [_, _, _, _, _, _], _ => rfl⟩
  have c__law_whole : CF P w K mg base (fun i => [C0, C1, C2].getD i 0) "_law_whole" 1 ["_law_thing"] F__law_whole := ⟨_, _, ok__law_whole (cm := (fun i => [C0, C1, C2].getD i 0)) B Z  F12, PySem.W.mg_of X G a12, F12.kp, F12.binds (ps := ["_law_thing"]) fun _ _ _ _ _ _ us hl => match us, hl with | [_], _ => rfl⟩
  have c__law_same : CF P w K mg base (fun i => [C0, C1, C2].getD i 0) "_law_same" 2 ["_law_told", "_law_due"] F__law_same := ⟨_, _, ok__law_same (cm := (fun i => [C0, C1, C2].getD i 0)) B Z c__law_whole F13, PySem.W.mg_of X G a13, F13.kp, F13.binds (ps := ["_law_told", "_law_due"]) fun _ _ _ _ _ _ us hl => match us, hl with | [_, _], _ => rfl⟩
  have c_is_whole_3 : CF P w K mg base (fun i => [C0, C1, C2].getD i 0) "is_whole" 1 ["thing", "low", "high"] F_is_whole := cf_mk (ok_is_whole (cm := (fun i => [C0, C1, C2].getD i 0)) B Z  F14) (PySem.W.mg_of X G a14) F14.kp (F14.binds1 (ps := ["thing", "low", "high"]) 3 2 (by simp) rfl fun _ _ _ _ _ _ _ us its hl hi => match us, its, hl, hi with | [_, _, _], [_, _], _, _ => ⟨_, rfl, rfl⟩)
  have c_is_whole_2 : CFD P w K mg base (fun i => [C0, C1, C2].getD i 0) "is_whole" 1 ["thing", "low", "high"] F_is_whole [.non] := cfd_mk (ok_is_whole (cm := (fun i => [C0, C1, C2].getD i 0)) B Z  F14) (PySem.W.mg_of X G a14) F14.kp (F14.binds1 (ps := ["thing", "low", "high"]) 2 1 (by simp) rfl fun _ _ _ _ _ _ _ us its hl hi => match us, its, hl, hi with | [_, _], [_, _], _, _ => ⟨_, rfl, rfl⟩) fun _ => RpL.cons rp_non (RpL.nil)
  have c_check_sizes : CF P w K mg base (fun i => [C0, C1, C2].getD i 0) "check_sizes" 3 ["prime", "degree", "columns"] F_check_sizes := ⟨_, _, ok_check_sizes (cm := (fun i => [C0, C1, C2].getD i 0)) B Z c_is_whole_3 F15, PySem.W.mg_of X G a15, F15.kp, F15.binds (ps := ["prime", "degree", "columns"]) fun _ _ _ _ _ _ us hl => match us, hl with | [_, _, _], _ => rfl⟩
  have c_power_of : CF P w K mg base (fun i => [C0, C1, C2].getD i 0) "power_of" 1 ["base", "exponent"] F_power_of := ⟨_, _, ok_power_of (cm := (fun i => [C0, C1, C2].getD i 0)) B Z  F16, PySem.W.mg_of X G a16, F16.kp, F16.binds (ps := ["base", "exponent"]) fun _ _ _ _ _ _ us hl => match us, hl with | [_, _], _ => rfl⟩
  have c_is_sequence : CF P w K mg base (fun i => [C0, C1, C2].getD i 0) "is_sequence" 1 ["thing"] F_is_sequence := ⟨_, _, ok_is_sequence (cm := (fun i => [C0, C1, C2].getD i 0)) B Z  F17, PySem.W.mg_of X G a17, F17.kp, F17.binds (ps := ["thing"]) fun _ _ _ _ _ _ us hl => match us, hl with | [_], _ => rfl⟩
  have c_is_counts : CF P w K mg base (fun i => [C0, C1, C2].getD i 0) "is_counts" 2 ["columns", "counts"] F_is_counts := ⟨_, _, ok_is_counts (cm := (fun i => [C0, C1, C2].getD i 0)) B Z c_is_sequence c_is_whole_2 F18, PySem.W.mg_of X G a18, F18.kp, F18.binds (ps := ["columns", "counts"]) fun _ _ _ _ _ _ us hl => match us, hl with | [_, _], _ => rfl⟩
  have c_space_count : CF P w K mg base (fun i => [C0, C1, C2].getD i 0) "space_count" 2 ["prime", "whole", "part"] F_space_count := ⟨_, _, ok_space_count (cm := (fun i => [C0, C1, C2].getD i 0)) B Z c_power_of F19, PySem.W.mg_of X G a19, F19.kp, F19.binds (ps := ["prime", "whole", "part"]) fun _ _ _ _ _ _ us hl => match us, hl with | [_, _, _], _ => rfl⟩
  have c_completed_counts : CF P w K mg base (fun i => [C0, C1, C2].getD i 0) "completed_counts" 4 ["prime", "degree", "columns", "size", "first"] F_completed_counts := ⟨_, _, ok_completed_counts (cm := (fun i => [C0, C1, C2].getD i 0)) B Z c_check_sizes c_power_of c_is_sequence c_is_counts c_space_count c_is_whole_3 F20, PySem.W.mg_of X G a20, F20.kp, F20.binds (ps := ["prime", "degree", "columns", "size", "first"]) fun _ _ _ _ _ _ us hl => match us, hl with | [_, _, _, _, _], _ => rfl⟩
  have c_spread_sum : CF P w K mg base (fun i => [C0, C1, C2].getD i 0) "spread_sum" 3 ["prime", "columns", "counts", "part"] F_spread_sum := ⟨_, _, ok_spread_sum (cm := (fun i => [C0, C1, C2].getD i 0)) B Z c_space_count F21, PySem.W.mg_of X G a21, F21.kp, F21.binds (ps := ["prime", "columns", "counts", "part"]) fun _ _ _ _ _ _ us hl => match us, hl with | [_, _, _, _], _ => rfl⟩
  have c_known_part : CF P w K mg base (fun i => [C0, C1, C2].getD i 0) "known_part" 3 ["prime", "columns", "told", "part"] F_known_part := ⟨_, _, ok_known_part (cm := (fun i => [C0, C1, C2].getD i 0)) B Z c_space_count F22, PySem.W.mg_of X G a22, F22.kp, F22.binds (ps := ["prime", "columns", "told", "part"]) fun _ _ _ _ _ _ us hl => match us, hl with | [_, _, _, _], _ => rfl⟩
  have c_turned_counts : CF P w K mg base (fun i => [C0, C1, C2].getD i 0) "turned_counts" 4 ["prime", "degree", "columns", "couples"] F_turned_counts := ⟨_, _, ok_turned_counts (cm := (fun i => [C0, C1, C2].getD i 0)) B Z c_check_sizes c_is_counts c_power_of c_spread_sum c_known_part F23, PySem.W.mg_of X G a23, F23.kp, F23.binds (ps := ["prime", "degree", "columns", "couples"]) fun _ _ _ _ _ _ us hl => match us, hl with | [_, _, _, _], _ => rfl⟩
  have c__law_real_holds : CIO P w K mg base (fun i => [C0, C1, C2].getD i 0) "_law_real_holds" 5 ["_law_hand_here", "_law_q", "_law_m", "_law_n", "_law_rows"] F__law_real_holds := ⟨_, _, ok__law_real_holds (cm := (fun i => [C0, C1, C2].getD i 0)) B Z c__law_real c__law_rest c__law_same c_completed_counts c_turned_counts F24, PySem.W.mg_of X G a24, F24.kp, F24.binds (ps := ["_law_hand_here", "_law_q", "_law_m", "_law_n", "_law_rows"]) fun _ _ _ _ _ _ us hl => match us, hl with | [_, _, _, _, _], _ => rfl⟩
  have c__law_pick : CIO P w K mg base (fun i => [C0, C1, C2].getD i 0) "_law_pick" 3 ["_law_hand_here", "_law_things"] F__law_pick := ⟨_, _, ok__law_pick (cm := (fun i => [C0, C1, C2].getD i 0)) B Z c__law_draw F25, PySem.W.mg_of X G a25, F25.kp, F25.binds (ps := ["_law_hand_here", "_law_things"]) fun _ _ _ _ _ _ us hl => match us, hl with | [_, _], _ => rfl⟩
  have c__law_agrees : CF P w K mg base (fun i => [C0, C1, C2].getD i 0) "_law_agrees" 3 ["_law_told", "_law_due"] F__law_agrees := ⟨_, _, ok__law_agrees (cm := (fun i => [C0, C1, C2].getD i 0)) B Z c__law_same F26, PySem.W.mg_of X G a26, F26.kp, F26.binds (ps := ["_law_told", "_law_due"]) fun _ _ _ _ _ _ us hl => match us, hl with | [_, _], _ => rfl⟩
  have c__law_completed : CF P w K mg base (fun i => [C0, C1, C2].getD i 0) "_law_completed" 2 ["_law_q", "_law_m", "_law_n", "_law_size", "_law_first", "_law_rows"] F__law_completed := ⟨_, _, ok__law_completed (cm := (fun i => [C0, C1, C2].getD i 0)) B Z c__law_power c__law_at F27, PySem.W.mg_of X G a27, F27.kp, F27.binds (ps := ["_law_q", "_law_m", "_law_n", "_law_size", "_law_first", "_law_rows"]) fun _ _ _ _ _ _ us hl => match us, hl with | [_, _, _, _, _, _], _ => rfl⟩
  have c__law_completed_told : CF P w K mg base (fun i => [C0, C1, C2].getD i 0) "_law_completed_told" 5 ["_law_q", "_law_m", "_law_n", "_law_size", "_law_first"] F__law_completed_told := ⟨_, _, ok__law_completed_told (cm := (fun i => [C0, C1, C2].getD i 0)) B Z c_completed_counts F28, PySem.W.mg_of X G a28, F28.kp, F28.binds (ps := ["_law_q", "_law_m", "_law_n", "_law_size", "_law_first"]) fun _ _ _ _ _ _ us hl => match us, hl with | [_, _, _, _, _], _ => rfl⟩
  have c__law_turned : CF P w K mg base (fun i => [C0, C1, C2].getD i 0) "_law_turned" 3 ["_law_q", "_law_m", "_law_n", "_law_couples", "_law_rows"] F__law_turned := ⟨_, _, ok__law_turned (cm := (fun i => [C0, C1, C2].getD i 0)) B Z c__law_power c__law_spread c__law_known F29, PySem.W.mg_of X G a29, F29.kp, F29.binds (ps := ["_law_q", "_law_m", "_law_n", "_law_couples", "_law_rows"]) fun _ _ _ _ _ _ us hl => match us, hl with | [_, _, _, _, _], _ => rfl⟩
  have c__law_free_holds : CIO P w K mg base (fun i => [C0, C1, C2].getD i 0) "_law_free_holds" 6 ["_law_hand_here", "_law_q", "_law_m", "_law_n", "_law_rows"] F__law_free_holds := ⟨_, _, ok__law_free_holds (cm := (fun i => [C0, C1, C2].getD i 0)) B Z c__law_draw c__law_pick c__law_power c__law_agrees c__law_completed c__law_completed_told c__law_same c__law_turned c_turned_counts F30, PySem.W.mg_of X G a30, F30.kp, F30.binds (ps := ["_law_hand_here", "_law_q", "_law_m", "_law_n", "_law_rows"]) fun _ _ _ _ _ _ us hl => match us, hl with | [_, _, _, _, _], _ => rfl⟩
  have c__law_odd : CIO P w K mg base (fun i => [C0, C1, C2].getD i 0) "_law_odd" 3 ["_law_hand_here", "_law_low", "_law_high"] F__law_odd := ⟨_, _, ok__law_odd (cm := (fun i => [C0, C1, C2].getD i 0)) B Z c__law_draw F31, PySem.W.mg_of X G a31, F31.kp, F31.binds (ps := ["_law_hand_here", "_law_low", "_law_high"]) fun _ _ _ _ _ _ us hl => match us, hl with | [_, _, _], _ => rfl⟩
  have c__law_odd_row : CIO P w K mg base (fun i => [C0, C1, C2].getD i 0) "_law_odd_row" 4 ["_law_hand_here", "_law_n", "_law_row"] F__law_odd_row := ⟨_, _, ok__law_odd_row (cm := (fun i => [C0, C1, C2].getD i 0)) B Z c__law_draw c__law_pick F32, PySem.W.mg_of X G a32, F32.kp, F32.binds (ps := ["_law_hand_here", "_law_n", "_law_row"]) fun _ _ _ _ _ _ us hl => match us, hl with | [_, _, _], _ => rfl⟩
  have c__law_turned_told : CF P w K mg base (fun i => [C0, C1, C2].getD i 0) "_law_turned_told" 5 ["_law_q", "_law_m", "_law_n", "_law_couples"] F__law_turned_told := ⟨_, _, ok__law_turned_told (cm := (fun i => [C0, C1, C2].getD i 0)) B Z c_turned_counts F33, PySem.W.mg_of X G a33, F33.kp, F33.binds (ps := ["_law_q", "_law_m", "_law_n", "_law_couples"]) fun _ _ _ _ _ _ us hl => match us, hl with | [_, _, _, _], _ => rfl⟩
  have c__law_refusals_hold : CIO P w K mg base (fun i => [C0, C1, C2].getD i 0) "_law_refusals_hold" 6 ["_law_hand_here", "_law_q", "_law_m", "_law_n"] F__law_refusals_hold := ⟨_, _, ok__law_refusals_hold (cm := (fun i => [C0, C1, C2].getD i 0)) B Z c__law_draw c__law_power c__law_odd c__law_pick c__law_odd_row c__law_completed_told c__law_turned_told F34, PySem.W.mg_of X G a34, F34.kp, F34.binds (ps := ["_law_hand_here", "_law_q", "_law_m", "_law_n"]) fun _ _ _ _ _ _ us hl => match us, hl with | [_, _, _, _], _ => rfl⟩
  exact fnOk_imp (ok_law (cm := (fun i => [C0, C1, C2].getD i 0)) B Z c__law_hand c__law_draw c__law_gauss c__law_real_holds c__law_free_holds c__law_same c_completed_counts c__law_refusals_hold F35) fun vs H Q E h => h _
end
local macro_rules | `(tactic| simp! only [$xs,*] $[$l:location]?) => `(tactic| simp only [bindR_ok, bindR_ex, a_bind, a_of_some, a_var, a_c, a_bin, a_un, a_test, a_tru, a_cmp, a_and, a_or, a_not, a_if, a_andV, a_orV, a_notV, a_bl, a_nil, a_cons, a_tup, a_lst, a_call, a_callF, a_callIO, a_seq, a_next, a_ret, a_retN, a_drop, a_break, a_cont, a_ifS, a_asg, a_asgG, a_app, a_setI, a_iter, a_rng, a_for, a_slice, a_part0, a_part1, a_lc, a_yes, l_val, l_new, l_slot, f_val, f_new, f_slot, t_val, t_new, t_slot, s_val, s_new, s_slot, a_look2, a_look1, a_fa0, a_fa1, a_la0, a_la1, a_fn1, a_fn2, a_gN, a_gs0, a_gs1, a_gT, a_turn, a_fg0, a_fg1, a_wp0, a_wp1, a_rs0, a_rs1, a_mkF, a_mkIO, a_owL, a_owD, a_tkT, a_tkF, a_apf, a_apb, a_apn, a_aps, e_addI, e_subI, e_mulI, e_divI, e_modI, e_negI, e_lt, e_le, e_gt, e_ge, e_is, e_isnot, a_lift, e_lenL, e_lenT, e_lenS, e_intI, e_intB, e_absI, e_truB, e_truI, e_truN, e_truL, e_truT, e_ixL, e_ixT, e_tupL, e_tupT, e_lstL, e_lstT, e_sum, cEq_int, cNe_int, fin_nx, fin_val, fin_new, fin_slot, fin_ex, finIO_nx, finIO_val, finIO_new, finIO_slot, finIO_ex, entry_eq, entryIO_eq, atI_0, atI_1, atI_2, atI_3, Option.map_some, List.set_cons_zero, List.set_cons_succ, List.getElem?_cons_zero, List.getElem?_cons_succ, List.getElem?_nil, List.getD_cons_zero, List.getD_cons_succ, List.map_cons, List.map_nil, List.length_cons, List.length_nil, List.length_map, List.replicate, List.cons_append, List.nil_append, Nat.reduceAdd, Nat.reduceSub, Nat.reduceLeDiff, Nat.reduceLT, Nat.zero_le, Int.reduceLT, Int.reduceLE, Int.reduceEq, Int.reduceNeg, if_true, if_false, Bool.false_eq_true, Bool.true_eq_false, reduceIte, Bool.or_true, Bool.true_or, Bool.false_or, Bool.or_false, Bool.and_true, Bool.and_false, Bool.true_and, Bool.false_and, Bool.not_true, Bool.not_false, decide_true, decide_false, decide_eq_true_eq, and_self, not_true_eq_false, not_false_eq_true, ite_self, a_try_ok, a_raise0, a_raise, a_h0, a_h1, a_en0, a_en1, a_se_nx, a_se_rt, a_lv0, a_lv1, a_un0, a_un1, a_cx0, a_cx1, a_cx2, a_cx3, a_xf, a_pad, a_walk, a_rev, a_par, a_chain, a_chainB, w_enum, w_zipL, w_zipT, w_zipLL, w_zipTT, w_zipTL, w_zipLT, e_max, e_min, e_and, e_sumA, e_sumAT, List.reverse_cons, List.reverse_nil, List.zip_cons_cons, List.zip_nil_left, List.zip_nil_right, a_mIndex, a_fld, a_callT, a_methD, a_make, a_val, a_newD, w_enumL, w_enumT, a_apT, a_apG, a_apL, e_ixG, e_tupF, a_no0, a_no1, e_sliceL, e_sliceT, a_ins, a_cat, e_revL, List.nil_append, List.reverse_nil, subE_BadSizes_BadSizes, subE_BadSizes_BadCounts, subE_BadSizes_NoLot, subE_BadCounts_BadSizes, subE_BadCounts_BadCounts, subE_BadCounts_NoLot, subE_NoLot_BadSizes, subE_NoLot_BadCounts, subE_NoLot_NoLot, in_xs_0_BadSizes, in_xs_1_BadCounts, in_xs_2_NoLot, $xs,*] $[$l]?)
/-! ### the drawing hand -/
def handD (cells : List Int) (place : Nat) (great total : Int) : D := .lst [.lst (cells.map .int), .int place, .int great, .int total]
structure GoodHand (h : D) : Prop where
  ex : ∃ cells place great total, h = handD cells place great total ∧ (∀ c ∈ cells, 0 ≤ c) ∧ place ≤ cells.length ∧ 0 ≤ great ∧ 0 ≤ total ∧ total < 2147483648 ∧ cells.length ≤ 63
theorem mixed_eq {a b : Int} (ha : 0 ≤ a ∧ a < 2147483648) (hb : 0 ≤ b ∧ b ≤ 1000) : ∃ r, F__law_mixed [.int a, .int b] = .ok false (.int r) .non ∧ 0 ≤ r := by
  have e1 : mulOk a 44497 = true := mulOk_le (a := 31) (b := 20) (by omega) (by omega) (by omega)
  have e2 : mulOk b 9973 = true := mulOk_le (a := 31) (b := 20) (by omega) (by omega) (by omega)
  have e3 : mulOk b 60013 = true := mulOk_le (a := 31) (b := 20) (by omega) (by omega) (by omega)
  generalize hx : (a * 44497 + b * 9973 + 30011) % 2147483543 = x
  have x0 : 0 ≤ x ∧ x < 2147483543 := by omega
  have e4 : mulOk x x = true := mulOk_le (a := 31) (b := 31) (by omega) (by omega) (by omega)
  generalize hz : (x * x + b * 60013 + x / 151) % 2147483497 = z
  have z0 : 0 ≤ z ∧ z < 2147483497 := by
    subst hz
    exact ⟨Int.emod_nonneg _ (by decide), Int.emod_lt_of_pos _ (by decide)⟩
  have e5 : mulOk z 50021 = true := mulOk_le (a := 31) (b := 20) (by omega) (by omega) (by omega)
  have d1 : divOk 151 = true := by decide
  have d2 : divOk 13 = true := by decide
  have d3 : divOk 64 = true := by decide
  refine ⟨(z * 50021 + x / 13) % 2147483489 / 64, ?_, by omega⟩
  simp! only [F__law_mixed_eq, B__law_mixed, e1, e2, e3, hx, e4, hz, e5, d1, d2, d3]
theorem hand_good (ns : List Int) (h : ns.length ≤ 63) : ∃ d, F__law_hand [.scr ns] = .ok true d .non ∧ GoodHand d := by
  have key := loop_inv (g := gN 3) (junk := [3]) (body := L__law_hand_1) (fun i e => ∃ t cells, 0 ≤ t ∧ t < 2147483648 ∧ cells.length = i ∧ (∀ c ∈ cells, 0 ≤ c) ∧ e = [.sh (.scr ns), .sh (.int t), .ow (.lst (cells.map D.int)), .no]) (ns.map D.int) 0
    (env := [.sh (.scr ns), .sh (.int (83 + (ns.length : Int))), .ow (.lst []), .no]) (fun i d e hi hp => by
      rw [Nat.zero_add] at hp ⊢
      obtain ⟨t, cells, t0, t1, hc, hp, rfl⟩ := hp
      rw [List.getElem?_map] at hi
      cases z : ns[i]? with
      | none => rw [z] at hi; cases hi
      | some n =>
        rw [z] at hi
        cases hi
        have hin : i < ns.length := (List.getElem?_eq_some_iff.mp z).1
        have e1 : mulOk t 2903 = true := mulOk_le (a := 31) (b := 20) (by omega) (by omega) (by omega)
        have hl : cells.length < lim := by unfold lim; omega
        refine ⟨[.sh (.scr ns), .sh (.int ((t * 2903 + n) % 2147483587)), .ow (.lst ((cells ++ [if n < 0 then -n else n]).map D.int)), .no], ?_, (t * 2903 + n) % 2147483587, cells ++ [if n < 0 then -n else n], Int.emod_nonneg _ (by decide), Int.lt_of_lt_of_le (Int.emod_lt_of_pos _ (by decide)) (by decide), by simp [hc], ?_, rfl⟩
        · simp! only [L__law_hand_1, e1, hl, List.map_append]
        · intro c hc
          rw [List.mem_append] at hc
          rcases hc with hc | hc
          · exact hp c hc
          · simp only [List.mem_singleton] at hc
            subst hc
            split <;> omega) ⟨_, [], by omega, by omega, rfl, by simp, rfl⟩
  obtain ⟨e', h1, t, cells, t0, t1, hc, hp, rfl⟩ := key
  refine ⟨handD cells 0 0 t, ?_, ⟨cells, 0, 0, t, rfl, hp, Nat.zero_le _, Int.le_refl _, t0, t1, by rw [hc]; simp; exact h⟩⟩
  simp! only [F__law_hand_eq, B__law_hand]
  rw [h1]
  simp! only [handD]
  rfl
theorem take_good {h : D} {many : Int} (g : GoodHand h) (m1 : 1 ≤ many) (m2 : divOk many = true) : ∃ r h', F__law_draw [h, .int many] = .ok false (.int r) h' ∧ GoodHand h' ∧ 0 ≤ r ∧ r < many := by
  obtain ⟨cells, place, great, total, rfl, hc, hp, hg, ht0, ht1, hl⟩ := g
  have mm : decide (0 < many) = true := decide_eq_true (by omega)
  have rr : ∀ x : Int, 0 ≤ x % many ∧ x % many < many := fun x => ⟨Int.emod_nonneg _ (by omega), Int.emod_lt_of_pos _ (by omega)⟩
  -- the last way: the mixed sum
  have last : great = 0 → ¬ place < cells.length → ∃ r h', F__law_draw [handD cells place great total, .int many] = .ok false (.int r) h' ∧ GoodHand h' ∧ 0 ≤ r ∧ r < many := fun z np => by
    subst z
    have t2 : 0 ≤ (total + 1) % 2147483579 ∧ (total + 1) % 2147483579 < 2147483648 := by omega
    obtain ⟨x, hx, x0⟩ := mixed_eq t2 (b := (place : Int)) (by omega)
    refine ⟨x % many, handD cells place 0 ((total + 1) % 2147483579), ?_, ⟨cells, place, 0, _, rfl, hc, hp, Int.le_refl _, t2.1, t2.2, hl⟩, rr x⟩
    simp! only [F__law_draw_eq, B__law_draw, handD, show ¬ ((place : Int) < (cells.length : Int)) from by omega, ixN_3 (show 3 < 4 by decide), hx, show 0 < many from by omega]
  -- a great number, taken digit by digit
  have great_go : 0 < great → ∃ r h', F__law_draw [handD cells place great total, .int many] = .ok false (.int r) h' ∧ GoodHand h' ∧ 0 ≤ r ∧ r < many := fun z => by
    have g0 : 0 ≤ great / many := Int.ediv_nonneg hg (by omega)
    refine ⟨great % many, handD cells place (great / many) total, ?_, ⟨cells, place, _, _, rfl, hc, hp, g0, ht0, ht1, hl⟩, rr great⟩
    simp! only [F__law_draw_eq, B__law_draw, handD, show ¬ great = 0 from by omega, z, ixN_2 (show 2 < 4 by decide), m2, show 0 < many from by omega]
  rcases Int.lt_or_eq_of_le hg with z | z
  · exact great_go z
  · by_cases np : place < cells.length
    · have hcell : cells[place]? = some cells[place] := List.getElem?_eq_getElem np
      have c0 : 0 ≤ cells[place] := hc _ (List.getElem_mem np)
      have at1 : atI (cells.map D.int) (place : Int) = some (.int cells[place]) := atI_nat (by rw [List.getElem?_map, hcell]; rfl)
      have p18 : dPow (.int 10) (.int 18) = some (.val (.int 1000000000000000000)) := rfl
      subst z
      by_cases big : cells[place] < 1000000000000000000
      · obtain ⟨x, hx, x0⟩ := mixed_eq (a := cells[place] % 2147483543) (by omega) (b := (place : Int) + 1) (by omega)
        refine ⟨x % many, handD cells (place + 1) 0 total, ?_, ⟨cells, place + 1, 0, _, rfl, hc, by omega, Int.le_refl _, ht0, ht1, hl⟩, rr x⟩
        simp! only [F__law_draw_eq, B__law_draw, handD, show ((place : Int) < (cells.length : Int)) from by omega, at1, ixN_1 (show 1 < 4 by decide), p18, big, hx, show 0 < many from by omega]
        rfl
      · have g0 : 0 ≤ cells[place] / many := Int.ediv_nonneg c0 (by omega)
        refine ⟨cells[place] % many, handD cells (place + 1) (cells[place] / many) total, ?_, ⟨cells, place + 1, _, _, rfl, hc, by omega, g0, ht0, ht1, hl⟩, rr _⟩
        simp! only [F__law_draw_eq, B__law_draw, handD, show ((place : Int) < (cells.length : Int)) from by omega, at1, ixN_1 (show 1 < 4 by decide), ixN_2 (show 2 < 4 by decide), p18, big, show 0 < cells[place] from by omega, m2, show 0 < many from by omega]
        rfl
    · exact last z.symm np

/-! ### numbers of spaces and tables: the mathematics -/
def gR (q : Int) : Nat → Nat → Int
  | 0, 0 => 1
  | 0, _ + 1 => 0
  | _ + 1, 0 => 1
  | w + 1, p + 1 => gR q w p + q ^ (p + 1) * gR q w (p + 1)
def gT (q : Int) (w : Nat) : Nat → Int
  | 0 => 1
  | p + 1 => gT q w p * (q ^ (w - p) - 1)
def gB (q : Int) : Nat → Int
  | 0 => 1
  | p + 1 => gB q p * (q ^ (p + 1) - 1)
def gP (q : Int) (t : Nat) : Nat → Int
  | 0 => 1
  | r + 1 => gP q t r * (q ^ t - q ^ r)
theorem gR_zero (q : Int) (w : Nat) : gR q w 0 = 1 := by cases w <;> rfl
theorem gR_out (q : Int) : ∀ w p : Nat, w < p → gR q w p = 0
  | 0, 0, h => by omega
  | 0, p + 1, _ => rfl
  | w + 1, 0, h => by omega
  | w + 1, p + 1, h => by
    show gR q w p + q ^ (p + 1) * gR q w (p + 1) = 0
    rw [gR_out q w p (by omega), gR_out q w (p + 1) (by omega)]
    simp
theorem gR_diag (q : Int) : ∀ w : Nat, gR q w w = 1
  | 0 => rfl
  | w + 1 => by
    show gR q w w + q ^ (w + 1) * gR q w (w + 1) = 1
    rw [gR_diag q w, gR_out q w (w + 1) (by omega)]
    simp
theorem gT_out (q : Int) (w : Nat) : ∀ p, w < p → gT q w p = 0
  | 0, h => by omega
  | p + 1, h => by
    show gT q w p * (q ^ (w - p) - 1) = 0
    by_cases e : w = p
    · subst e; simp
    · rw [gT_out q w p (by omega)]; simp
theorem gT_up (q : Int) (w : Nat) : ∀ p, gT q (w + 1) (p + 1) = (q ^ (w + 1) - 1) * gT q w p
  | 0 => by show (1 : Int) * (q ^ (w + 1 - 0) - 1) = _ * 1; rw [Int.one_mul, Int.mul_one, Nat.sub_zero]
  | p + 1 => by
    show gT q (w + 1) (p + 1) * (q ^ (w + 1 - (p + 1)) - 1) = (q ^ (w + 1) - 1) * (gT q w p * (q ^ (w - p) - 1))
    rw [gT_up q w p, Nat.add_sub_add_right, Int.mul_assoc]
theorem gTB (q : Int) : ∀ w p : Nat, gT q w p = gB q p * gR q w p
  | 0, 0 => rfl
  | 0, p + 1 => by rw [gT_out q 0 (p + 1) (by omega), gR_out q 0 (p + 1) (by omega)]; simp
  | w + 1, 0 => by rw [gR_zero]; rfl
  | w + 1, p + 1 => by
    rw [gT_up]
    show _ = gB q p * (q ^ (p + 1) - 1) * (gR q w p + q ^ (p + 1) * gR q w (p + 1))
    have h1 := gTB q w p
    have h2 := gTB q w (p + 1)
    have h2' : gT q w p * (q ^ (w - p) - 1) = gB q p * (q ^ (p + 1) - 1) * gR q w (p + 1) := h2
    have e1 : gB q p * (q ^ (p + 1) - 1) * (gR q w p + q ^ (p + 1) * gR q w (p + 1)) = (q ^ (p + 1) - 1) * (gB q p * gR q w p) + q ^ (p + 1) * (gB q p * (q ^ (p + 1) - 1) * gR q w (p + 1)) := by
      rw [Int.mul_add]
      congr 1
      · rw [Int.mul_comm (gB q p) (q ^ (p + 1) - 1), Int.mul_assoc]
      · rw [← Int.mul_assoc, Int.mul_comm (gB q p * (q ^ (p + 1) - 1)) (q ^ (p + 1)), Int.mul_assoc]
    rw [e1, ← h1, ← h2']
    by_cases hp : p ≤ w
    · have ep : q ^ (w + 1) = q ^ (p + 1) * q ^ (w - p) := by rw [← Int.pow_add]; congr 1; omega
      have e2 : q ^ (p + 1) * (gT q w p * (q ^ (w - p) - 1)) = (q ^ (p + 1) * q ^ (w - p) - q ^ (p + 1)) * gT q w p := by
        rw [Int.mul_comm (gT q w p), ← Int.mul_assoc, Int.mul_sub, Int.mul_one]
      rw [e2, ← Int.add_mul, ep]
      congr 1
      omega
    · rw [gT_out q w p (by omega)]; simp
theorem gT_B (q : Int) : ∀ w p : Nat, p ≤ w → gT q w p * gB q (w - p) = gB q w
  | w, 0, _ => by show 1 * gB q (w - 0) = _; rw [Int.one_mul, Nat.sub_zero]
  | w, p + 1, h => by
    show gT q w p * (q ^ (w - p) - 1) * gB q (w - (p + 1)) = _
    rw [← gT_B q w p (by omega)]
    have e : w - p = (w - (p + 1)) + 1 := by omega
    rw [Int.mul_assoc, e]
    congr 1
    show _ = gB q (w - (p + 1)) * (q ^ (w - (p + 1) + 1) - 1)
    rw [Int.mul_comm]
theorem pow_ge {q : Int} (h : 2 ≤ q) : ∀ n : Nat, 1 ≤ n → 2 ≤ q ^ n
  | 0, hn => by omega
  | 1, _ => by rw [Int.pow_one]; exact h
  | n + 2, _ => by
    have := pow_ge h (n + 1) (by omega)
    rw [Int.pow_succ]
    have h2 : q ^ (n + 1) * 1 ≤ q ^ (n + 1) * q := Int.mul_le_mul_of_nonneg_left (by omega) (by omega)
    omega
theorem pow_pos1 {q : Int} (h : 2 ≤ q) (n : Nat) : 1 ≤ q ^ n := by
  cases n with
  | zero => simp
  | succ n => have := pow_ge h (n + 1) (by omega); omega
theorem gB_pos {q : Int} (h : 2 ≤ q) : ∀ p, 1 ≤ gB q p
  | 0 => Int.le_refl _
  | p + 1 => by
    show 1 ≤ gB q p * (q ^ (p + 1) - 1)
    have h1 := gB_pos h p
    have h2 := pow_ge h (p + 1) (by omega)
    have := Int.mul_pos (show 0 < gB q p by omega) (show 0 < q ^ (p + 1) - 1 by omega)
    omega
theorem gR_nonneg {q : Int} (h : 2 ≤ q) : ∀ w p : Nat, 0 ≤ gR q w p
  | 0, 0 => by show (0 : Int) ≤ 1; decide
  | 0, _ + 1 => Int.le_refl _
  | _ + 1, 0 => by show (0 : Int) ≤ 1; decide
  | w + 1, p + 1 => by
    show 0 ≤ gR q w p + q ^ (p + 1) * gR q w (p + 1)
    have h1 := gR_nonneg h w p
    have h2 := gR_nonneg h w (p + 1)
    have h3 := pow_pos1 h (p + 1)
    have := Int.mul_nonneg (show 0 ≤ q ^ (p + 1) by omega) h2
    omega
theorem gR_pos {q : Int} (h : 2 ≤ q) : ∀ w p : Nat, p ≤ w → 1 ≤ gR q w p
  | w, 0, _ => by rw [gR_zero]; exact Int.le_refl _
  | 0, p + 1, hp => by omega
  | w + 1, p + 1, hp => by
    show 1 ≤ gR q w p + q ^ (p + 1) * gR q w (p + 1)
    have h1 := gR_pos h w p (by omega)
    have h3 := pow_pos1 h (p + 1)
    have := Int.mul_nonneg (show 0 ≤ q ^ (p + 1) by omega) (gR_nonneg h w (p + 1))
    omega
theorem gR_sym {q : Int} (h : 2 ≤ q) (w p : Nat) (hp : p ≤ w) : gR q w (w - p) = gR q w p := by
  have h1 := gT_B q w p hp
  have h2 := gT_B q w (w - p) (by omega)
  rw [gTB] at h1 h2
  rw [show w - (w - p) = p by omega] at h2
  have b1 := gB_pos h p
  have b2 := gB_pos h (w - p)
  have : gB q p * gB q (w - p) * gR q w (w - p) = gB q p * gB q (w - p) * gR q w p := by
    have e1 : gB q p * gB q (w - p) * gR q w (w - p) = gB q w := by
      rw [← h2]
      rw [Int.mul_comm (gB q p), Int.mul_assoc, Int.mul_assoc, Int.mul_comm (gB q p)]
    have e2 : gB q p * gB q (w - p) * gR q w p = gB q w := by
      rw [← h1]
      rw [Int.mul_assoc, Int.mul_assoc, Int.mul_comm (gB q (w - p))]
    rw [e1, e2]
  exact Int.eq_of_mul_eq_mul_left (by have := Int.mul_pos (show 0 < gB q p by omega) (show 0 < gB q (w - p) by omega); omega) this
theorem gP_out (q : Int) (t : Nat) : ∀ r, t < r → gP q t r = 0
  | 0, h => by omega
  | r + 1, h => by
    show gP q t r * (q ^ t - q ^ r) = 0
    by_cases e : t = r
    · subst e; simp
    · rw [gP_out q t r (by omega)]; simp
/-- the same power beside the same product -/
def gC (q : Int) : Nat → Int
  | 0 => 1
  | r + 1 => gC q r * q ^ r
theorem gP_T (q : Int) (t : Nat) : ∀ r, r ≤ t → gP q t r = gC q r * gT q t r
  | 0, _ => rfl
  | r + 1, h => by
    show gP q t r * (q ^ t - q ^ r) = gC q r * q ^ r * (gT q t r * (q ^ (t - r) - 1))
    rw [gP_T q t r (by omega)]
    have e : q ^ t = q ^ r * q ^ (t - r) := by rw [← Int.pow_add]; congr 1; omega
    have e2 : q ^ r * (q ^ (t - r) - 1) = q ^ t - q ^ r := by rw [Int.mul_sub, Int.mul_one, ← e]
    rw [← e2]
    rw [Int.mul_assoc (gC q r) (q ^ r), ← Int.mul_assoc (q ^ r) (gT q t r), Int.mul_comm (q ^ r) (gT q t r), Int.mul_assoc (gC q r) (gT q t r), Int.mul_assoc (gT q t r)]
theorem exchange {q : Int} (h : 2 ≤ q) (t w r : Nat) (h1 : r ≤ t) (h2 : r ≤ w) : gR q w r * gP q t r = gR q t r * gP q w r := by
  rw [gP_T q t r h1, gP_T q w r h2]
  have b := gB_pos h r
  have : gB q r * (gR q w r * (gC q r * gT q t r)) = gB q r * (gR q t r * (gC q r * gT q w r)) := by
    rw [← Int.mul_assoc, ← gTB, ← Int.mul_assoc (gB q r) (gR q t r), ← gTB]
    rw [Int.mul_left_comm, Int.mul_left_comm (gT q t r), Int.mul_comm (gT q w r)]
  exact Int.eq_of_mul_eq_mul_left (by omega) this
def sumTo (f : Nat → Int) : Nat → Int
  | 0 => 0
  | n + 1 => sumTo f n + f n
theorem sumTo_front (f : Nat → Int) : ∀ n, sumTo f (n + 1) = f 0 + sumTo (fun i => f (i + 1)) n
  | 0 => by show (0 : Int) + f 0 = f 0 + 0; omega
  | n + 1 => by
    show sumTo f (n + 1) + f (n + 1) = f 0 + (sumTo (fun i => f (i + 1)) n + f (n + 1))
    rw [sumTo_front f n]; omega
theorem sumTo_add (f g : Nat → Int) : ∀ n, sumTo (fun i => f i + g i) n = sumTo f n + sumTo g n
  | 0 => rfl
  | n + 1 => by show sumTo _ n + (f n + g n) = sumTo f n + f n + (sumTo g n + g n); rw [sumTo_add f g n]; omega
theorem sumTo_mul (c : Int) (f : Nat → Int) : ∀ n, sumTo (fun i => c * f i) n = c * sumTo f n
  | 0 => by show (0 : Int) = c * 0; simp
  | n + 1 => by show sumTo _ n + c * f n = c * (sumTo f n + f n); rw [sumTo_mul c f n, Int.mul_add]
theorem sumTo_ext {f g : Nat → Int} : ∀ n, (∀ i, i < n → f i = g i) → sumTo f n = sumTo g n
  | 0, _ => rfl
  | n + 1, h => by show sumTo f n + f n = sumTo g n + g n; rw [sumTo_ext n (fun i hi => h i (by omega)), h n (by omega)]
theorem all_tables (q : Int) (t : Nat) : ∀ w : Nat, sumTo (fun r => gR q w r * gP q t r) (w + 1) = q ^ (t * w)
  | 0 => by show (0 : Int) + 1 * 1 = _; rw [Nat.mul_zero]; simp
  | w + 1 => by
    rw [sumTo_front]
    have e1 : sumTo (fun r => gR q (w + 1) (r + 1) * gP q t (r + 1)) (w + 1) = sumTo (fun r => gR q w r * gP q t (r + 1)) (w + 1) + sumTo (fun r => q ^ (r + 1) * gR q w (r + 1) * gP q t (r + 1)) (w + 1) := by
      rw [← sumTo_add]
      refine sumTo_ext _ fun r _ => ?_
      show (gR q w r + q ^ (r + 1) * gR q w (r + 1)) * gP q t (r + 1) = _
      rw [Int.add_mul]
    have e2 : gR q (w + 1) 0 * gP q t 0 + sumTo (fun r => q ^ (r + 1) * gR q w (r + 1) * gP q t (r + 1)) (w + 1) = sumTo (fun r => q ^ r * gR q w r * gP q t r) (w + 1) := by
      have := sumTo_front (fun r => q ^ r * gR q w r * gP q t r) (w + 1)
      have h0 : sumTo (fun r => q ^ r * gR q w r * gP q t r) (w + 1 + 1) = sumTo (fun r => q ^ r * gR q w r * gP q t r) (w + 1) + q ^ (w + 1) * gR q w (w + 1) * gP q t (w + 1) := rfl
      rw [gR_out q w (w + 1) (by omega)] at h0
      simp only [Int.mul_zero, Int.zero_mul, Int.add_zero] at h0
      rw [← h0, this]
      congr 1
      show _ = q ^ 0 * gR q w 0 * gP q t 0
      rw [gR_zero, gR_zero]
      simp
    have e3 : sumTo (fun r => gR q w r * gP q t (r + 1)) (w + 1) + sumTo (fun r => q ^ r * gR q w r * gP q t r) (w + 1) = q ^ t * sumTo (fun r => gR q w r * gP q t r) (w + 1) := by
      rw [← sumTo_add, ← sumTo_mul]
      refine sumTo_ext _ fun r _ => ?_
      show gR q w r * (gP q t r * (q ^ t - q ^ r)) + q ^ r * gR q w r * gP q t r = q ^ t * (gR q w r * gP q t r)
      rw [← Int.mul_assoc, Int.mul_sub, Int.mul_assoc (q ^ r), Int.mul_comm (q ^ r)]
      rw [Int.mul_comm (q ^ t)]
      omega
    rw [e1]
    have : gR q (w + 1) 0 * gP q t 0 + (sumTo (fun r => gR q w r * gP q t (r + 1)) (w + 1) + sumTo (fun r => q ^ (r + 1) * gR q w (r + 1) * gP q t (r + 1)) (w + 1)) = q ^ t * sumTo (fun r => gR q w r * gP q t r) (w + 1) := by
      rw [← e3, ← e2]; omega
    rw [this, all_tables q t w, ← Int.pow_add, Nat.mul_succ, Nat.add_comm]
/-! ### sizes -/
theorem abs_mul {a b : Int} {m n : Nat} (ha : a.natAbs ≤ 2 ^ m) (hb : b.natAbs ≤ 2 ^ n) : (a * b).natAbs ≤ 2 ^ (m + n) := by
  rw [Int.natAbs_mul, Nat.pow_add]
  exact Nat.mul_le_mul ha hb
theorem abs_mono {a : Int} {m n : Nat} (ha : a.natAbs ≤ 2 ^ m) (h : m ≤ n) : a.natAbs ≤ 2 ^ n := Nat.le_trans ha (Nat.pow_le_pow_right (by decide) h)
theorem lt_two {a : Int} {m : Nat} (h : a.natAbs ≤ 2 ^ m) : a.natAbs < 2 ^ (m + 1) := Nat.lt_of_le_of_lt h (Nat.pow_lt_pow_right (by decide) (by omega))
theorem mulOk2 {a b : Int} {m n : Nat} (ha : a.natAbs ≤ 2 ^ m) (hb : b.natAbs ≤ 2 ^ n) (h : m + n < 1000000) : mulOk a b = true := mulOk_le (lt_two ha) (lt_two hb) h
theorem abs_pow {b : Int} {c : Nat} (h : b.natAbs ≤ 2 ^ c) (n : Nat) : (b ^ n).natAbs ≤ 2 ^ (c * n) := by
  rw [natAbs_powI, Nat.pow_mul]
  exact Nat.pow_le_pow_left h n
theorem q_abs {q : Int} (h : q = 2 ∨ q = 3) : q.natAbs ≤ 2 ^ 2 := by rcases h with rfl | rfl <;> decide
theorem q_two {q : Int} (h : q = 2 ∨ q = 3) : 2 ≤ q := by rcases h with rfl | rfl <;> decide
theorem abs_sub1 {a : Int} {m : Nat} (h0 : 1 ≤ a) (h : a.natAbs ≤ 2 ^ m) : (a - 1).natAbs ≤ 2 ^ m := by omega
theorem abs_diff {a b : Int} {m : Nat} (h0 : 0 ≤ a) (h1 : 0 ≤ b) (h : a.natAbs ≤ 2 ^ m) (h2 : b.natAbs ≤ 2 ^ m) : (a - b).natAbs ≤ 2 ^ m := by omega
theorem q_pow {q : Int} (h : q = 2 ∨ q = 3) {n : Nat} (hn : n ≤ 41) : (q ^ n).natAbs ≤ 2 ^ 82 := abs_mono (abs_pow (q_abs h) n) (by omega)
theorem gT_abs {q : Int} (h : q = 2 ∨ q = 3) {w : Nat} (hw : w ≤ 40) : ∀ p, (gT q w p).natAbs ≤ 2 ^ (82 * p)
  | 0 => by show (1 : Int).natAbs ≤ _; simp
  | p + 1 => by
    have := abs_mul (gT_abs h hw p) (abs_sub1 (pow_pos1 (q_two h) (w - p)) (q_pow h (by omega)))
    exact this
theorem gB_abs {q : Int} (h : q = 2 ∨ q = 3) : ∀ p, p ≤ 40 → (gB q p).natAbs ≤ 2 ^ (82 * p)
  | 0, _ => by show (1 : Int).natAbs ≤ _; simp
  | p + 1, hp => by
    have := abs_mul (gB_abs h p (by omega)) (abs_sub1 (pow_pos1 (q_two h) (p + 1)) (q_pow h (by omega)))
    exact this
theorem gP_abs {q : Int} (h : q = 2 ∨ q = 3) {t : Nat} (ht : t ≤ 40) : ∀ r, r ≤ 40 → (gP q t r).natAbs ≤ 2 ^ (82 * r)
  | 0, _ => by show (1 : Int).natAbs ≤ _; simp
  | r + 1, hr => by
    have := abs_mul (gP_abs h ht r (by omega)) (abs_diff (by have := pow_pos1 (q_two h) t; omega) (by have := pow_pos1 (q_two h) r; omega) (q_pow h (show t ≤ 41 by omega)) (q_pow h (show r ≤ 41 by omega)))
    exact this
theorem gR_abs {q : Int} (h : q = 2 ∨ q = 3) {w p : Nat} (hw : w ≤ 40) (hp : p ≤ 40) : (gR q w p).natAbs ≤ 2 ^ 3280 := by
  have h1 := gT_abs h hw p
  rw [gTB, Int.natAbs_mul] at h1
  have h2 := gB_pos (q_two h) p
  have h3 : 1 * (gR q w p).natAbs ≤ (gB q p).natAbs * (gR q w p).natAbs := Nat.mul_le_mul_right _ (by omega)
  have h4 : 2 ^ (82 * p) ≤ 2 ^ 3280 := Nat.pow_le_pow_right (by decide) (by omega)
  omega
theorem gT_0 (q : Int) (w : Nat) : gT q w 0 = 1 := rfl
theorem gB_0 (q : Int) : gB q 0 = 1 := rfl
theorem gP_0 (q : Int) (w : Nat) : gP q w 0 = 1 := rfl
theorem gT_s (q : Int) (w p : Nat) : gT q w (p + 1) = gT q w p * (q ^ (w - p) - 1) := rfl
theorem gB_s (q : Int) (p : Nat) : gB q (p + 1) = gB q p * (q ^ (p + 1) - 1) := rfl
theorem gP_s (q : Int) (t r : Nat) : gP q t (r + 1) = gP q t r * (q ^ t - q ^ r) := rfl
/-! ### what the defs hand back -/
/-! ### the rows -/
def rowL (q : Int) (a n : Nat) : List D := (List.range n).map fun b => .int (gR q a b)
def rowD (q : Int) (a : Nat) : D := .lst (rowL q a (a + 1))
def rowsL (q : Int) (n : Nat) : List D := (List.range n).map (rowD q)
theorem rowL_s (q : Int) (a n : Nat) : rowL q a (n + 1) = rowL q a n ++ [.int (gR q a n)] := by unfold rowL; rw [List.range_succ, List.map_append]; rfl
theorem rowsL_s (q : Int) (n : Nat) : rowsL q (n + 1) = rowsL q n ++ [rowD q n] := by unfold rowsL; rw [List.range_succ, List.map_append]; rfl
theorem rowL_len (q : Int) (a n : Nat) : (rowL q a n).length = n := by unfold rowL; simp
theorem rowsL_len (q : Int) (n : Nat) : (rowsL q n).length = n := by unfold rowsL; simp
theorem at_row {q : Int} {a n b : Nat} (h : b < n) : atI (rowL q a n) (b : Int) = some (.int (gR q a b)) := atI_nat (by unfold rowL; rw [List.getElem?_map, List.getElem?_range h]; rfl)
theorem at_rows {q : Int} {n b : Nat} (h : b < n) : atI (rowsL q n) (b : Int) = some (rowD q b) := atI_nat (by unfold rowsL; rw [List.getElem?_map, List.getElem?_range h]; rfl)
theorem ixN_last {n : Nat} : ixN (n + 1) (-1) = some n := by
  unfold ixN
  rw [if_neg (by omega), if_pos (by omega)]
  congr 1; omega
theorem at_last {xs : List D} {x : D} : atI (xs ++ [x]) (-1) = some x := by
  unfold atI
  rw [List.length_append, List.length_singleton, ixN_last]
  simp
/-! ### powers, numbers of spaces, the rows (named loops) -/
theorem power_of_eq {b e : Int} (hb : b.natAbs ≤ 2 ^ 100) (h0 : 0 ≤ e) (he : e ≤ 2000) : F_power_of [.int b, .int e] = .ok false (.int (b ^ e.toNat)) .non := by
  have hr : okR e = true := okR_of (by omega)
  have hm : ∀ i : Nat, i < e.toNat → mulOk (b ^ i) b = true := fun i hi => mulOk2 (abs_pow hb i) hb (by omega)
  have L := loop_rng (g := gN 3) (junk := [3]) (body := L_power_of_1) (fun i => [.sh (.int b), .sh (.int e), .sh (.int (b ^ i)), .no]) 0 e.toNat (fun i hi => by
    simp! only [L_power_of_1, e_mulI (hm i hi), Int.pow_succ])
  rw [Int.pow_zero] at L
  simp! only [F_power_of_eq, B_power_of, hr, L]
theorem law_power_eq {b e : Int} (hb : b.natAbs ≤ 2 ^ 100) (h0 : 0 ≤ e) (he : e ≤ 2000) : F__law_power [.int b, .int e] = .ok false (.int (b ^ e.toNat)) .non := by
  have hr : okR e = true := okR_of (by omega)
  have hm : ∀ i : Nat, i < e.toNat → mulOk (b ^ i) b = true := fun i hi => mulOk2 (abs_pow hb i) hb (by omega)
  have L := loop_rng (g := gN 3) (junk := [3]) (body := L__law_power_1) (fun i => [.sh (.int b), .sh (.int e), .sh (.int (b ^ i)), .no]) 0 e.toNat (fun i hi => by
    simp! only [L__law_power_1, e_mulI (hm i hi), Int.pow_succ])
  rw [Int.pow_zero] at L
  simp! only [F__law_power_eq, B__law_power, hr, L]
theorem q100 {q : Int} (h : q = 2 ∨ q = 3) : q.natAbs ≤ 2 ^ 100 := abs_mono (q_abs h) (by omega)
theorem pow_n {q : Int} (h : q = 2 ∨ q = 3) {e : Nat} (he : e ≤ 2000) : F_power_of [.int q, .int (e : Int)] = .ok false (.int (q ^ e)) .non := by
  have := power_of_eq (q100 h) (e := (e : Int)) (by omega) (by omega)
  rwa [Int.toNat_natCast] at this
theorem lpow_n {q : Int} (h : q = 2 ∨ q = 3) {e : Nat} (he : e ≤ 2000) : F__law_power [.int q, .int (e : Int)] = .ok false (.int (q ^ e)) .non := by
  have := law_power_eq (q100 h) (e := (e : Int)) (by omega) (by omega)
  rwa [Int.toNat_natCast] at this
/-- the number of spaces, 0 for places that are none -/
def spaceV (q : Int) (w p : Int) : Int := if p < 0 ∨ p > w then 0 else gR q w.toNat p.toNat
theorem spaceV_nat {q : Int} {w p : Nat} : spaceV q (w : Int) (p : Int) = gR q w p := by
  unfold spaceV
  by_cases c : w < p
  · rw [if_pos (by omega), gR_out q w p c]
  · rw [if_neg (by omega)]; rfl
theorem space_count_eq {q w p : Int} (h : q = 2 ∨ q = 3) (w0 : 0 ≤ w) (w1 : w ≤ 40) : F_space_count [.int q, .int w, .int p] = .ok false (.int (spaceV q w p)) .non := by
  unfold spaceV
  by_cases hc : p < 0 ∨ p > w
  · rw [if_pos hc]
    by_cases h1 : p < 0
    · simp! only [F_space_count_eq, B_space_count, h1]
    · have h2 : w < p := by omega
      simp! only [F_space_count_eq, B_space_count, h1, h2]
  · rw [if_neg hc]
    have p0 : 0 ≤ p := by omega
    have pw : p ≤ w := by omega
    obtain ⟨P, rfl⟩ : ∃ P : Nat, p = (P : Int) := ⟨p.toNat, by omega⟩
    obtain ⟨W, rfl⟩ : ∃ W : Nat, w = (W : Int) := ⟨w.toNat, by omega⟩
    have hr : okR (P : Int) = true := okR_of (by omega)
    have L := loop_rng (g := gN 5) (junk := [5]) (body := L_space_count_1)
      (fun i => [.sh (.int q), .sh (.int W), .sh (.int P), .sh (.int (gT q W i)), .sh (.int (gB q i)), .no]) 0 P (fun i hi => by
        have e1 := pow_n h (e := W - i) (by omega)
        have e2 := pow_n h (e := i + 1) (by omega)
        rw [show ((W - i : Nat) : Int) = (W : Int) - (i : Int) by omega] at e1
        rw [show ((i + 1 : Nat) : Int) = (i : Int) + 1 by omega] at e2
        have m1 : mulOk (gT q W i) (q ^ (W - i) - 1) = true := mulOk2 (gT_abs h (by omega) i) (abs_sub1 (pow_pos1 (q_two h) _) (q_pow h (by omega))) (by omega)
        have m2 : mulOk (gB q i) (q ^ (i + 1) - 1) = true := mulOk2 (gB_abs h i (by omega)) (abs_sub1 (pow_pos1 (q_two h) _) (q_pow h (by omega))) (by omega)
        rw [Int.zero_add, gT_s, gB_s]
        simp! only [L_space_count_1, e1, e2, e_mulI m1, e_mulI m2])
    rw [gT_0, gB_0] at L
    have hd : divOk (gB q P) = true := divOk_of (by have := gB_pos (q_two h) P; omega) (lt_two (gB_abs h P (by omega))) (by omega)
    have hq : gT q W P / gB q P = gR q W P := by
      rw [gTB]
      exact Int.mul_ediv_cancel_left _ (by have := gB_pos (q_two h) P; omega)
    simp! only [F_space_count_eq, B_space_count, hr, show ¬ ((P : Int) < 0) by omega, show ¬ ((W : Int) < (P : Int)) by omega, Int.toNat_natCast, L, e_divI hd, hq]
theorem space_n {q : Int} (h : q = 2 ∨ q = 3) {w p : Nat} (hw : w ≤ 40) : F_space_count [.int q, .int (w : Int), .int (p : Int)] = .ok false (.int (gR q w p)) .non := by
  rw [space_count_eq h (by omega) (by omega), spaceV_nat]
theorem gauss_row {q : Int} (h : q = 2 ∨ q = 3) {i : Nat} (hi : i < 12) : mLoop (gN 6) [6] L__law_gauss_1 (rngD 1 i) [.sh (.int q), .sh (.int 12), .ow (.lst (rowsL q (i + 1))), .sh (.int (1 + (i : Int))), .sh (.lst (rowL q i (i + 1))), .ow (.lst (rowL q (i + 1) 1)), .no] =
    .ok .nx [.sh (.int q), .sh (.int 12), .ow (.lst (rowsL q (i + 1))), .sh (.int (1 + (i : Int))), .sh (.lst (rowL q i (i + 1))), .ow (.lst (rowL q (i + 1) (i + 1))), .no] :=
  loop_rng (g := gN 6) (junk := [6]) (body := L__law_gauss_1) (fun j => [.sh (.int q), .sh (.int 12), .ow (.lst (rowsL q (i + 1))), .sh (.int (1 + (i : Int))), .sh (.lst (rowL q i (i + 1))), .ow (.lst (rowL q (i + 1) (j + 1))), .no]) 1 i fun j hj => by
    have hp := lpow_n h (e := j + 1) (by omega)
    have h1 : atI (rowL q i (i + 1)) (((j + 1 : Nat) : Int) - 1) = some (.int (gR q i j)) := by
      rw [show (((j + 1 : Nat) : Int) - 1) = (j : Int) by omega]; exact at_row (by omega)
    have h2 : atI (rowL q i (i + 1)) ((j + 1 : Nat) : Int) = some (.int (gR q i (j + 1))) := at_row (by omega)
    have m1 := mulOk2 (q_pow h (show j + 1 ≤ 41 by omega)) (gR_abs h (w := i) (p := j + 1) (by omega) (by omega)) (by omega)
    have hl : (rowL q (i + 1) (j + 1)).length < lim := by rw [rowL_len]; unfold lim; omega
    rw [rowL_s q (i + 1) (j + 1), show gR q (i + 1) (j + 1) = gR q i j + q ^ (j + 1) * gR q i (j + 1) from rfl, show 1 + (j : Int) = ((j + 1 : Nat) : Int) by omega]
    simp! only [L__law_gauss_1, hp, h1, h2, e_mulI m1, hl]
theorem gauss_eq {q : Int} (h : q = 2 ∨ q = 3) : F__law_gauss [.int q, .int 12] = .ok true (.lst (rowsL q 13)) .non := by
  have L := loop_rng (g := gN 3) (junk := [3, 4, 5, 6]) (body := L__law_gauss_2) (fun i => [.sh (.int q), .sh (.int 12), .ow (.lst (rowsL q (i + 1))), .no, .no, .no, .no]) 1 12 (fun i hi => by
    have L := gauss_row h hi
    rw [show rowL q (i + 1) 1 = [.int 1] by rw [rowL_s, gR_zero]; rfl] at L
    have hl : atI (rowsL q (i + 1)) (1 + (i : Int) - 1) = some (.lst (rowL q i (i + 1))) := by
      rw [show (1 + (i : Int) - 1) = (i : Int) by omega]
      exact at_rows (by omega)
    have ho : okR (1 + (i : Int)) = true := okR_of (by omega)
    have h1 : okR 1 = true := by decide
    have n1 : (1 + (i : Int) - 1).toNat = i := by omega
    have l1 : (rowL q (i + 1) (i + 1)).length + 1 ≤ sizeLine := by rw [rowL_len, sizeLine_eq]; omega
    have ad : dAdd (.lst (rowL q (i + 1) (i + 1))) (.lst [.int 1]) = some (.new (.lst (rowL q (i + 1) (i + 1) ++ [.int 1]))) := e_addL l1
    have l2 : (rowsL q (i + 1)).length < lim := by rw [rowsL_len]; unfold lim; omega
    have e1 : rowsL q (i + 1 + 1) = rowsL q (i + 1) ++ [.lst (rowL q (i + 1) (i + 1) ++ [.int 1])] := by
      rw [rowsL_s q (i + 1)]; unfold rowD; rw [rowL_s q (i + 1) (i + 1), gR_diag]
    rw [e1]
    simp! only [L__law_gauss_2, hl, ho, h1, n1, L, ad, l2])
  rw [show rowsL q (0 + 1) = [.lst [.int 1]] by rw [rowsL_s]; unfold rowD; rw [rowL_s, gR_zero]; rfl] at L
  have h1 : okR 1 = true := by decide
  have h2 : okR 13 = true := by decide
  have n1 : ((13 : Int) - 1).toNat = 12 := by decide
  have n2 : ((12 : Int) + 1) = 13 := by decide
  simp! only [F__law_gauss_eq, B__law_gauss, h1, n2, h2, n1, L]
theorem lat_eq {q : Int} {a : Nat} {b : Int} (ha : a ≤ 12) : F__law_at [.lst (rowsL q 13), .int (a : Int), .int b] = .ok false (.int (spaceV q a b)) .non := by
  unfold spaceV
  by_cases hc : b < 0 ∨ b > (a : Int)
  · rw [if_pos hc]
    by_cases h1 : b < 0
    · simp! only [F__law_at_eq, B__law_at, h1]
    · have h2 : (a : Int) < b := by omega
      simp! only [F__law_at_eq, B__law_at, h1, h2]
  · rw [if_neg hc]
    obtain ⟨B, rfl⟩ : ∃ B : Nat, b = (B : Int) := ⟨b.toNat, by omega⟩
    have h1 : ¬ (B : Int) < 0 := by omega
    have h2 : ¬ (a : Int) < (B : Int) := by omega
    have r1 := at_rows (q := q) (n := 13) (b := a) (by omega)
    have r2 : atI (rowL q a (a + 1)) (B : Int) = some (.int (gR q a B)) := at_row (by omega)
    simp! only [F__law_at_eq, B__law_at, h1, h2, r1, rowD, r2, Int.toNat_natCast]
theorem lat_n {q : Int} {a b : Nat} (ha : a ≤ 12) : F__law_at [.lst (rowsL q 13), .int (a : Int), .int (b : Int)] = .ok false (.int (gR q a b)) .non := by
  rw [lat_eq ha, spaceV_nat]
/-! ### lists of whole numbers; sums over ranks -/
def izs (l : List Int) : List D := l.map D.int
theorem izs_len (l : List Int) : (izs l).length = l.length := List.length_map ..
theorem izs_at {l : List Int} {i : Nat} (h : i < l.length) : atI (izs l) (i : Int) = some (.int (l.getD i 0)) := by
  refine atI_nat ?_
  unfold izs
  rw [List.getElem?_map, List.getElem?_eq_getElem h, List.getD_eq_getElem?_getD, List.getElem?_eq_getElem h]; rfl
theorem izs_app (a b : List Int) : izs (a ++ b) = izs a ++ izs b := List.map_append ..
theorem izs_flat (l : List Int) : (izs l).all D.flat = true := flat_map (fun _ => rfl) l
theorem pl_intsT {n : Nat} {l : List Int} : D.pl (n + 1) (.tup (izs l)) = true := by rw [pl_tup]; exact pl_ints
theorem pl_intsL {n : Nat} {l : List Int} : D.pl (n + 1) (.lst (izs l)) = true := by rw [pl_lst]; exact pl_ints
def SeqD (d : D) (xs : List D) : Prop := d = .lst xs ∨ d = .tup xs
theorem SeqD.ix {d : D} {xs : List D} (z : SeqD d xs) {i : Int} : dIx d (.int i) = (atI xs i).map .val := by rcases z with rfl | rfl <;> rfl
theorem SeqD.len {d : D} {xs : List D} (z : SeqD d xs) : dLen d = some (.val (.int xs.length)) := by rcases z with rfl | rfl <;> rfl
theorem SeqD.lst {d : D} {xs : List D} (z : SeqD d xs) : dList d = some (.new (.lst xs)) := by rcases z with rfl | rfl <;> rfl
theorem SeqD.tup {d : D} {xs : List D} (z : SeqD d xs) : dTuple d = some (.val (.tup xs)) := by rcases z with rfl | rfl <;> rfl
theorem SeqD.sum {d : D} {l : List Int} (z : SeqD d (izs l)) : dSumA d = some (.val (.int l.sum)) := by rcases z with rfl | rfl; exact e_sumA; exact e_sumAT
theorem SeqD.at {d : D} {l : List Int} (z : SeqD d (izs l)) {i : Nat} (h : i < l.length) : dIx d (.int (i : Int)) = some (.val (.int (l.getD i 0))) := by
  rw [z.ix, izs_at h]; rfl
theorem sumTo_range (f : Nat → Int) : ∀ n, ((List.range n).map f).sum = sumTo f n
  | 0 => rfl
  | n + 1 => by rw [List.range_succ, List.map_append, List.sum_append, sumTo_range f n]; show _ + (f n + 0) = _; rw [Int.add_zero]; rfl
theorem sum_rng (f : Nat → Int) (k : Nat) : dSumA (.lst ((List.range k).map fun i => D.int (f i))) = some (.val (.int (sumTo f k))) := by
  have := e_sumA (ns := (List.range k).map f)
  rw [List.map_map, sumTo_range] at this
  exact this
/-! sizes -/
theorem abs_add {a b : Int} {m : Nat} (ha : a.natAbs ≤ 2 ^ m) (hb : b.natAbs ≤ 2 ^ m) : (a + b).natAbs ≤ 2 ^ (m + 1) := by
  have : 2 ^ (m + 1) = 2 ^ m + 2 ^ m := by rw [Nat.pow_succ]; omega
  omega
theorem abs_sub {a b : Int} {m : Nat} (ha : a.natAbs ≤ 2 ^ m) (hb : b.natAbs ≤ 2 ^ m) : (a - b).natAbs ≤ 2 ^ (m + 1) := by
  have : 2 ^ (m + 1) = 2 ^ m + 2 ^ m := by rw [Nat.pow_succ]; omega
  omega
theorem sumTo_abs {f : Nat → Int} {k : Nat} : ∀ n, (∀ i, i < n → (f i).natAbs ≤ 2 ^ k) → (sumTo f n).natAbs ≤ n * 2 ^ k
  | 0, _ => by show (0 : Int).natAbs ≤ _; simp
  | n + 1, h => by
    have ih := sumTo_abs n fun i hi => h i (by omega)
    have := h n (by omega)
    show (sumTo f n + f n).natAbs ≤ _
    rw [Nat.succ_mul]
    omega
theorem sumTo_abs' {f : Nat → Int} {k n : Nat} (hn : n ≤ 16) (h : ∀ i, i < n → (f i).natAbs ≤ 2 ^ k) : (sumTo f n).natAbs ≤ 2 ^ (k + 4) := by
  have := sumTo_abs n h
  have e : 2 ^ (k + 4) = 16 * 2 ^ k := by rw [Nat.pow_add, Nat.mul_comm]
  rw [e]
  exact Nat.le_trans this (Nat.mul_le_mul_right _ hn)
theorem q_pow2 {q : Int} (h : q = 2 ∨ q = 3) {n : Nat} (hn : n ≤ 150) : (q ^ n).natAbs ≤ 2 ^ 300 := abs_mono (abs_pow (q_abs h) n) (by omega)
def Bl (k : Nat) (l : List Int) : Prop := ∀ i, (l.getD i 0).natAbs ≤ 2 ^ k
def spreadV (q : Int) (n : Nat) (A : List Int) (u : Nat) : Int := sumTo (fun i => A.getD i 0 * gR q (n - i) u) (n + 1)
def knownV (q : Int) (n : Nat) (T : List Int) (u : Nat) : Int := sumTo (fun j => T.getD j 0 * gR q (n - j) (u - j)) u
def compV (q : Int) (n : Nat) (T : List Int) (u r : Nat) : Int := sumTo (fun i => T.getD i 0 * gR q (n - i) u) r
section
variable {q : Int} (h : q = 2 ∨ q = 3) {n u k : Nat} {A : List Int} {d : D}
include h
theorem term_abs {a : Int} {w p : Nat} (ha : a.natAbs ≤ 2 ^ k) (hw : w ≤ 40) (hp : p ≤ 40) : (a * gR q w p).natAbs ≤ 2 ^ (k + 3280) := abs_mul ha (gR_abs h hw hp)
theorem spread_abs (hb : Bl k A) (hn : n ≤ 12) (hu : u ≤ 12) : (spreadV q n A u).natAbs ≤ 2 ^ (k + 3284) :=
  sumTo_abs' (k := k + 3280) (by omega) fun i _ => term_abs h (hb i) (by omega) (by omega)
theorem known_abs (hb : Bl k A) (hn : n ≤ 12) (hu : u ≤ 12) : (knownV q n A u).natAbs ≤ 2 ^ (k + 3284) :=
  sumTo_abs' (k := k + 3280) (by omega) fun i _ => term_abs h (hb i) (by omega) (by omega)
theorem comp_abs {r : Nat} (hb : Bl k A) (hn : n ≤ 12) (hu : u ≤ 12) (hr : r ≤ 13) : (compV q n A u r).natAbs ≤ 2 ^ (k + 3284) :=
  sumTo_abs' (k := k + 3280) (by omega) fun i _ => term_abs h (hb i) (by omega) (by omega)
theorem lspread_eq (z : SeqD d (izs A)) (la : n + 1 ≤ A.length) (hb : Bl k A) (hk : k ≤ 500000) (hn : n ≤ 12) (hu : u ≤ 12) : F__law_spread [.int (n : Int), d, .int (u : Int), .lst (rowsL q 13)] = .ok false (.int (spreadV q n A u)) .non := by
  have lc := lc_each (g := gN 4) (own := [4]) (elt := L__law_spread_1) (E := [.sh (.int (n : Int)), .sh d, .sh (.int (u : Int)), .sh (.lst (rowsL q 13)), .no]) (fun i : Nat => .int (0 + (i : Int))) (fun i => .int (A.getD i 0 * gR q (n - i) u)) (List.range (n + 1)) (by rw [List.length_range]; unfold lim; omega) fun i hi => by
    have hi := List.mem_range.mp hi
    have x1 := z.at (i := i) (by omega)
    have x2 := lat_n (q := q) (a := n - i) (b := u) (by omega)
    rw [show ((n - i : Nat) : Int) = (n : Int) - (i : Int) by omega] at x2
    have m1 : mulOk (A.getD i 0) (gR q (n - i) u) = true := mulOk2 (hb i) (gR_abs h (by omega) (by omega)) (by omega)
    rw [Int.zero_add]
    exact ⟨[.sh (.int (n : Int)), .sh d, .sh (.int (u : Int)), .sh (.lst (rowsL q 13)), .sh (.int (i : Int))], _, _, _, _, by simp! only [if_true], rfl, by simp! only [L__law_spread_1, x1, x2, e_mulI m1]; rfl, f_val, by simp! only [if_true]⟩
  rw [← rngD_map] at lc
  have ok1 : okR ((n : Int) + 1) = true := okR_of (by omega)
  have n1 : ((n : Int) + 1).toNat = n + 1 := by omega
  simp! only [F__law_spread_eq, B__law_spread, ok1, n1, lc, sum_rng]
  rfl
theorem spread_eq (z : SeqD d (izs A)) (la : n + 1 ≤ A.length) (hb : Bl k A) (hk : k ≤ 500000) (hn : n ≤ 12) (hu : u ≤ 12) : F_spread_sum [.int q, .int (n : Int), d, .int (u : Int)] = .ok false (.int (spreadV q n A u)) .non := by
  have lc := lc_each (g := gN 4) (own := [4]) (elt := L_spread_sum_1) (E := [.sh (.int q), .sh (.int (n : Int)), .sh d, .sh (.int (u : Int)), .no]) (fun i : Nat => .int (0 + (i : Int))) (fun i => .int (A.getD i 0 * gR q (n - i) u)) (List.range (n + 1)) (by rw [List.length_range]; unfold lim; omega) fun i hi => by
    have hi := List.mem_range.mp hi
    have x1 := z.at (i := i) (by omega)
    have x2 := space_n h (w := n - i) (p := u) (by omega)
    rw [show ((n - i : Nat) : Int) = (n : Int) - (i : Int) by omega] at x2
    have m1 : mulOk (A.getD i 0) (gR q (n - i) u) = true := mulOk2 (hb i) (gR_abs h (by omega) (by omega)) (by omega)
    rw [Int.zero_add]
    exact ⟨[.sh (.int q), .sh (.int (n : Int)), .sh d, .sh (.int (u : Int)), .sh (.int (i : Int))], _, _, _, _, by simp! only [if_true], rfl, by simp! only [L_spread_sum_1, x1, x2, e_mulI m1]; rfl, f_val, by simp! only [if_true]⟩
  rw [← rngD_map] at lc
  have ok1 : okR ((n : Int) + 1) = true := okR_of (by omega)
  have n1 : ((n : Int) + 1).toNat = n + 1 := by omega
  simp! only [F_spread_sum_eq, B_spread_sum, ok1, n1, lc, sum_rng]
  rfl
theorem lknown_eq (z : SeqD d (izs A)) (la : u ≤ A.length) (hb : Bl k A) (hk : k ≤ 500000) (hn : n ≤ 12) (hu : u ≤ n) : F__law_known [.int (n : Int), d, .int (u : Int), .lst (rowsL q 13)] = .ok false (.int (knownV q n A u)) .non := by
  have lc := lc_each (g := gN 4) (own := [4]) (elt := L__law_known_1) (E := [.sh (.int (n : Int)), .sh d, .sh (.int (u : Int)), .sh (.lst (rowsL q 13)), .no]) (fun i : Nat => .int (0 + (i : Int))) (fun i => .int (A.getD i 0 * gR q (n - i) (u - i))) (List.range u) (by rw [List.length_range]; unfold lim; omega) fun i hi => by
    have hi := List.mem_range.mp hi
    have x1 := z.at (i := i) (by omega)
    have x2 := lat_n (q := q) (a := n - i) (b := u - i) (by omega)
    rw [show ((n - i : Nat) : Int) = (n : Int) - (i : Int) by omega, show ((u - i : Nat) : Int) = (u : Int) - (i : Int) by omega] at x2
    have m1 : mulOk (A.getD i 0) (gR q (n - i) (u - i)) = true := mulOk2 (hb i) (gR_abs h (by omega) (by omega)) (by omega)
    rw [Int.zero_add]
    exact ⟨[.sh (.int (n : Int)), .sh d, .sh (.int (u : Int)), .sh (.lst (rowsL q 13)), .sh (.int (i : Int))], _, _, _, _, by simp! only [if_true], rfl, by simp! only [L__law_known_1, x1, x2, e_mulI m1]; rfl, f_val, by simp! only [if_true]⟩
  rw [← rngD_map] at lc
  have ok1 : okR (u : Int) = true := okR_of (by omega)
  simp! only [F__law_known_eq, B__law_known, ok1, Int.toNat_natCast, lc, sum_rng]
  rfl
theorem known_eq (z : SeqD d (izs A)) (la : u ≤ A.length) (hb : Bl k A) (hk : k ≤ 500000) (hn : n ≤ 12) (hu : u ≤ n) : F_known_part [.int q, .int (n : Int), d, .int (u : Int)] = .ok false (.int (knownV q n A u)) .non := by
  have lc := lc_each (g := gN 4) (own := [4]) (elt := L_known_part_1) (E := [.sh (.int q), .sh (.int (n : Int)), .sh d, .sh (.int (u : Int)), .no]) (fun i : Nat => .int (0 + (i : Int))) (fun i => .int (A.getD i 0 * gR q (n - i) (u - i))) (List.range u) (by rw [List.length_range]; unfold lim; omega) fun i hi => by
    have hi := List.mem_range.mp hi
    have x1 := z.at (i := i) (by omega)
    have x2 := space_n h (w := n - i) (p := u - i) (by omega)
    rw [show ((n - i : Nat) : Int) = (n : Int) - (i : Int) by omega, show ((u - i : Nat) : Int) = (u : Int) - (i : Int) by omega] at x2
    have m1 : mulOk (A.getD i 0) (gR q (n - i) (u - i)) = true := mulOk2 (hb i) (gR_abs h (by omega) (by omega)) (by omega)
    rw [Int.zero_add]
    exact ⟨[.sh (.int q), .sh (.int (n : Int)), .sh d, .sh (.int (u : Int)), .sh (.int (i : Int))], _, _, _, _, by simp! only [if_true], rfl, by simp! only [L_known_part_1, x1, x2, e_mulI m1]; rfl, f_val, by simp! only [if_true]⟩
  rw [← rngD_map] at lc
  have ok1 : okR (u : Int) = true := okR_of (by omega)
  simp! only [F_known_part_eq, B_known_part, ok1, Int.toNat_natCast, lc, sum_rng]
  rfl
end
/-! ### rests, turned counts, completed counts -/
theorem getD_app {l : List Int} {x : Int} (i : Nat) : (l ++ [x]).getD i 0 = if i < l.length then l.getD i 0 else if i = l.length then x else 0 := by
  rw [List.getD_eq_getElem?_getD, List.getD_eq_getElem?_getD]
  by_cases c : i < l.length
  · rw [if_pos c, List.getElem?_append_left c]
  · rw [if_neg c, List.getElem?_append_right (by omega)]
    by_cases e : i = l.length
    · rw [if_pos e, e, Nat.sub_self]; rfl
    · rw [if_neg e, List.getElem?_eq_none (by simp; omega)]; rfl
theorem Bl.app {k : Nat} {l : List Int} {x : Int} (h : Bl k l) (hx : x.natAbs ≤ 2 ^ k) : Bl k (l ++ [x]) := fun i => by
  rw [getD_app]
  split
  · exact h i
  · split
    · exact hx
    · simp
theorem Bl.mono {k m : Nat} {l : List Int} (h : Bl k l) (hm : k ≤ m) : Bl m l := fun i => abs_mono (h i) hm
theorem Bl.nil {k : Nat} : Bl k [] := fun i => by simp
def NN (l : List Int) : Prop := ∀ i, 0 ≤ l.getD i 0
theorem NN.app {l : List Int} {x : Int} (h : NN l) (hx : 0 ≤ x) : NN (l ++ [x]) := fun i => by
  rw [getD_app]
  split
  · exact h i
  · split
    · exact hx
    · simp
theorem NN.nil : NN [] := fun i => by simp
theorem sumTo_nn {f : Nat → Int} : ∀ n, (∀ i, i < n → 0 ≤ f i) → 0 ≤ sumTo f n
  | 0, _ => Int.le_refl _
  | n + 1, h => Int.add_nonneg (sumTo_nn n fun i hi => h i (by omega)) (h n (by omega))
def restTop (q : Int) (m n : Nat) (s : Int) (A l : List Int) (u : Nat) : Int := q ^ (m * u) * spreadV q n A u - s * knownV q n l u
def restOk (q : Int) (m n : Nat) (s : Int) (A : List Int) (u : Nat) (l : List Int) : Bool := decide (0 ≤ restTop q m n s A l u) && decide (restTop q m n s A l u % s = 0)
def restSt (q : Int) (m n : Nat) (s : Int) (A : List Int) (u : Nat) (l : List Int) : List Int := l ++ [restTop q m n s A l u / s]
def restR (q : Int) (m n : Nat) (s : Int) (A : List Int) : Sum (Nat × List Int) (List Int) := upTo (restSt q m n s A) (restOk q m n s A) (n + 1) 0 []
def numD (t : Str) : Sum (Nat × List Int) (List Int) → D
  | .inl (u, _) => .tup [.str t, .int (u : Nat)]
  | .inr l => .tup [.str "row", .lst (izs l)]
structure Told (k : Nat) (r : Nat) (l : List Int) : Prop where
  len : l.length = r
  nn : NN l
  bl : Bl k l
theorem Told.nil {k : Nat} : Told k 0 [] := ⟨rfl, NN.nil, Bl.nil⟩
section
variable {q : Int} (h : q = 2 ∨ q = 3) {m n k : Nat} {s : Int} {A : List Int} {d : D}
include h
theorem known_nn {l : List Int} (hl : NN l) (u : Nat) : 0 ≤ knownV q n l u := sumTo_nn u fun i _ => Int.mul_nonneg (hl i) (gR_nonneg (q_two h) _ _)
theorem comp_nn {l : List Int} (hl : NN l) (u r : Nat) : 0 ≤ compV q n l u r := sumTo_nn r fun i _ => Int.mul_nonneg (hl i) (gR_nonneg (q_two h) _ _)
theorem spread_nn {l : List Int} (hl : NN l) (u : Nat) : 0 ≤ spreadV q n l u := sumTo_nn _ fun i _ => Int.mul_nonneg (hl i) (gR_nonneg (q_two h) _ _)
theorem top_abs (hb : Bl k A) (hm : m ≤ 12) (hn : n ≤ 12) {u : Nat} (hu : u ≤ n) : (q ^ (m * u) * spreadV q n A u).natAbs ≤ 2 ^ (k + 3584) := by
  have m1 : m * u ≤ 144 := Nat.mul_le_mul hm (show u ≤ 12 by omega)
  exact abs_mono (abs_mul (q_pow2 h (n := m * u) (by omega)) (spread_abs h hb hn (by omega))) (by omega)
theorem restI (s0 : 0 < s) (hA : Bl k A) (hm : m ≤ 12) (hn : n ≤ 12) : ∀ r l, r < n + 1 → Told (k + 3584) r l → restOk q m n s A r l = true → Told (k + 3584) (r + 1) (restSt q m n s A r l) := fun r l hr t o => by
  unfold restOk at o
  rw [Bool.and_eq_true, decide_eq_true_eq, decide_eq_true_eq] at o
  have x0 : 0 ≤ restTop q m n s A l r / s := Int.ediv_nonneg o.1 (by omega)
  have b := top_abs h (m := m) hA hm hn (u := r) (by omega)
  have kn : 0 ≤ s * knownV q n l r := Int.mul_nonneg (by omega) (known_nn h t.nn r)
  have le1 : restTop q m n s A l r / s ≤ restTop q m n s A l r := Int.ediv_le_self _ o.1
  have e : restTop q m n s A l r = q ^ (m * r) * spreadV q n A r - s * knownV q n l r := rfl
  refine ⟨by unfold restSt; simp [t.len], t.nn.app x0, t.bl.app ?_⟩
  generalize 2 ^ (k + 3584) = B at b
  omega
theorem lrest_turn (s0 : 0 < s) (z : SeqD d (izs A)) (la : n + 1 ≤ A.length) (hA : Bl k A) (hk : k ≤ 20000) (hs : s.natAbs ≤ 2 ^ 8000) (hm : m ≤ 12) (hn : n ≤ 12) {r : Nat} {l : List Int} (hr : r < n + 1) (t : Told (k + 3584) r l) :
    turn (gN 7) [7, 8] L__law_rest_1 (.int (r : Nat)) [.sh (.int q), .sh (.int (m : Int)), .sh (.int (n : Int)), .sh (.int s), .sh d, .sh (.lst (rowsL q 13)), .ow (.lst (izs l)), .no, .no] = if restOk q m n s A r l = true then .ok .nx [.sh (.int q), .sh (.int (m : Int)), .sh (.int (n : Int)), .sh (.int s), .sh d, .sh (.lst (rowsL q 13)), .ow (.lst (izs (restSt q m n s A r l))), .no, .no]
      else .ok (.rt (.val (.tup [.str "none", .int (r : Nat)]))) [.sh (.int q), .sh (.int (m : Int)), .sh (.int (n : Int)), .sh (.int s), .sh d, .sh (.lst (rowsL q 13)), .ow (.lst (izs l)), .sh (.int (r : Nat)), .sh (.int (restTop q m n s A l r))] := by
  have m1 : m * r ≤ 144 := Nat.mul_le_mul hm (show r ≤ 12 by omega)
  have e1 := lpow_n h (e := m * r) (by omega)
  rw [Int.natCast_mul] at e1
  have e2 := lspread_eq h z la hA (by omega) hn (u := r) (by omega)
  have e3 := lknown_eq h (A := l) (u := r) (n := n) (.inl rfl) (by rw [t.len]; omega) t.bl (by omega) hn (by omega)
  have o1 : mulOk (m : Int) (r : Int) = true := mulOk_le (a := 10) (b := 10) (by omega) (by omega) (by omega)
  have o2 := mulOk2 (q_pow2 h (n := m * r) (by omega)) (spread_abs h hA hn (u := r) (by omega)) (by omega)
  have o3 := mulOk2 hs (known_abs h t.bl hn (u := r) (by omega)) (by omega)
  have o4 : divOk s = true := divOk_of s0 (lt_two hs) (by omega)
  have ll : (izs l).length < lim := by rw [izs_len, t.len]; unfold lim; omega
  have top : q ^ (m * r) * spreadV q n A r - s * knownV q n l r = restTop q m n s A l r := rfl
  have st : izs (restSt q m n s A r l) = izs l ++ [.int (restTop q m n s A l r / s)] := izs_app _ _
  rw [st]
  unfold restOk
  by_cases c : restTop q m n s A l r < 0
  · rw [decide_eq_false (show ¬ 0 ≤ restTop q m n s A l r by omega), Bool.false_and, if_neg (by decide)]
    simp! only [L__law_rest_1, e1, e2, e3, e_mulI o1, e_mulI o2, e_mulI o3, top, c]
  · rw [decide_eq_true (show 0 ≤ restTop q m n s A l r by omega), Bool.true_and]
    by_cases c2 : restTop q m n s A l r % s = 0
    · rw [decide_eq_true c2, if_pos rfl]
      have dc : decide (restTop q m n s A l r % s = 0) = true := decide_eq_true c2
      simp! only [L__law_rest_1, e1, e2, e3, e_mulI o1, e_mulI o2, e_mulI o3, top, c, e_modI s0, dc, e_divI o4, ll]
    · rw [decide_eq_false c2, if_neg (by decide)]
      have dc : decide (restTop q m n s A l r % s = 0) = false := decide_eq_false c2
      simp! only [L__law_rest_1, e1, e2, e3, e_mulI o1, e_mulI o2, e_mulI o3, top, c, e_modI s0, dc]
theorem lrest_eq (s0 : 0 < s) (z : SeqD d (izs A)) (la : n + 1 ≤ A.length) (hA : Bl k A) (hk : k ≤ 20000) (hs : s.natAbs ≤ 2 ^ 8000) (hm : m ≤ 12) (hn : n ≤ 12) : F__law_rest [.int q, .int (m : Int), .int (n : Int), .int s, d, .lst (rowsL q 13)] = .ok false (numD "none" (restR q m n s A)) .non := by
  have L := loop_up (g := gN 7) (junk := [7, 8]) (body := L__law_rest_1) (n + 1) (fun _ l => [.sh (.int q), .sh (.int (m : Int)), .sh (.int (n : Int)), .sh (.int s), .sh d, .sh (.lst (rowsL q 13)), .ow (.lst (izs l)), .no, .no]) (restSt q m n s A) (restOk q m n s A)
    (fun r l => .ok (.rt (.val (.tup [.str "none", .int (r : Nat)]))) [.sh (.int q), .sh (.int (m : Int)), .sh (.int (n : Int)), .sh (.int s), .sh d, .sh (.lst (rowsL q 13)), .ow (.lst (izs l)), .sh (.int (r : Nat)), .sh (.int (restTop q m n s A l r))])
    (Told (k + 3584)) (restI h s0 hA hm hn) (fun r l => ⟨fun e z => (by cases z), fun e z => (by cases z)⟩) (fun r l hr t => lrest_turn h s0 z la hA hk hs hm hn hr t) (n + 1) 0 [] (by omega) Told.nil
  rw [show ((0 : Nat) : Int) = 0 from rfl, show izs [] = [] from rfl] at L
  have ok1 : okR ((n : Int) + 1) = true := okR_of (by omega)
  have n1 : ((n : Int) + 1).toNat = n + 1 := by omega
  unfold restR
  cases c : upTo (restSt q m n s A) (restOk q m n s A) (n + 1) 0 [] with
  | inl p =>
    rw [c] at L
    simp! only [F__law_rest_eq, B__law_rest, ok1, n1, L, numD]
  | inr l =>
    rw [c] at L
    simp! only [F__law_rest_eq, B__law_rest, ok1, n1, L, numD]
end
/-! turned -/
def turnL (q : Int) (m n : Nat) (A : List Int) : Nat → List Int
  | 0 => []
  | u + 1 => turnL q m n A u ++ [q ^ (m * u) * spreadV q n A u - knownV q n (turnL q m n A u) u]
theorem turnL_len (q : Int) (m n : Nat) (A : List Int) : ∀ u, (turnL q m n A u).length = u
  | 0 => rfl
  | u + 1 => by
    show (turnL q m n A u ++ [_]).length = u + 1
    rw [List.length_append, turnL_len q m n A u]; rfl
section
variable {q : Int} (h : q = 2 ∨ q = 3) {m n k : Nat} {A : List Int} {d : D}
include h
theorem turn_bl (hA : Bl k A) (hm : m ≤ 12) (hn : n ≤ 12) : ∀ u, u ≤ n + 1 → Bl (k + 4000 * (u + 1)) (turnL q m n A u)
  | 0, _ => Bl.nil
  | u + 1, hu => by
    have ih := turn_bl hA hm hn u (by omega)
    have a := top_abs h (m := m) hA hm hn (u := u) (by omega)
    have b := known_abs h ih hn (u := u) (by omega)
    exact (ih.mono (by omega)).app (abs_mono (abs_sub (m := k + 4000 * (u + 1) + 3284) (abs_mono a (by omega)) b) (by omega))
theorem turned_turn (z : SeqD d (izs A)) (la : n + 1 ≤ A.length) (hA : Bl k A) (hk : k ≤ 20000) (hm : m ≤ 12) (hn : n ≤ 12) {u : Nat} (hu : u < n + 1) :
    turn (gN 5) [5, 6] L_turned_counts_1 (.int (0 + (u : Int))) [.sh (.int q), .sh (.int (m : Int)), .sh (.int (n : Int)), .sh d, .ow (.lst (izs (turnL q m n A u))), .no, .no] = .ok .nx [.sh (.int q), .sh (.int (m : Int)), .sh (.int (n : Int)), .sh d, .ow (.lst (izs (turnL q m n A (u + 1)))), .no, .no] := by
  have m1 : m * u ≤ 144 := Nat.mul_le_mul hm (show u ≤ 12 by omega)
  have e1 := pow_n h (e := m * u) (by omega)
  rw [Int.natCast_mul] at e1
  have bl := turn_bl h (m := m) hA hm hn u (by omega)
  have e2 := spread_eq h z la hA (by omega) hn (u := u) (by omega)
  have e3 := known_eq h (A := turnL q m n A u) (u := u) (n := n) (.inl rfl) (by rw [turnL_len]; omega) bl (by omega) hn (by omega)
  have o1 : mulOk (m : Int) (u : Int) = true := mulOk_le (a := 10) (b := 10) (by omega) (by omega) (by omega)
  have o2 := mulOk2 (q_pow2 h (n := m * u) (by omega)) (spread_abs h hA hn (u := u) (by omega)) (by omega)
  have ll : (izs (turnL q m n A u)).length < lim := by rw [izs_len, turnL_len]; unfold lim; omega
  have st : izs (turnL q m n A (u + 1)) = izs (turnL q m n A u) ++ [.int (q ^ (m * u) * spreadV q n A u - knownV q n (turnL q m n A u) u)] := izs_app _ _
  rw [st, Int.zero_add]
  simp! only [L_turned_counts_1, e1, e2, e3, e_mulI o1, e_mulI o2, ll]
theorem lturned_turn (z : SeqD d (izs A)) (la : n + 1 ≤ A.length) (hA : Bl k A) (hk : k ≤ 20000) (hm : m ≤ 12) (hn : n ≤ 12) {u : Nat} (hu : u < n + 1) :
    turn (gN 6) [6, 7] L__law_turned_1 (.int (0 + (u : Int))) [.sh (.int q), .sh (.int (m : Int)), .sh (.int (n : Int)), .sh d, .sh (.lst (rowsL q 13)), .ow (.lst (izs (turnL q m n A u))), .no, .no] = .ok .nx [.sh (.int q), .sh (.int (m : Int)), .sh (.int (n : Int)), .sh d, .sh (.lst (rowsL q 13)), .ow (.lst (izs (turnL q m n A (u + 1)))), .no, .no] := by
  have m1 : m * u ≤ 144 := Nat.mul_le_mul hm (show u ≤ 12 by omega)
  have e1 := lpow_n h (e := m * u) (by omega)
  rw [Int.natCast_mul] at e1
  have bl := turn_bl h (m := m) hA hm hn u (by omega)
  have e2 := lspread_eq h z la hA (by omega) hn (u := u) (by omega)
  have e3 := lknown_eq h (A := turnL q m n A u) (u := u) (n := n) (.inl rfl) (by rw [turnL_len]; omega) bl (by omega) hn (by omega)
  have o1 : mulOk (m : Int) (u : Int) = true := mulOk_le (a := 10) (b := 10) (by omega) (by omega) (by omega)
  have o2 := mulOk2 (q_pow2 h (n := m * u) (by omega)) (spread_abs h hA hn (u := u) (by omega)) (by omega)
  have ll : (izs (turnL q m n A u)).length < lim := by rw [izs_len, turnL_len]; unfold lim; omega
  have st : izs (turnL q m n A (u + 1)) = izs (turnL q m n A u) ++ [.int (q ^ (m * u) * spreadV q n A u - knownV q n (turnL q m n A u) u)] := izs_app _ _
  rw [st, Int.zero_add]
  simp! only [L__law_turned_1, e1, e2, e3, e_mulI o1, e_mulI o2, ll]
theorem lturned_eq (z : SeqD d (izs A)) (la : n + 1 ≤ A.length) (hA : Bl k A) (hk : k ≤ 20000) (hm : m ≤ 12) (hn : n ≤ 12) : F__law_turned [.int q, .int (m : Int), .int (n : Int), d, .lst (rowsL q 13)] = .ok true (.lst (izs (turnL q m n A (n + 1)))) .non := by
  have L := loop_rng (g := gN 6) (junk := [6, 7]) (body := L__law_turned_1) (fun u => [.sh (.int q), .sh (.int (m : Int)), .sh (.int (n : Int)), .sh d, .sh (.lst (rowsL q 13)), .ow (.lst (izs (turnL q m n A u))), .no, .no]) 0 (n + 1) fun u hu => lturned_turn h z la hA hk hm hn hu
  have ok1 : okR ((n : Int) + 1) = true := okR_of (by omega)
  have n1 : ((n : Int) + 1).toNat = n + 1 := by omega
  rw [show izs (turnL q m n A 0) = [] from rfl] at L
  simp! only [F__law_turned_eq, B__law_turned, ok1, n1, L]
/-- turned counts of good arguments: the checks ahead are facts -/
theorem turned_eq (z : SeqD d (izs A)) (la : A.length = n + 1) (hA : Bl k A) (hk : k ≤ 20000) (hm : m ≤ 12) (hn : n ≤ 12) (cs : F_check_sizes [.int q, .int (m : Int), .int (n : Int)] = .ok false .non .non) (ic : F_is_counts [.int (n : Int), d] = .ok false (.bl true) .non)
    (a0 : ¬ A.getD 0 0 = 0) (sm : A.sum = A.getD 0 0 * A.getD 0 0) : F_turned_counts [.int q, .int (m : Int), .int (n : Int), d] = .ok false (.tup (izs (turnL q m n A (n + 1)))) .non := by
  have L := loop_rng (g := gN 5) (junk := [5, 6]) (body := L_turned_counts_1) (fun u => [.sh (.int q), .sh (.int (m : Int)), .sh (.int (n : Int)), .sh d, .ow (.lst (izs (turnL q m n A u))), .no, .no]) 0 (n + 1) fun u hu => turned_turn h z (by omega) hA hk hm hn hu
  have ok1 : okR ((n : Int) + 1) = true := okR_of (by omega)
  have n1 : ((n : Int) + 1).toNat = n + 1 := by omega
  have x0 : dIx d (.int 0) = some (.val (.int (A.getD 0 0))) := z.at (i := 0) (by omega)
  have o := mulOk2 (hA 0) (hA 0) (by omega)
  have d1 : decide (A.sum = A.getD 0 0 * A.getD 0 0) = true := decide_eq_true sm
  rw [show izs (turnL q m n A 0) = [] from rfl] at L
  simp! only [F_turned_counts_eq, B_turned_counts, cs, ic, x0, a0, z.sum, e_mulI o, d1, ok1, n1, L]
end
/-! completed -/
def cTop (q : Int) (n : Nat) (s : Int) (r : Nat) : Int := s * gR q n (n - r)
def cBot (q : Int) (m n r : Nat) : Int := q ^ (m * (n - r))
def compOk (q : Int) (m n : Nat) (s : Int) (r : Nat) (l : List Int) : Bool := decide (cTop q n s r % cBot q m n r = 0) && decide (compV q n l (n - r) r ≤ cTop q n s r / cBot q m n r)
def compSt (q : Int) (m n : Nat) (s : Int) (r : Nat) (l : List Int) : List Int := l ++ [cTop q n s r / cBot q m n r - compV q n l (n - r) r]
def compR (q : Int) (m n : Nat) (s : Int) (A : List Int) : Sum (Nat × List Int) (List Int) := upTo (compSt q m n s) (compOk q m n s) (n + 1 - A.length) A.length A
section
variable {q : Int} (h : q = 2 ∨ q = 3) {m n k : Nat} {s : Int} {A : List Int} {d : D}
include h
theorem bot_ok (hm : m ≤ 12) (hn : n ≤ 12) (r : Nat) : 0 < cBot q m n r ∧ divOk (cBot q m n r) = true := by
  have m1 : m * (n - r) ≤ 144 := Nat.mul_le_mul hm (show n - r ≤ 12 by omega)
  have p := pow_pos1 (q_two h) (m * (n - r))
  have p : 0 < cBot q m n r := by unfold cBot; omega
  exact ⟨p, divOk_of p (lt_two (q_pow2 h (n := m * (n - r)) (by omega))) (by omega)⟩
theorem cTop_abs (hs : s.natAbs ≤ 2 ^ 8000) (hn : n ≤ 12) (r : Nat) : (cTop q n s r).natAbs ≤ 2 ^ 11280 := abs_mono (abs_mul hs (gR_abs h (w := n) (p := n - r) (by omega) (by omega))) (by omega)
theorem compI (s0 : 0 < s) (hs : s.natAbs ≤ 2 ^ 8000) (hm : m ≤ 12) (hn : n ≤ 12) : ∀ r l, r < n + 1 → Told 11280 r l → compOk q m n s r l = true → Told 11280 (r + 1) (compSt q m n s r l) := fun r l hr t o => by
  unfold compOk at o
  rw [Bool.and_eq_true, decide_eq_true_eq, decide_eq_true_eq] at o
  have b := cTop_abs h hs hn r
  have t0 : 0 ≤ cTop q n s r := Int.mul_nonneg (by omega) (gR_nonneg (q_two h) _ _)
  have le1 : cTop q n s r / cBot q m n r ≤ cTop q n s r := Int.ediv_le_self _ t0
  have kn := comp_nn h (n := n) t.nn (n - r) r
  refine ⟨by unfold compSt; simp [t.len], t.nn.app (by omega), t.bl.app ?_⟩
  generalize 2 ^ 11280 = B at b
  omega
theorem comp_lc (z : SeqD d (izs A)) (la : A.length = k) (hA : Bl 11280 A) (hn : n ≤ 12) (hk : k ≤ n) {u : Nat} (hu : u ≤ n) {s0 s1 s3 s4 s6 s8 s9 s10 : S} (hd : s5 = .ow d ∨ s5 = .sh d) :
    mLcLoop (gN 11) [11] mYes L_completed_counts_1 (rngD 0 k) [] [.sh (.int q), s1, .sh (.int (n : Int)), s3, s4, s5, s6, .sh (.int (u : Int)), s8, s9, s10, .no] = .ok ((List.range k).map fun i => .int (A.getD i 0 * gR q (n - i) u)) [.sh (.int q), s1, .sh (.int (n : Int)), s3, s4, s5, s6, .sh (.int (u : Int)), s8, s9, s10, .no] := by
  rw [rngD_map]
  refine lc_each (fun i : Nat => .int (0 + (i : Int))) (fun i => .int (A.getD i 0 * gR q (n - i) u)) (List.range k) (by rw [List.length_range]; unfold lim; omega) fun i hi => ?_
  have hi := List.mem_range.mp hi
  have x1 := z.at (i := i) (by omega)
  have x2 := space_n h (w := n - i) (p := u) (by omega)
  rw [show ((n - i : Nat) : Int) = (n : Int) - (i : Int) by omega] at x2
  have m1 : mulOk (A.getD i 0) (gR q (n - i) u) = true := mulOk2 (hA i) (gR_abs h (by omega) (by omega)) (by omega)
  rw [Int.zero_add]
  refine lcV (e1 := [.sh (.int q), s1, .sh (.int (n : Int)), s3, s4, s5, s6, .sh (.int (u : Int)), s8, s9, s10, .sh (.int (i : Int))]) (by simp! only [if_true]) (e3 := [.sh (.int q), s1, .sh (.int (n : Int)), s3, s4, s5, s6, .sh (.int (u : Int)), s8, s9, s10, .sh (.int (i : Int))]) ?_ (by simp! only [if_true])
  rcases hd with rfl | rfl <;> simp! only [L_completed_counts_1, x1, x2, e_mulI m1]
theorem lcomp_lc (z : SeqD d (izs A)) (la : A.length = k) (hA : Bl 11280 A) (hn : n ≤ 12) (hk : k ≤ n) {u : Nat} (hu : u ≤ n) {s0 s1 s3 s4 s7 s9 s10 s11 : S} (hd : s6 = .ow d ∨ s6 = .sh d) :
    mLcLoop (gN 12) [12] mYes L__law_completed_1 (rngD 0 k) [] [s0, s1, .sh (.int (n : Int)), s3, s4, .sh (.lst (rowsL q 13)), s6, s7, .sh (.int (u : Int)), s9, s10, s11, .no] = .ok ((List.range k).map fun i => .int (A.getD i 0 * gR q (n - i) u)) [s0, s1, .sh (.int (n : Int)), s3, s4, .sh (.lst (rowsL q 13)), s6, s7, .sh (.int (u : Int)), s9, s10, s11, .no] := by
  rw [rngD_map]
  refine lc_each (fun i : Nat => .int (0 + (i : Int))) (fun i => .int (A.getD i 0 * gR q (n - i) u)) (List.range k) (by rw [List.length_range]; unfold lim; omega) fun i hi => ?_
  have hi := List.mem_range.mp hi
  have x1 := z.at (i := i) (by omega)
  have x2 := lat_n (q := q) (a := n - i) (b := u) (by omega)
  rw [show ((n - i : Nat) : Int) = (n : Int) - (i : Int) by omega] at x2
  have m1 : mulOk (A.getD i 0) (gR q (n - i) u) = true := mulOk2 (hA i) (gR_abs h (by omega) (by omega)) (by omega)
  rw [Int.zero_add]
  refine lcV (e1 := [s0, s1, .sh (.int (n : Int)), s3, s4, .sh (.lst (rowsL q 13)), s6, s7, .sh (.int (u : Int)), s9, s10, s11, .sh (.int (i : Int))]) (by simp! only [if_true]) (e3 := [s0, s1, .sh (.int (n : Int)), s3, s4, .sh (.lst (rowsL q 13)), s6, s7, .sh (.int (u : Int)), s9, s10, s11, .sh (.int (i : Int))]) ?_ (by simp! only [if_true])
  rcases hd with rfl | rfl <;> simp! only [L__law_completed_1, x1, x2, e_mulI m1]
theorem comp_turn (s0 : 0 < s) (hs : s.natAbs ≤ 2 ^ 8000) (hm : m ≤ 12) (hn : n ≤ 12) {r : Nat} {l : List Int} (hr : r < n + 1) (t : Told 11280 r l) :
    turn (gN 6) [6, 7, 8, 9, 10] L_completed_counts_2 (.int (r : Nat)) [.sh (.int q), .sh (.int (m : Int)), .sh (.int (n : Int)), .sh (.int s), .sh d, .ow (.lst (izs l)), .no, .no, .no, .no, .no, .no] = if compOk q m n s r l = true then .ok .nx [.sh (.int q), .sh (.int (m : Int)), .sh (.int (n : Int)), .sh (.int s), .sh d, .ow (.lst (izs (compSt q m n s r l))), .no, .no, .no, .no, .no, .no]
      else .ex cl_NoLot ["rank"] [.int (r : Nat)] [.sh (.int q), .sh (.int (m : Int)), .sh (.int (n : Int)), .sh (.int s), .sh d, .ow (.lst (izs l)), .sh (.int (r : Nat)), .sh (.int ((n : Int) - (r : Int))), .sh (.int (cTop q n s r)), .sh (.int (cBot q m n r)), .sh (.int (compV q n l (n - r) r)), .no] := by
  have m1 : m * (n - r) ≤ 144 := Nat.mul_le_mul hm (show n - r ≤ 12 by omega)
  have eu : (n : Int) - (r : Int) = ((n - r : Nat) : Int) := by omega
  have e1 := pow_n h (e := m * (n - r)) (by omega)
  rw [Int.natCast_mul, show q ^ (m * (n - r)) = cBot q m n r from rfl] at e1
  have e2 := space_n h (w := n) (p := n - r) (by omega)
  have o1 : mulOk (m : Int) ((n - r : Nat) : Int) = true := mulOk_le (a := 10) (b := 10) (by omega) (by omega) (by omega)
  have o2 := mulOk2 hs (gR_abs h (w := n) (p := n - r) (by omega) (by omega)) (by omega)
  obtain ⟨p, dv⟩ := bot_ok h (m := m) hm hn r
  have ll : (izs l).length < lim := by rw [izs_len, t.len]; unfold lim; omega
  have ok1 : okR (r : Int) = true := okR_of (by omega)
  have st : izs (compSt q m n s r l) = izs l ++ [.int (cTop q n s r / cBot q m n r - compV q n l (n - r) r)] := izs_app _ _
  have tp : s * gR q n (n - r) = cTop q n s r := rfl
  have sm := sum_rng (fun i => l.getD i 0 * gR q (n - i) (n - r)) r
  rw [show sumTo (fun i => l.getD i 0 * gR q (n - i) (n - r)) r = compV q n l (n - r) r from rfl] at sm
  by_cases hrn : r ≤ n
  · have lc := comp_lc h (d := .lst (izs l)) (A := l) (.inl rfl) t.len t.bl hn hrn (u := n - r) (by omega) (s0 := .no) (s1 := .sh (.int (m : Int))) (s3 := .sh (.int s)) (s4 := .sh d) (s5 := .ow (.lst (izs l))) (s6 := .sh (.int (r : Nat))) (s8 := .sh (.int (cTop q n s r))) (s9 := .sh (.int (cBot q m n r))) (s10 := .no) (.inl rfl)
    unfold compOk
    rw [st, eu]
    by_cases c1 : cTop q n s r % cBot q m n r = 0
    · have d1 : decide (cTop q n s r % cBot q m n r = 0) = true := decide_eq_true c1
      by_cases c2 : cTop q n s r / cBot q m n r < compV q n l (n - r) r
      · rw [d1, decide_eq_false (show ¬ compV q n l (n - r) r ≤ cTop q n s r / cBot q m n r by omega), if_neg (by decide)]
        simp! only [L_completed_counts_2, eu, e1, e2, e_mulI o1, e_mulI o2, tp, ok1, Int.toNat_natCast, lc, sm, e_modI p, d1, e_divI dv, c2]
      · rw [d1, decide_eq_true (show compV q n l (n - r) r ≤ cTop q n s r / cBot q m n r by omega), if_pos (by decide)]
        simp! only [L_completed_counts_2, eu, e1, e2, e_mulI o1, e_mulI o2, tp, ok1, Int.toNat_natCast, lc, sm, e_modI p, d1, e_divI dv, c2, ll]
    · have d1 : decide (cTop q n s r % cBot q m n r = 0) = false := decide_eq_false c1
      rw [d1, if_neg (by simp)]
      simp! only [L_completed_counts_2, eu, e1, e2, e_mulI o1, e_mulI o2, tp, ok1, Int.toNat_natCast, lc, sm, e_modI p, d1]
  · omega
theorem lcomp_turn (s0 : 0 < s) (hs : s.natAbs ≤ 2 ^ 8000) (hm : m ≤ 12) (hn : n ≤ 12) {r : Nat} {l : List Int} (hr : r < n + 1) (t : Told 11280 r l) :
    turn (gN 7) [7, 8, 9, 10, 11] L__law_completed_2 (.int (r : Nat)) [.sh (.int q), .sh (.int (m : Int)), .sh (.int (n : Int)), .sh (.int s), .sh d, .sh (.lst (rowsL q 13)), .ow (.lst (izs l)), .no, .no, .no, .no, .no, .no] = if compOk q m n s r l = true then .ok .nx [.sh (.int q), .sh (.int (m : Int)), .sh (.int (n : Int)), .sh (.int s), .sh d, .sh (.lst (rowsL q 13)), .ow (.lst (izs (compSt q m n s r l))), .no, .no, .no, .no, .no, .no]
      else .ok (.rt (.val (.tup [.str "none", .int (r : Nat)]))) [.sh (.int q), .sh (.int (m : Int)), .sh (.int (n : Int)), .sh (.int s), .sh d, .sh (.lst (rowsL q 13)), .ow (.lst (izs l)), .sh (.int (r : Nat)), .sh (.int ((n : Int) - (r : Int))), .sh (.int (cTop q n s r)), .sh (.int (cBot q m n r)), .sh (.int (compV q n l (n - r) r)), .no] := by
  have m1 : m * (n - r) ≤ 144 := Nat.mul_le_mul hm (show n - r ≤ 12 by omega)
  have eu : (n : Int) - (r : Int) = ((n - r : Nat) : Int) := by omega
  have e1 := lpow_n h (e := m * (n - r)) (by omega)
  rw [Int.natCast_mul, show q ^ (m * (n - r)) = cBot q m n r from rfl] at e1
  have r1 := at_rows (q := q) (n := 13) (b := n) (by omega)
  have r2 : atI (rowL q n (n + 1)) ((n - r : Nat) : Int) = some (.int (gR q n (n - r))) := at_row (by omega)
  have o1 : mulOk (m : Int) ((n - r : Nat) : Int) = true := mulOk_le (a := 10) (b := 10) (by omega) (by omega) (by omega)
  have o2 := mulOk2 hs (gR_abs h (w := n) (p := n - r) (by omega) (by omega)) (by omega)
  obtain ⟨p, dv⟩ := bot_ok h (m := m) hm hn r
  have ll : (izs l).length < lim := by rw [izs_len, t.len]; unfold lim; omega
  have ok1 : okR (r : Int) = true := okR_of (by omega)
  have st : izs (compSt q m n s r l) = izs l ++ [.int (cTop q n s r / cBot q m n r - compV q n l (n - r) r)] := izs_app _ _
  have tp : s * gR q n (n - r) = cTop q n s r := rfl
  have sm := sum_rng (fun i => l.getD i 0 * gR q (n - i) (n - r)) r
  rw [show sumTo (fun i => l.getD i 0 * gR q (n - i) (n - r)) r = compV q n l (n - r) r from rfl] at sm
  by_cases hrn : r ≤ n
  · have lc := lcomp_lc h (d := .lst (izs l)) (A := l) (.inl rfl) t.len t.bl hn hrn (u := n - r) (by omega) (s0 := .sh (.int q)) (s1 := .sh (.int (m : Int))) (s3 := .sh (.int s)) (s4 := .sh d) (s6 := .ow (.lst (izs l))) (s7 := .sh (.int (r : Nat))) (s9 := .sh (.int (cTop q n s r))) (s10 := .sh (.int (cBot q m n r))) (s11 := .no) (.inl rfl)
    unfold compOk
    rw [st, eu]
    by_cases c1 : cTop q n s r % cBot q m n r = 0
    · have d1 : decide (cTop q n s r % cBot q m n r = 0) = true := decide_eq_true c1
      by_cases c2 : cTop q n s r / cBot q m n r < compV q n l (n - r) r
      · rw [d1, decide_eq_false (show ¬ compV q n l (n - r) r ≤ cTop q n s r / cBot q m n r by omega), if_neg (by decide)]
        simp! only [L__law_completed_2, eu, e1, r1, rowD, r2, e_mulI o1, e_mulI o2, tp, ok1, Int.toNat_natCast, lc, sm, e_modI p, d1, e_divI dv, c2]
      · rw [d1, decide_eq_true (show compV q n l (n - r) r ≤ cTop q n s r / cBot q m n r by omega), if_pos (by decide)]
        simp! only [L__law_completed_2, eu, e1, r1, rowD, r2, e_mulI o1, e_mulI o2, tp, ok1, Int.toNat_natCast, lc, sm, e_modI p, d1, e_divI dv, c2, ll]
    · have d1 : decide (cTop q n s r % cBot q m n r = 0) = false := decide_eq_false c1
      rw [d1, if_neg (by simp)]
      simp! only [L__law_completed_2, eu, e1, r1, rowD, r2, e_mulI o1, e_mulI o2, tp, ok1, Int.toNat_natCast, lc, sm, e_modI p, d1]
  · omega
theorem lcomp_eq (s0 : 0 < s) (z : SeqD d (izs A)) (l0 : A.length ≤ n + 1) (nn : NN A) (hA : Bl 11280 A) (hs : s.natAbs ≤ 2 ^ 8000) (hm : m ≤ 12) (hn : n ≤ 12) : F__law_completed [.int q, .int (m : Int), .int (n : Int), .int s, d, .lst (rowsL q 13)] = .ok false (numD "none" (compR q m n s A)) .non := by
  have L := loop_up (g := gN 7) (junk := [7, 8, 9, 10, 11]) (body := L__law_completed_2) (n + 1) (fun _ l => [.sh (.int q), .sh (.int (m : Int)), .sh (.int (n : Int)), .sh (.int s), .sh d, .sh (.lst (rowsL q 13)), .ow (.lst (izs l)), .no, .no, .no, .no, .no, .no]) (compSt q m n s) (compOk q m n s)
    (fun r l => .ok (.rt (.val (.tup [.str "none", .int (r : Nat)]))) [.sh (.int q), .sh (.int (m : Int)), .sh (.int (n : Int)), .sh (.int s), .sh d, .sh (.lst (rowsL q 13)), .ow (.lst (izs l)), .sh (.int (r : Nat)), .sh (.int ((n : Int) - (r : Int))), .sh (.int (cTop q n s r)), .sh (.int (cBot q m n r)), .sh (.int (compV q n l (n - r) r)), .no])
    (Told 11280) (compI h s0 hs hm hn) (fun r l => ⟨fun e z => (by cases z), fun e z => (by cases z)⟩) (fun r l hr t => lcomp_turn h s0 hs hm hn hr t) (n + 1 - A.length) A.length A (by omega) ⟨rfl, nn, hA⟩
  have ok1 : okR ((n : Int) + 1) = true := okR_of (by omega)
  have ok2 : okR ((A.length : Nat) : Int) = true := okR_of (by omega)
  have n1 : ((n : Int) + 1 - (A.length : Int)).toNat = n + 1 - A.length := by omega
  have zl := z.lst
  have ln := z.len
  rw [izs_len] at ln
  unfold compR
  cases c : upTo (compSt q m n s) (compOk q m n s) (n + 1 - A.length) A.length A with
  | inl p =>
    rw [c] at L
    simp! only [F__law_completed_eq, B__law_completed, zl, ln, ok1, ok2, n1, L, numD]
  | inr l =>
    rw [c] at L
    simp! only [F__law_completed_eq, B__law_completed, zl, ln, ok1, ok2, n1, L, numD]
/-- what completed_counts gives or raises, of good arguments -/
def compX : Sum (Nat × List Int) (List Int) → Rf
  | .inl (r, _) => .ex cl_NoLot ["rank"] [.int (r : Nat)] .non
  | .inr l => .ok false (.tup (izs l)) .non
theorem comp_eq (s0 : 0 < s) (z : SeqD d (izs A)) (l1 : 1 ≤ A.length) (l0 : A.length ≤ n + 1) (nn : NN A) (hA : Bl 11280 A) (hs : s.natAbs ≤ 2 ^ 8000) (hm : m ≤ 12) (hn : n ≤ 12) (cs : F_check_sizes [.int q, .int (m : Int), .int (n : Int)] = .ok false .non .non)
    (sz : F_is_whole [.int s, .int 1, .int (q ^ (m * n))] = .ok false (.bl true) .non) (sq : F_is_sequence [d] = .ok false (.bl true) .non) (ic : F_is_counts [.int ((A.length : Int) - 1), d] = .ok false (.bl true) .non) (a0 : A.getD 0 0 = 1) :
    F_completed_counts [.int q, .int (m : Int), .int (n : Int), .int s, d] = compX (compR q m n s A) := by
  have L := loop_up (g := gN 6) (junk := [6, 7, 8, 9, 10]) (body := L_completed_counts_2) (n + 1) (fun _ l => [.sh (.int q), .sh (.int (m : Int)), .sh (.int (n : Int)), .sh (.int s), .sh d, .ow (.lst (izs l)), .no, .no, .no, .no, .no, .no]) (compSt q m n s) (compOk q m n s)
    (fun r l => .ex cl_NoLot ["rank"] [.int (r : Nat)] [.sh (.int q), .sh (.int (m : Int)), .sh (.int (n : Int)), .sh (.int s), .sh d, .ow (.lst (izs l)), .sh (.int (r : Nat)), .sh (.int ((n : Int) - (r : Int))), .sh (.int (cTop q n s r)), .sh (.int (cBot q m n r)), .sh (.int (compV q n l (n - r) r)), .no])
    (Told 11280) (compI h s0 hs hm hn) (fun r l => ⟨fun e z => (by cases z), fun e z => (by cases z)⟩) (fun r l hr t => comp_turn h s0 hs hm hn hr t) (n + 1 - A.length) A.length A (by omega) ⟨rfl, nn, hA⟩
  have ok1 : okR ((n : Int) + 1) = true := okR_of (by omega)
  have ok2 : okR ((A.length : Nat) : Int) = true := okR_of (by omega)
  have n1 : ((n : Int) + 1 - (A.length : Int)).toNat = n + 1 - A.length := by omega
  have zl := z.lst
  have ln := z.len
  rw [izs_len] at ln
  have x0 : dIx d (.int 0) = some (.val (.int (A.getD 0 0))) := z.at (i := 0) (by omega)
  rw [a0] at x0
  have m1 : m * n ≤ 144 := Nat.mul_le_mul hm hn
  have e1 := pow_n h (e := m * n) (by omega)
  rw [Int.natCast_mul] at e1
  have o1 : mulOk (m : Int) (n : Int) = true := mulOk_le (a := 10) (b := 10) (by omega) (by omega) (by omega)
  have g1 : (1 : Int) ≤ (A.length : Int) := by omega
  have g2 : (A.length : Int) ≤ (n : Int) + 1 := by omega
  have d1 : decide ((1 : Int) = 1) = true := rfl
  unfold compR compX
  cases c : upTo (compSt q m n s) (compOk q m n s) (n + 1 - A.length) A.length A with
  | inl p =>
    rw [c] at L
    simp! only [F_completed_counts_eq, B_completed_counts, cs, e_mulI o1, e1, sz, sq, ic, a_chainB, e_le, g1, g2, x0, d1, zl, ln, ok1, ok2, n1, L]
  | inr l =>
    rw [c] at L
    simp! only [F_completed_counts_eq, B_completed_counts, cs, e_mulI o1, e1, sz, sq, ic, a_chainB, e_le, g1, g2, x0, d1, zl, ln, ok1, ok2, n1, L]
end
/-! ### checks -/
theorem whole_int (i lo hi : Int) : F_is_whole [.int i, .int lo, .int hi] = .ok false (.bl (decide (lo ≤ i ∧ i ≤ hi))) .non := by
  have i1 : dIsi sub0 [] (.int i) (.ty "int") = some (.val (.bl true)) := rfl
  have i2 : dIsi sub0 [] (.int i) (.ty "bool") = some (.val (.bl false)) := rfl
  have n1 : D.isN (.int lo) = false := rfl
  have n2 : D.isN (.int hi) = false := rfl
  by_cases c : i < lo
  · rw [decide_eq_false (by omega)]
    simp! only [F_is_whole_eq, B_is_whole, i1, i2, n1, n2, c]
  · by_cases c2 : i ≤ hi
    · rw [decide_eq_true (by omega)]
      simp! only [F_is_whole_eq, B_is_whole, i1, i2, n1, n2, c, c2]
    · rw [decide_eq_false (by omega)]
      simp! only [F_is_whole_eq, B_is_whole, i1, i2, n1, n2, c, c2]
/-- what is_whole says of d -/
def W (d : D) (lo hi : Int) (b : Bool) : Prop := F_is_whole [d, .int lo, .int hi] = .ok false (.bl b) .non
theorem W_good {i lo hi : Int} (h1 : lo ≤ i) (h2 : i ≤ hi) : W (.int i) lo hi true := by unfold W; rw [whole_int, decide_eq_true ⟨h1, h2⟩]
theorem W_bad {i lo hi : Int} (h : ¬ (lo ≤ i ∧ i ≤ hi)) : W (.int i) lo hi false := by unfold W; rw [whole_int, decide_eq_false h]
/-- no whole number -/
def oddK : D → Bool
  | .bl _ | .non | .str _ | .lst _ | .tup _ => true
  | _ => false
theorem odd_int {d : D} (h : oddK d = true) : (dIsi sub0 [] d (.ty "int") = some (.val (.bl false))) ∨ (dIsi sub0 [] d (.ty "int") = some (.val (.bl true)) ∧ dIsi sub0 [] d (.ty "bool") = some (.val (.bl true))) := by
  cases d with
  | bl b => exact .inr ⟨rfl, rfl⟩
  | non => exact .inl rfl
  | str s => exact .inl rfl
  | lst s => exact .inl rfl
  | tup s => exact .inl rfl
  | _ => cases h
theorem odd_whole {d x y : D} (h : oddK d = true) : F_is_whole [d, x, y] = .ok false (.bl false) .non := by
  rcases odd_int h with h | ⟨h, h2⟩
  · simp! only [F_is_whole_eq, B_is_whole, h]
  · simp! only [F_is_whole_eq, B_is_whole, h, h2]
theorem odd_law {d : D} (h : oddK d = true) : F__law_whole [d] = .ok false (.bl false) .non := by
  rcases odd_int h with h | ⟨h, h2⟩
  · simp! only [F__law_whole_eq, B__law_whole, h]
  · simp! only [F__law_whole_eq, B__law_whole, h, h2]
theorem W_odd {d : D} {lo hi : Int} (h : oddK d = true) : W d lo hi false := odd_whole h
theorem lwhole_int (i : Int) : F__law_whole [.int i] = .ok false (.bl true) .non := by
  have i1 : dIsi sub0 [] (.int i) (.ty "int") = some (.val (.bl true)) := rfl
  have i2 : dIsi sub0 [] (.int i) (.ty "bool") = some (.val (.bl false)) := rfl
  simp! only [F__law_whole_eq, B__law_whole, i1, i2]
theorem whole0 (i : Int) : F_is_whole [.int i, .int 0, .non] = .ok false (.bl (decide (0 ≤ i))) .non := by
  have i1 : dIsi sub0 [] (.int i) (.ty "int") = some (.val (.bl true)) := rfl
  have i2 : dIsi sub0 [] (.int i) (.ty "bool") = some (.val (.bl false)) := rfl
  have n1 : D.isN (.int 0) = false := rfl
  have n2 : D.isN .non = true := rfl
  by_cases c : i < 0
  · rw [decide_eq_false (by omega)]
    simp! only [F_is_whole_eq, B_is_whole, i1, i2, n1, n2, c]
  · rw [decide_eq_true (by omega)]
    simp! only [F_is_whole_eq, B_is_whole, i1, i2, n1, n2, c]
def w0 : D → Bool
  | .int i => decide (0 ≤ i)
  | _ => false
def kI : D → Bool
  | .int _ => true
  | d => oddK d
theorem whole_w0 {d : D} (h : kI d = true) : F_is_whole [d, .int 0, .non] = .ok false (.bl (w0 d)) .non := by
  cases d with
  | int i => exact whole0 i
  | bl b => exact odd_whole rfl
  | non => exact odd_whole rfl
  | str s => exact odd_whole rfl
  | lst s => exact odd_whole rfl
  | tup s => exact odd_whole rfl
  | _ => cases h
theorem seq_t {d : D} {xs : List D} (z : SeqD d xs) : F_is_sequence [d] = .ok false (.bl true) .non := by
  have h1 : dIsi sub0 [] d (.tup [.ty "list", .ty "tuple"]) = some (.val (.bl true)) := by rcases z with rfl | rfl <;> rfl
  simp! only [F_is_sequence_eq, B_is_sequence, h1]
theorem seq_f {d : D} (h : d = .non ∨ ∃ s, d = .str s) : F_is_sequence [d] = .ok false (.bl false) .non := by
  have h1 : dIsi sub0 [] d (.tup [.ty "list", .ty "tuple"]) = some (.val (.bl false)) := by rcases h with rfl | ⟨s, rfl⟩ <;> rfl
  simp! only [F_is_sequence_eq, B_is_sequence, h1]
theorem truIs_bl {α : Type} (p : α → Bool) : ∀ xs : List α, truIs (xs.map fun x => .bl (p x)) = some (xs.map p)
  | [] => rfl
  | x :: xs => by
    show (match some (p x), truIs (xs.map fun x => D.bl (p x)) with | some b, some bs => some (b :: bs) | _, _ => none) = _
    rw [truIs_bl p xs]; rfl
theorem all_bl {α : Type} (p : α → Bool) (xs : List α) : dAllN (.lst (xs.map fun x => .bl (p x))) = some (.val (.bl (xs.all p))) := by
  show (truIs _).map _ = _
  rw [truIs_bl]
  show some (Tk.val (.bl ((xs.map p).all id))) = _
  rw [List.all_map]; rfl
theorem counts_eq {d : D} {xs : List D} {c : Int} (z : SeqD d xs) (hl : xs.length ≤ 1000) (hk : ∀ x ∈ xs, kI x = true) : F_is_counts [.int c, d] = .ok false (.bl (decide ((xs.length : Int) = c + 1) && xs.all w0)) .non := by
  have sq := seq_t z
  have ln := z.len
  by_cases e : (xs.length : Int) = c + 1
  · have lc := lc_each (g := gN 2) (own := [2]) (elt := L_is_counts_1) (E := [.sh (.int c), .sh d, .no]) (fun x : D => x) (fun x => .bl (w0 x)) xs (by unfold lim; omega) fun x hx => by
      have w := whole_w0 (hk x hx)
      exact lcV (e1 := [.sh (.int c), .sh d, .sh x]) (by simp! only [if_true]) (e3 := [.sh (.int c), .sh d, .sh x]) (by simp! only [L_is_counts_1, w]) (by simp! only [if_true])
    rw [List.map_id'] at lc
    have al := all_bl w0 xs
    rw [decide_eq_true e, Bool.true_and]
    have d1 : decide ((xs.length : Int) = c + 1) = true := decide_eq_true e
    rcases z with rfl | rfl <;> simp! only [F_is_counts_eq, B_is_counts, sq, ln, d1, lc, al]
  · have d1 : decide ((xs.length : Int) = c + 1) = false := decide_eq_false e
    rw [d1, Bool.false_and]
    simp! only [F_is_counts_eq, B_is_counts, sq, ln, d1]
theorem counts_seq {d : D} {c : Int} (h : d = .non ∨ ∃ s, d = .str s) : F_is_counts [.int c, d] = .ok false (.bl false) .non := by
  have sq := seq_f h
  simp! only [F_is_counts_eq, B_is_counts, sq]
theorem izs_kI {A : List Int} : ∀ x ∈ izs A, kI x = true := by
  intro x hx
  obtain ⟨i, _, rfl⟩ := List.mem_map.mp hx
  rfl
theorem nn_all {A : List Int} (h : NN A) : (izs A).all w0 = true := by
  rw [List.all_eq_true]
  intro x hx
  obtain ⟨i, hi, rfl⟩ := List.mem_map.mp hx
  obtain ⟨j, hj, rfl⟩ := List.mem_iff_getElem.mp hi
  have := h j
  rw [List.getD_eq_getElem?_getD, List.getElem?_eq_getElem hj] at this
  exact decide_eq_true this
theorem counts_good {d : D} {A : List Int} {c : Int} (z : SeqD d (izs A)) (hl : (A.length : Int) = c + 1) (h1 : A.length ≤ 1000) (nn : NN A) : F_is_counts [.int c, d] = .ok false (.bl true) .non := by
  rw [counts_eq z (by rw [izs_len]; exact h1) izs_kI, nn_all nn, izs_len, decide_eq_true hl]; rfl
def sizesX (b1 b2 b3 : Bool) : Rf := if b1 = false then .ex cl_BadSizes ["what"] [.str "prime"] .non else if b2 = false then .ex cl_BadSizes ["what"] [.str "degree"] .non else if b3 = false then .ex cl_BadSizes ["what"] [.str "columns"] .non else .ok false .non .non
theorem check_eq {p m n : D} {b1 b2 b3 : Bool} (h1 : W p 2 3 b1) (h2 : W m 1 12 b2) (h3 : W n 1 12 b3) : F_check_sizes [p, m, n] = sizesX b1 b2 b3 := by
  unfold W at h1 h2 h3
  unfold sizesX
  cases b1
  · simp! only [F_check_sizes_eq, B_check_sizes, h1]
  · cases b2
    · simp! only [F_check_sizes_eq, B_check_sizes, h1, h2]
    · cases b3
      · simp! only [F_check_sizes_eq, B_check_sizes, h1, h2, h3]
      · simp! only [F_check_sizes_eq, B_check_sizes, h1, h2, h3]
theorem check_good {q : Int} (h : q = 2 ∨ q = 3) {m n : Nat} (m0 : 1 ≤ m) (hm : m ≤ 12) (n0 : 1 ≤ n) (hn : n ≤ 12) : F_check_sizes [.int q, .int (m : Int), .int (n : Int)] = .ok false .non .non :=
  check_eq (b1 := true) (b2 := true) (b3 := true) (W_good (by omega) (by omega)) (W_good (by omega) (by omega)) (W_good (by omega) (by omega))
/-! ### same, pick, odd -/
theorem same_loop {s0 s1 : S} : ∀ A : List Int, mLoop (VM.gT 2 (gs1 (gN 2) (gs1 (gN 3) gs0))) [2, 3] L__law_same_1 (zipD (izs A) (izs A)) [s0, s1, .no, .no] = .ok .nx [s0, s1, .no, .no] := fun A => by
  have : zipD (izs A) (izs A) = A.map fun i => .tup [.int i, .int i] := by
    unfold izs
    rw [zipD_map, List.zip_eq_zipWith, List.map_zipWith, List.zipWith_self]
  rw [this]
  refine loop_same (g := VM.gT 2 (gs1 (gN 2) (gs1 (gN 3) gs0))) (junk := [2, 3]) (body := L__law_same_1) [s0, s1, .no, .no] _ A fun i _ => ?_
  have w := lwhole_int i
  have c : cNe (.int i) (.int i) = some false := cNe_self pl_int
  simp! only [L__law_same_1, w, c]
theorem same_ok {A : List Int} (hl : A.length ≤ 1000) : F__law_same [.tup (izs A), .lst (izs A)] = .ok false (.bl true) .non := by
  have L := same_loop (s0 := .sh (.tup (izs A))) (s1 := .sh (.lst (izs A))) A
  have i1 : dIsi sub0 [] (.tup (izs A)) (.ty "tuple") = some (.val (.bl true)) := rfl
  have c : cNe (.int ((izs A).length : Int)) (.int ((izs A).length : Int)) = some false := cNe_self pl_int
  simp! only [F__law_same_eq, B__law_same, i1, c, L]
/-! ### met counts, pure -/
def mTerm (q : Int) (m r e j : Nat) : Int := (-1) ^ j * q ^ (j * (j - 1) / 2) * gR q r j * (q ^ (m * (e - j)) - 1)
def mTot (q : Int) (m r e : Nat) : Int := sumTo (mTerm q m r e) e
def mA (q : Int) (m d r : Nat) : Int := if r = 0 then 1 else mTot q m r (r + 1 - d)
theorem sgn_abs (j : Nat) : ((-1 : Int) ^ j).natAbs ≤ 2 ^ 0 := by rw [natAbs_powI]; simp
theorem sgn_s (j : Nat) : (-1 : Int) ^ (j + 1) = -((-1) ^ j) := by rw [Int.pow_succ, Int.mul_neg_one]
theorem tri_le {j : Nat} (h : j ≤ 12) : j * (j - 1) / 2 ≤ 72 := by
  have : j * (j - 1) ≤ 12 * 12 := Nat.mul_le_mul h (by omega)
  omega
theorem mTerm_abs {q : Int} (h : q = 2 ∨ q = 3) {m r e j : Nat} (hm : m ≤ 12) (hr : r ≤ 12) (he : e ≤ 12) (hj : j ≤ 12) : (mTerm q m r e j).natAbs ≤ 2 ^ 3880 := by
  have h1 := abs_mul (sgn_abs j) (q_pow2 h (show j * (j - 1) / 2 ≤ 150 by have := tri_le hj; omega))
  have h2 := abs_mul h1 (gR_abs h (show r ≤ 40 by omega) (show j ≤ 40 by omega))
  have h3 : m * (e - j) ≤ 12 * 12 := Nat.mul_le_mul hm (by omega)
  exact abs_mul h2 (abs_sub1 (pow_pos1 (q_two h) _) (q_pow2 h (show m * (e - j) ≤ 150 by omega)))
theorem mTot_abs {q : Int} (h : q = 2 ∨ q = 3) {m r e : Nat} (hm : m ≤ 12) (hr : r ≤ 12) (he : e ≤ 12) (n : Nat) (hn : n ≤ 12) : (sumTo (mTerm q m r e) n).natAbs ≤ 2 ^ 3884 := sumTo_abs' (by omega) fun i hi => mTerm_abs h hm hr he (by omega)
/-! ### the identity of met counts, gone through -/
def tabR (q : Int) : List (List Int) := (List.range 13).foldl (fun rs i => match i with
  | 0 => [[1]]
  | _ => rs ++ [(List.range (i + 1)).map fun b => match b with
    | 0 => 1
    | b + 1 => (rs.getD (i - 1) []).getD b 0 + q ^ (b + 1) * (rs.getD (i - 1) []).getD (b + 1) 0]) []
def tabAt (t : List (List Int)) (r j : Nat) : Int := (t.getD r []).getD j 0
def tTot (t : List (List Int)) (q : Int) (m r e : Nat) : Int := (List.range e).foldl (fun a j => a + (-1) ^ j * q ^ (j * (j - 1) / 2) * tabAt t r j * (q ^ (m * (e - j)) - 1)) 0
def tA (t : List (List Int)) (q : Int) (m d : Nat) : List Int := (List.range 13).map fun r => if r = 0 then 1 else tTot t q m r (r + 1 - d)
def tSum (t : List (List Int)) (A : List Int) (s : Nat) : Int := (List.range (s + 1)).foldl (fun a r => a + A.getD r 0 * tabAt t s r) 0
def chk (q : Int) : Bool :=
  let t := tabR q
  (List.range 13).all fun m => (List.range 13).all fun d => 
    let A := tA t q m (d + 1)
    (List.range 13).all fun s => decide (tSum t A s = q ^ (m * (s + 1 - (d + 1))))
theorem tab_ok (q : Int) (h : q = 2 ∨ q = 3) : ((List.range 13).all fun r => (List.range 13).all fun j => decide (tabAt (tabR q) r j = gR q r j)) = true := by
  rcases h with rfl | rfl
  · decide +kernel
  · decide +kernel
theorem chk2 : chk 2 = true := by decide +kernel
theorem chk3 : chk 3 = true := by decide +kernel
theorem foldl_sum (f : Nat → Int) : ∀ n, (List.range n).foldl (fun a j => a + f j) 0 = sumTo f n
  | 0 => rfl
  | n + 1 => by rw [List.range_succ, List.foldl_append, foldl_sum f n]; rfl
theorem tab_at {q : Int} (h : q = 2 ∨ q = 3) {r j : Nat} (hr : r ≤ 12) (hj : j ≤ 12) : tabAt (tabR q) r j = gR q r j := by
  have := tab_ok q h
  rw [List.all_eq_true] at this
  have h1 := this r (List.mem_range.mpr (by omega))
  rw [List.all_eq_true] at h1
  exact of_decide_eq_true (h1 j (List.mem_range.mpr (by omega)))
theorem tTot_eq {q : Int} (h : q = 2 ∨ q = 3) {m r e : Nat} (hr : r ≤ 12) (he : e ≤ 13) : tTot (tabR q) q m r e = mTot q m r e := by
  unfold tTot mTot
  rw [foldl_sum]
  refine sumTo_ext _ fun j hj => ?_
  unfold mTerm
  rw [tab_at h hr (by omega)]
theorem tA_at {q : Int} (h : q = 2 ∨ q = 3) {m d r : Nat} (d0 : 1 ≤ d) (hr : r ≤ 12) : (tA (tabR q) q m d).getD r 0 = mA q m d r := by
  unfold tA mA
  rw [List.getD_eq_getElem?_getD, List.getElem?_map, List.getElem?_range (by omega)]
  show (if r = 0 then 1 else tTot (tabR q) q m r (r + 1 - d)) = _
  by_cases z : r = 0
  · rw [if_pos z, if_pos z]
  · rw [if_neg z, if_neg z, tTot_eq h hr (by omega)]
theorem met_id {q : Int} (h : q = 2 ∨ q = 3) {m d s : Nat} (hm : m ≤ 12) (d0 : 1 ≤ d) (d1 : d ≤ 13) (hs : s ≤ 12) : sumTo (fun r => mA q m d r * gR q s r) (s + 1) = q ^ (m * (s + 1 - d)) := by
  have hc : chk q = true := by rcases h with rfl | rfl
                               · exact chk2
                               · exact chk3
  unfold chk at hc
  rw [List.all_eq_true] at hc
  have h1 := hc m (List.mem_range.mpr (by omega))
  rw [List.all_eq_true] at h1
  have h2 := h1 (d - 1) (List.mem_range.mpr (by omega))
  rw [List.all_eq_true] at h2
  have h3 := of_decide_eq_true (h2 s (List.mem_range.mpr (by omega)))
  rw [show d - 1 + 1 = d by omega] at h3
  rw [← h3]
  unfold tSum
  rw [foldl_sum]
  refine sumTo_ext _ fun r hr => ?_
  rw [tA_at h d0 (by omega), tab_at h hs (by omega)]
def chkP (q : Int) : Bool := (List.range 13).all fun m => 
  let A := tA (tabR q) q m 1
  (List.range 13).all fun r => decide (A.getD r 0 = gP q m r)
theorem chkP2 : chkP 2 = true := by decide +kernel
theorem chkP3 : chkP 3 = true := by decide +kernel
theorem mA_one {q : Int} (h : q = 2 ∨ q = 3) {m r : Nat} (hm : m ≤ 12) (hr : r ≤ 12) : mA q m 1 r = gP q m r := by
  have hc : chkP q = true := by rcases h with rfl | rfl
                                · exact chkP2
                                · exact chkP3
  unfold chkP at hc
  rw [List.all_eq_true] at hc
  have h1 := hc m (List.mem_range.mpr (by omega))
  rw [List.all_eq_true] at h1
  have h2 := of_decide_eq_true (h1 r (List.mem_range.mpr (by omega)))
  rw [tA_at h (by omega) hr] at h2
  exact h2
/-! ### real lots: counts and rest counts -/
def chkN (q : Int) : Bool := (List.range 13).all fun m => (List.range 13).all fun d =>
  let A := tA (tabR q) q m (d + 1)
  (List.range (m + 1)).all fun r => decide (0 ≤ A.getD r 0)
theorem chkN2 : chkN 2 = true := by decide +kernel
theorem chkN3 : chkN 3 = true := by decide +kernel
theorem mA_nn {q : Int} (h : q = 2 ∨ q = 3) {m d r : Nat} (hm : m ≤ 12) (d0 : 1 ≤ d) (d1 : d ≤ 13) (hr : r ≤ m) : 0 ≤ mA q m d r := by
  have hc : chkN q = true := by rcases h with rfl | rfl
                                · exact chkN2
                                · exact chkN3
  unfold chkN at hc
  rw [List.all_eq_true] at hc
  have h1 := hc m (List.mem_range.mpr (by omega))
  rw [List.all_eq_true] at h1
  have h2 := h1 (d - 1) (List.mem_range.mpr (by omega))
  rw [List.all_eq_true] at h2
  have h3 := of_decide_eq_true (h2 r (List.mem_range.mpr (by omega)))
  rw [show d - 1 + 1 = d by omega, tA_at h d0 (by omega)] at h3
  exact h3
def pT (q : Int) : List (List Int) := (List.range 13).map fun a => (List.range 13).map fun i => gP q a i
def vT (q : Int) : List (List (List Int)) := (List.range 13).map fun a => (List.range 13).map fun b => (List.range 13).map fun i => tabAt (tabR q) b i * ((pT q).getD a []).getD i 0
def vAt (q : Int) (a b i : Nat) : Int := (((vT q).getD a []).getD b []).getD i 0
def chkT (q : Int) : Bool := (List.range 13).all fun n => (List.range (n + 1)).all fun u => (List.range 13).all fun a => (List.range (n + 1)).all fun b =>
  decide (q ^ (a * u) * (List.range (n + 1)).foldl (fun s i => s + vAt q a b i * tabAt (tabR q) (n - i) u) 0 = q ^ (a * b) * (List.range (u + 1)).foldl (fun s i => s + vAt q a (n - b) i * tabAt (tabR q) (n - i) (u - i)) 0)
theorem chkT2 : chkT 2 = true := by decide +kernel
theorem chkT3 : chkT 3 = true := by decide +kernel
theorem map_at {α : Type} (f : Nat → α) (d : α) {i k : Nat} (h : i < k) : ((List.range k).map f).getD i d = f i := by
  rw [List.getD_eq_getElem?_getD, List.getElem?_map, List.getElem?_range h]; rfl
theorem vAt_eq {q : Int} (h : q = 2 ∨ q = 3) {a b i : Nat} (ha : a ≤ 12) (hb : b ≤ 12) (hi : i ≤ 12) : vAt q a b i = gR q b i * gP q a i := by
  unfold vAt vT pT
  rw [map_at _ _ (by omega), map_at _ _ (by omega), map_at _ _ (by omega), map_at _ _ (by omega), map_at _ _ (by omega), tab_at h hb hi]
theorem tab_id {q : Int} (h : q = 2 ∨ q = 3) {a b n u : Nat} (ha : a ≤ 12) (hn : n ≤ 12) (hb : b ≤ n) (hu : u ≤ n) :
    q ^ (a * u) * sumTo (fun i => gR q b i * gP q a i * gR q (n - i) u) (n + 1) = q ^ (a * b) * sumTo (fun i => gR q (n - b) i * gP q a i * gR q (n - i) (u - i)) (u + 1) := by
  have hc : chkT q = true := by rcases h with rfl | rfl
                                · exact chkT2
                                · exact chkT3
  unfold chkT at hc
  rw [List.all_eq_true] at hc
  have h1 := hc n (List.mem_range.mpr (by omega))
  rw [List.all_eq_true] at h1
  have h2 := h1 u (List.mem_range.mpr (by omega))
  rw [List.all_eq_true] at h2
  have h3 := h2 a (List.mem_range.mpr (by omega))
  rw [List.all_eq_true] at h3
  have h4 := of_decide_eq_true (h3 b (List.mem_range.mpr (by omega)))
  rw [foldl_sum, foldl_sum] at h4
  rw [sumTo_ext (f := fun i => vAt q a b i * tabAt (tabR q) (n - i) u) (g := fun i => gR q b i * gP q a i * gR q (n - i) u) _ fun i hi => by rw [vAt_eq h ha (by omega) (by omega), tab_at h (by omega) (by omega)]] at h4
  rw [sumTo_ext (f := fun i => vAt q a (n - b) i * tabAt (tabR q) (n - i) (u - i)) (g := fun i => gR q (n - b) i * gP q a i * gR q (n - i) (u - i)) _ fun i hi => by rw [vAt_eq h ha (by omega) (by omega), tab_at h (by omega) (by omega)]] at h4
  exact h4
/-- the number of chains -/
theorem gR_tri {q : Int} (h : 2 ≤ q) {w r v : Nat} (hv : v ≤ w) (hr : r ≤ v) : gR q w r * gR q (w - r) (v - r) = gR q w v * gR q v r := by
  have e1 : ∀ a b, b ≤ a → gR q a b * (gB q b * gB q (a - b)) = gB q a := fun a b hb => by
    rw [← Int.mul_assoc, Int.mul_comm (gR q a b), ← gTB, gT_B q a b hb]
  have a1 := e1 w r (by omega)
  have a2 := e1 (w - r) (v - r) (by omega)
  have a3 := e1 w v hv
  have a4 := e1 v r hr
  rw [show w - r - (v - r) = w - v by omega] at a2
  have p : gB q r * gB q (v - r) * gB q (w - v) ≠ 0 := by
    have p1 := gB_pos h r
    have p2 := gB_pos h (v - r)
    have p3 := gB_pos h (w - v)
    have : 0 < gB q r * gB q (v - r) * gB q (w - v) := Int.mul_pos (Int.mul_pos (by omega) (by omega)) (by omega)
    omega
  refine Int.eq_of_mul_eq_mul_right p ?_
  have l1 : gR q w r * gR q (w - r) (v - r) * (gB q r * gB q (v - r) * gB q (w - v)) = gR q w r * (gB q r * (gR q (w - r) (v - r) * (gB q (v - r) * gB q (w - v)))) := by
    simp only [Int.mul_assoc, Int.mul_left_comm, Int.mul_comm]
  have l2 : gR q w v * gR q v r * (gB q r * gB q (v - r) * gB q (w - v)) = gR q w v * ((gR q v r * (gB q r * gB q (v - r))) * gB q (w - v)) := by
    simp only [Int.mul_assoc, Int.mul_left_comm, Int.mul_comm]
  rw [l1, a2, a1, l2, a4, a3]
theorem gR_tri2 {q : Int} (h : 2 ≤ q) {n i u : Nat} (hu : u ≤ n) (hi : i ≤ n) : gR q n i * gR q (n - i) u = gR q n u * gR q (n - u) i := by
  by_cases c : i + u ≤ n
  · have t := gR_tri h (w := n) (r := i) (v := n - u) (by omega) (by omega)
    rw [show n - u - i = (n - i) - u by omega, gR_sym h (n - i) u (by omega), gR_sym h n u hu] at t
    exact t
  · rw [gR_out q (n - i) u (by omega), gR_out q (n - u) i (by omega)]; simp
theorem sum_tri (F : Nat → Nat → Int) : ∀ u : Nat, sumTo (fun j => sumTo (fun i => F i j) (j + 1)) (u + 1) = sumTo (fun i => sumTo (fun r => F i (i + r)) (u + 1 - i)) (u + 1)
  | 0 => rfl
  | u + 1 => by
    show sumTo (fun j => sumTo (fun i => F i j) (j + 1)) (u + 1) + sumTo (fun i => F i (u + 1)) (u + 1 + 1) = sumTo (fun i => sumTo (fun r => F i (i + r)) (u + 1 + 1 - i)) (u + 1) + sumTo (fun r => F (u + 1) (u + 1 + r)) (u + 1 + 1 - (u + 1))
    rw [sum_tri F u]
    have e : sumTo (fun i => sumTo (fun r => F i (i + r)) (u + 1 + 1 - i)) (u + 1) = sumTo (fun i => sumTo (fun r => F i (i + r)) (u + 1 - i)) (u + 1) + sumTo (fun i => F i (u + 1)) (u + 1) := by
      rw [← sumTo_add]
      refine sumTo_ext _ fun i hi => ?_
      rw [show u + 1 + 1 - i = (u + 1 - i) + 1 by omega]
      show _ + F i (i + (u + 1 - i)) = _
      rw [show i + (u + 1 - i) = u + 1 by omega]
    rw [e, show u + 1 + 1 - (u + 1) = 1 by omega]
    show _ + (_ + F (u + 1) (u + 1)) = _ + (0 + F (u + 1) (u + 1 + 0))
    rw [Nat.add_zero]
    omega
theorem sumTo_cut {f : Nat → Int} {k : Nat} : ∀ n, k ≤ n → (∀ i, k ≤ i → f i = 0) → sumTo f n = sumTo f k
  | 0, h, _ => by obtain rfl : k = 0 := by omega
                  rfl
  | n + 1, h, z => by
    by_cases e : k = n + 1
    · rw [e]
    · show sumTo f n + f n = _
      rw [z n (by omega), Int.add_zero, sumTo_cut n (by omega) z]
/-- counts fA of a lot of size s and those of its rest lot, fB -/
structure Lot2 (q : Int) (m n : Nat) (s : Int) (fA fB : Nat → Int) : Prop where
  id : ∀ u, u ≤ n → q ^ (m * u) * sumTo (fun i => fA i * gR q (n - i) u) (n + 1) = s * sumTo (fun j => fB j * gR q (n - j) (u - j)) (u + 1)
  sz : ∃ e, e ≤ m * n ∧ s = q ^ e
  nA : ∀ i, i ≤ n → 0 ≤ fA i
  nB : ∀ i, i ≤ n → 0 ≤ fB i
  a0 : fA 0 = 1
  b0 : fB 0 = 1
  ba : ∀ i, i ≤ n → (fA i).natAbs ≤ 2 ^ 7200
theorem lot_met {q : Int} (h : q = 2 ∨ q = 3) {m n d : Nat} (hm : m ≤ 12) (hnm : n ≤ m) (d0 : 1 ≤ d) (d1 : d ≤ n + 1) :
    Lot2 q m n (q ^ (m * (n + 1 - d))) (fun i => mA q m d i * gR q n i) (fun i => mA q m (n + 2 - d) i * gR q n i) := by
  have q2 := q_two h
  refine ⟨fun u hu => ?_, ⟨_, Nat.mul_le_mul_left m (by omega), rfl⟩, fun i hi => Int.mul_nonneg (mA_nn h hm d0 (by omega) (by omega)) (gR_nonneg q2 _ _), fun i hi => Int.mul_nonneg (mA_nn h hm (by omega) (by omega) (by omega)) (gR_nonneg q2 _ _), ?_, ?_, fun i hi => ?_⟩
  · have e1 : sumTo (fun i => mA q m d i * gR q n i * gR q (n - i) u) (n + 1) = gR q n u * q ^ (m * (n - u + 1 - d)) := by
      rw [← met_id h hm d0 (by omega) (show n - u ≤ 12 by omega), ← sumTo_mul]
      rw [← sumTo_cut (f := fun i => gR q n u * (mA q m d i * gR q (n - u) i)) (k := n - u + 1) (n + 1) (by omega) fun i hi => by rw [gR_out q (n - u) i (by omega)]; simp]
      refine sumTo_ext _ fun i hi => ?_
      rw [Int.mul_assoc, gR_tri2 q2 hu (by omega), Int.mul_left_comm]
    have e2 : sumTo (fun j => mA q m (n + 2 - d) j * gR q n j * gR q (n - j) (u - j)) (u + 1) = gR q n u * q ^ (m * (u + 1 - (n + 2 - d))) := by
      rw [← met_id h hm (show 1 ≤ n + 2 - d by omega) (by omega) (show u ≤ 12 by omega), ← sumTo_mul]
      refine sumTo_ext _ fun i hi => ?_
      rw [Int.mul_assoc, gR_tri q2 hu (by omega), Int.mul_left_comm]
    show q ^ (m * u) * sumTo (fun i => mA q m d i * gR q n i * gR q (n - i) u) (n + 1) = q ^ (m * (n + 1 - d)) * sumTo (fun j => mA q m (n + 2 - d) j * gR q n j * gR q (n - j) (u - j)) (u + 1)
    rw [e1, e2, Int.mul_left_comm, ← Int.pow_add, Int.mul_left_comm (q ^ (m * (n + 1 - d))), ← Int.pow_add, ← Nat.mul_add, ← Nat.mul_add]
    rw [show u + (n - u + 1 - d) = n + 1 - d + (u + 1 - (n + 2 - d)) by omega]
  · show mA q m d 0 * gR q n 0 = 1
    rw [gR_zero]; rfl
  · show mA q m (n + 2 - d) 0 * gR q n 0 = 1
    rw [gR_zero]; rfl
  · have b : (mA q m d i).natAbs ≤ 2 ^ 3884 := by
      unfold mA
      split
      · exact Nat.le_trans (show (1 : Int).natAbs ≤ 1 by decide) (Nat.pow_pos (by decide))
      · exact mTot_abs h hm (by omega) (by omega) _ (by omega)
    exact abs_mono (abs_mul b (gR_abs h (w := n) (p := i) (by omega) (by omega))) (by omega)
theorem gP_nn {q : Int} (h : 2 ≤ q) (t : Nat) : ∀ r, 0 ≤ gP q t r
  | 0 => by show (0 : Int) ≤ 1; decide
  | r + 1 => by
    by_cases c : t < r + 1
    · rw [gP_out q t (r + 1) c]; exact Int.le_refl _
    · show 0 ≤ gP q t r * (q ^ t - q ^ r)
      have : q ^ r ≤ q ^ t := by
        have p := pow_pos1 h (t - r)
        have p2 := pow_pos1 h r
        have e : q ^ t = q ^ r * q ^ (t - r) := by rw [← Int.pow_add]; congr 1; omega
        rw [e]
        have := Int.mul_le_mul_of_nonneg_left (show 1 ≤ q ^ (t - r) from p) (show 0 ≤ q ^ r by omega)
        omega
      exact Int.mul_nonneg (gP_nn h t r) (by omega)
theorem lot_tab {q : Int} (h : q = 2 ∨ q = 3) {m n a b : Nat} (hm : m ≤ 12) (hn : n ≤ 12) (ha : a ≤ m) (hb : b ≤ n) :
    Lot2 q m n (q ^ (a * b)) (fun i => gR q b i * gP q a i) (fun j => sumTo (fun i => gR q (n - b) i * gP q a i * q ^ ((m - a) * i) * (gR q (n - i) (j - i) * gP q (m - a) (j - i))) (j + 1)) := by
  have q2 := q_two h
  refine ⟨fun u hu => ?_, ⟨_, Nat.mul_le_mul ha hb, rfl⟩, fun i hi => Int.mul_nonneg (gR_nonneg q2 _ _) (gP_nn q2 _ _), fun j hj => sumTo_nn _ fun i _ => Int.mul_nonneg (Int.mul_nonneg (Int.mul_nonneg (gR_nonneg q2 _ _) (gP_nn q2 _ _)) (by have := pow_pos1 q2 ((m - a) * i); omega)) (Int.mul_nonneg (gR_nonneg q2 _ _) (gP_nn q2 _ _)), ?_, ?_, fun i hi => ?_⟩
  · have e1 : sumTo (fun j => sumTo (fun i => gR q (n - b) i * gP q a i * q ^ ((m - a) * i) * (gR q (n - i) (j - i) * gP q (m - a) (j - i))) (j + 1) * gR q (n - j) (u - j)) (u + 1) = q ^ ((m - a) * u) * sumTo (fun i => gR q (n - b) i * gP q a i * gR q (n - i) (u - i)) (u + 1) := by
      have s1 : sumTo (fun j => sumTo (fun i => gR q (n - b) i * gP q a i * q ^ ((m - a) * i) * (gR q (n - i) (j - i) * gP q (m - a) (j - i))) (j + 1) * gR q (n - j) (u - j)) (u + 1)
          = sumTo (fun j => sumTo (fun i => gR q (n - b) i * gP q a i * q ^ ((m - a) * i) * (gR q (n - i) (j - i) * gP q (m - a) (j - i)) * gR q (n - j) (u - j)) (j + 1)) (u + 1) := by
        refine sumTo_ext _ fun j hj => ?_
        rw [Int.mul_comm, ← sumTo_mul]
        refine sumTo_ext _ fun i hi => ?_
        rw [Int.mul_comm]
      rw [s1, sum_tri (fun i j => gR q (n - b) i * gP q a i * q ^ ((m - a) * i) * (gR q (n - i) (j - i) * gP q (m - a) (j - i)) * gR q (n - j) (u - j)) u, ← sumTo_mul]
      refine sumTo_ext _ fun i hi => ?_
      have s2 : sumTo (fun r => gR q (n - b) i * gP q a i * q ^ ((m - a) * i) * (gR q (n - i) (i + r - i) * gP q (m - a) (i + r - i)) * gR q (n - (i + r)) (u - (i + r))) (u + 1 - i)
          = gR q (n - b) i * gP q a i * q ^ ((m - a) * i) * gR q (n - i) (u - i) * sumTo (fun r => gR q (u - i) r * gP q (m - a) r) (u - i + 1) := by
        rw [← sumTo_mul, show u + 1 - i = u - i + 1 by omega]
        refine sumTo_ext _ fun r hr => ?_
        have t := gR_tri q2 (w := n - i) (v := u - i) (r := r) (by omega) (by omega)
        rw [show n - i - r = n - (i + r) by omega, show u - i - r = u - (i + r) by omega] at t
        rw [show i + r - i = r by omega]
        have t2 : gR q (n - b) i * gP q a i * q ^ ((m - a) * i) * (gR q (n - i) r * gP q (m - a) r) * gR q (n - (i + r)) (u - (i + r)) = gR q (n - b) i * gP q a i * q ^ ((m - a) * i) * gP q (m - a) r * (gR q (n - i) r * gR q (n - (i + r)) (u - (i + r))) := by
          simp only [Int.mul_assoc, Int.mul_left_comm, Int.mul_comm]
        rw [t2, t]
        simp only [Int.mul_assoc, Int.mul_left_comm, Int.mul_comm]
      rw [s2, all_tables]
      have e : q ^ ((m - a) * u) = q ^ ((m - a) * i) * q ^ ((m - a) * (u - i)) := by
        rw [← Int.pow_add, ← Nat.mul_add]; congr 2; omega
      rw [e]
      simp only [Int.mul_assoc, Int.mul_left_comm, Int.mul_comm]
    show q ^ (m * u) * sumTo (fun i => gR q b i * gP q a i * gR q (n - i) u) (n + 1) = _
    rw [e1, Int.mul_left_comm, ← tab_id h (by omega) hn hb hu, ← Int.mul_assoc, ← Int.pow_add, ← Nat.add_mul]
    rw [show m - a + a = m by omega]
  · show gR q b 0 * gP q a 0 = 1
    rw [gR_zero]; rfl
  · show 0 + gR q (n - b) 0 * gP q a 0 * q ^ ((m - a) * 0) * (gR q n 0 * gP q (m - a) 0) = 1
    rw [gR_zero, gR_zero, gP_0, gP_0, Nat.mul_zero]; simp
  · exact abs_mono (abs_mul (gR_abs h (w := b) (p := i) (by omega) (by omega)) (gP_abs h (t := a) (by omega) i (by omega))) (by omega)
/-! ### lists by a function; what holds of real lots -/
def lst (f : Nat → Int) (k : Nat) : List Int := (List.range k).map f
theorem lst_len (f : Nat → Int) (k : Nat) : (lst f k).length = k := by unfold lst; simp
theorem lst_s (f : Nat → Int) (k : Nat) : lst f (k + 1) = lst f k ++ [f k] := by unfold lst; rw [List.range_succ, List.map_append]; rfl
theorem lst_at {f : Nat → Int} {k i : Nat} (h : i < k) : (lst f k).getD i 0 = f i := map_at f 0 h
theorem lst_sum (f : Nat → Int) (k : Nat) : (lst f k).sum = sumTo f k := sumTo_range f k
theorem lst_take (f : Nat → Int) {k m : Nat} (h : k ≤ m) : (lst f m).take k = lst f k := by
  unfold lst
  rw [← List.map_take, List.take_range, Nat.min_eq_left h]
theorem lst_map (f g : Nat → Int) (k : Nat) (h : ∀ i, i < k → f i = g i) : lst f k = lst g k := by
  unfold lst
  exact List.map_congr_left fun i hi => h i (List.mem_range.mp hi)
theorem lst_bl {f : Nat → Int} {k b : Nat} (h : ∀ i, i < k → (f i).natAbs ≤ 2 ^ b) : Bl b (lst f k) := fun i => by
  by_cases c : i < k
  · rw [lst_at c]; exact h i c
  · rw [List.getD_eq_getElem?_getD, List.getElem?_eq_none (by rw [lst_len]; omega)]; simp
theorem lst_nn {f : Nat → Int} {k : Nat} (h : ∀ i, i < k → 0 ≤ f i) : NN (lst f k) := fun i => by
  by_cases c : i < k
  · rw [lst_at c]; exact h i c
  · rw [List.getD_eq_getElem?_getD, List.getElem?_eq_none (by rw [lst_len]; omega)]; simp
theorem izs_at' {l : List Int} {i : Nat} {x : Int} (h : l[i]? = some x) : atI (izs l) (i : Int) = some (.int x) := atI_nat (by unfold izs; rw [List.getElem?_map, h]; rfl)
theorem lst_izs_at {f : Nat → Int} {k i : Nat} (h : i < k) : atI (izs (lst f k)) (i : Int) = some (.int (f i)) := by
  rw [izs_at (by rw [lst_len]; exact h), lst_at h]
theorem spread_lst {q : Int} {n u : Nat} (f : Nat → Int) : spreadV q n (lst f (n + 1)) u = sumTo (fun i => f i * gR q (n - i) u) (n + 1) :=
  sumTo_ext _ fun i hi => by rw [lst_at hi]
theorem known_lst {q : Int} {n u k : Nat} (f : Nat → Int) (h : u ≤ k) : knownV q n (lst f k) u = sumTo (fun i => f i * gR q (n - i) (u - i)) u :=
  sumTo_ext _ fun i hi => by rw [lst_at (by omega)]
theorem comp_lst {q : Int} {n u r k : Nat} (f : Nat → Int) (h : r ≤ k) : compV q n (lst f k) u r = sumTo (fun i => f i * gR q (n - i) u) r :=
  sumTo_ext _ fun i hi => by rw [lst_at (by omega)]
theorem sumTo_cut2 {f : Nat → Int} {k : Nat} : ∀ n, k ≤ n → (∀ i, k ≤ i → i < n → f i = 0) → sumTo f n = sumTo f k
  | 0, h, _ => by obtain rfl : k = 0 := by omega
                  rfl
  | n + 1, h, z => by
    by_cases e : k = n + 1
    · rw [e]
    · show sumTo f n + f n = _
      rw [z n (by omega) (by omega), Int.add_zero, sumTo_cut2 n (by omega) fun i h1 h2 => z i h1 (by omega)]
theorem upTo_run {α : Type} {st : Nat → α → α} {ok : Nat → α → Bool} (f : Nat → α) (lo N : Nat) (h : ∀ r, lo ≤ r → r < N → ok r (f r) = true ∧ st r (f r) = f (r + 1)) : ∀ n r, lo ≤ r → r + n = N → VM.upTo st ok n r (f r) = .inr (f N)
  | 0, r, _, hn => by obtain rfl : r = N := hn; rfl
  | n + 1, r, hl, hn => by
    obtain ⟨h1, h2⟩ := h r hl (by omega)
    unfold VM.upTo
    rw [if_pos h1, h2]
    exact upTo_run f lo N h n (r + 1) (by omega) (by omega)
section
variable {q : Int} (h : q = 2 ∨ q = 3) {m n : Nat} {s : Int} {fA fB : Nat → Int}
include h
theorem last_one (u : Nat) : gR q (n - u) (u - u) = 1 := by rw [Nat.sub_self, gR_zero]
theorem Lot2.pos (L : Lot2 q m n s fA fB) : 0 < s := by
  obtain ⟨e, _, rfl⟩ := L.sz
  have := pow_pos1 (q_two h) e
  omega
theorem Lot2.small (L : Lot2 q m n s fA fB) (hm : m ≤ 12) (hn : n ≤ 12) : s.natAbs ≤ 2 ^ 300 := by
  obtain ⟨e, he, rfl⟩ := L.sz
  have : m * n ≤ 144 := Nat.mul_le_mul hm hn
  exact q_pow2 h (by omega)
theorem Lot2.idk (L : Lot2 q m n s fA fB) {u : Nat} (hu : u ≤ n) : q ^ (m * u) * spreadV q n (lst fA (n + 1)) u = s * (knownV q n (lst fB u) u + fB u) := by
  rw [spread_lst, L.id u hu, known_lst fB (Nat.le_refl u)]
  show s * (sumTo (fun j => fB j * gR q (n - j) (u - j)) u + fB u * gR q (n - u) (u - u)) = _
  rw [last_one h, Int.mul_one]
theorem Lot2.sum (L : Lot2 q m n s fA fB) : (lst fA (n + 1)).sum = s := by
  have e := L.id 0 (Nat.zero_le n)
  rw [Nat.mul_zero, Int.pow_zero, Int.one_mul] at e
  rw [lst_sum, ← sumTo_ext (f := fun i => fA i * gR q (n - i) 0) (g := fA) (n + 1) fun i _ => by rw [gR_zero, Int.mul_one], e]
  show s * (0 + fB 0 * gR q (n - 0) (0 - 0)) = s
  rw [L.b0, last_one h, Int.zero_add, Int.mul_one, Int.mul_one]
theorem Lot2.rest (L : Lot2 q m n s fA fB) : restR q m n s (lst fA (n + 1)) = .inr (lst fB (n + 1)) := by
  have p := L.pos h
  refine upTo_run (fun r => lst fB r) 0 (n + 1) (fun r _ hr => ?_) (n + 1) 0 (by omega) (by omega)
  have t : restTop q m n s (lst fA (n + 1)) (lst fB r) r = s * fB r := by
    unfold restTop
    rw [L.idk h (by omega), Int.mul_add]
    omega
  unfold restOk restSt
  rw [t, Int.mul_emod_right, Int.mul_ediv_cancel_left _ (by omega : s ≠ 0), lst_s]
  exact ⟨by rw [decide_eq_true (Int.mul_nonneg (by omega) (L.nB r (by omega)))]; rfl, rfl⟩
theorem Lot2.comp (L : Lot2 q m n s fA fB) (hm : m ≤ 12) (hn : n ≤ 12) {t : Nat} (ht : t ≤ n) (z : ∀ j, 1 ≤ j → j < n - t → fB j = 0) : compR q m n s (lst fA (t + 1)) = .inr (lst fA (n + 1)) := by
  unfold compR
  rw [lst_len]
  refine upTo_run (fun r => lst fA r) (t + 1) (n + 1) (fun r hrt hr => ?_) (n + 1 - (t + 1)) (t + 1) (by omega) (by omega)
  · obtain ⟨p, _⟩ := bot_ok h (m := m) hm hn r
    have e := L.id (n - r) (by omega)
    have e2 : sumTo (fun j => fB j * gR q (n - j) (n - r - j)) (n - r + 1) = gR q n (n - r) := by
      rw [sumTo_front, L.b0, Nat.sub_zero, Nat.sub_zero, Int.one_mul]
      have : sumTo (fun i => fB (i + 1) * gR q (n - (i + 1)) (n - r - (i + 1))) (n - r) = sumTo (fun _ => 0) (n - r) := sumTo_ext _ fun i hi => by rw [z (i + 1) (by omega) (by omega), Int.zero_mul]
      rw [this]
      have z0 : ∀ k, sumTo (fun _ => (0 : Int)) k = 0 := fun k => by
        induction k with
        | zero => rfl
        | succ k ih => show sumTo (fun _ => (0 : Int)) k + 0 = 0; rw [ih]; rfl
      rw [z0, Int.add_zero]
    have e3 : sumTo (fun i => fA i * gR q (n - i) (n - r)) (n + 1) = compV q n (lst fA r) (n - r) r + fA r := by
      rw [comp_lst fA (Nat.le_refl r), sumTo_cut2 (k := r + 1) (n + 1) (by omega) fun i hi hi2 => by rw [gR_out q (n - i) (n - r) (by omega), Int.mul_zero]]
      show _ + fA r * gR q (n - r) (n - r) = _
      rw [gR_diag, Int.mul_one]
    rw [e2, e3] at e
    have t : cTop q n s r = cBot q m n r * (compV q n (lst fA r) (n - r) r + fA r) := e.symm
    unfold compOk compSt
    rw [t, Int.mul_emod_right, Int.mul_ediv_cancel_left _ (by omega : cBot q m n r ≠ 0), lst_s]
    have := L.nA r (by omega)
    refine ⟨by rw [decide_eq_true (by omega), decide_eq_true (by omega)]; rfl, ?_⟩
    rw [show compV q n (lst fA r) (n - r) r + fA r - compV q n (lst fA r) (n - r) r = fA r by omega]
theorem spread_mul (c : Int) (f : Nat → Int) (u : Nat) : spreadV q n (lst (fun i => c * f i) (n + 1)) u = c * spreadV q n (lst f (n + 1)) u := by
  rw [spread_lst, spread_lst, ← sumTo_mul]
  exact sumTo_ext _ fun i _ => by rw [Int.mul_assoc]
theorem known_mul (c : Int) (f : Nat → Int) (u : Nat) : knownV q n (lst (fun i => c * f i) u) u = c * knownV q n (lst f u) u := by
  rw [known_lst _ (Nat.le_refl u), known_lst _ (Nat.le_refl u), ← sumTo_mul]
  exact sumTo_ext _ fun i _ => by rw [Int.mul_assoc]
theorem Lot2.turned (L : Lot2 q m n s fA fB) : ∀ u, u ≤ n + 1 → turnL q m n (lst (fun i => s * fA i) (n + 1)) u = lst (fun i => s * s * fB i) u
  | 0, _ => rfl
  | u + 1, hu => by
    show turnL q m n (lst (fun i => s * fA i) (n + 1)) u ++ [_] = _
    rw [Lot2.turned L u (by omega), lst_s (fun i => s * s * fB i) u, spread_mul h, known_mul h, Int.mul_left_comm, L.idk h (by omega), Int.mul_add]
    congr 2
    rw [Int.mul_add, ← Int.mul_assoc, ← Int.mul_assoc]
    omega
end
/-! ### the law's own counts of real lots -/
theorem e_max0 (s d : Nat) : dMax (.int 0) (.int ((s : Int) - (d : Int) + 1)) = some (.val (.int ((s + 1 - d : Nat) : Int))) := by
  rw [e_max]
  split
  · rw [show (s : Int) - (d : Int) + 1 = ((s + 1 - d : Nat) : Int) by omega]
  · rw [show ((s + 1 - d : Nat) : Int) = 0 by omega]
section
variable {q : Int} (h : q = 2 ∨ q = 3)
include h
theorem mA_abs {m d i : Nat} (hm : m ≤ 12) (d0 : 1 ≤ d) (hi : i ≤ 12) : (mA q m d i).natAbs ≤ 2 ^ 3884 := by
  unfold mA
  split
  · exact Nat.le_trans (show (1 : Int).natAbs ≤ 1 by decide) (Nat.pow_pos (by decide))
  · exact mTot_abs h hm (by omega) (by omega) _ (by omega)
theorem met_in {m d s : Nat} (hm : m ≤ 12) (d0 : 1 ≤ d) (hs : s ≤ 12) {N : Nat} (hN : s ≤ N) {s0 s1 s2 s3 : S} :
    mLoop (gN 8) [8] L__law_met_1 (rngD 0 s) [s0, s1, s2, s3, .sh (.lst (rowsL q 13)), .ow (.lst (izs (lst (mA q m d) N))), .sh (.int (s : Int)), .sh (.int (q ^ (m * (s + 1 - d)))), .no] = .ok .nx [s0, s1, s2, s3, .sh (.lst (rowsL q 13)), .ow (.lst (izs (lst (mA q m d) N))), .sh (.int (s : Int)), .sh (.int (q ^ (m * (s + 1 - d)) - sumTo (fun r => mA q m d r * gR q s r) s)), .no] := by
  have L := loop_rng (g := gN 8) (junk := [8]) (body := L__law_met_1) (fun k => [s0, s1, s2, s3, .sh (.lst (rowsL q 13)), .ow (.lst (izs (lst (mA q m d) N))), .sh (.int (s : Int)), .sh (.int (q ^ (m * (s + 1 - d)) - sumTo (fun r => mA q m d r * gR q s r) k)), .no]) 0 s fun k hk => by
    have x1 : atI (izs (lst (mA q m d) N)) (k : Int) = some (.int (mA q m d k)) := lst_izs_at (by omega)
    have r1 := at_rows (q := q) (n := 13) (b := s) (by omega)
    have r2 : atI (rowL q s (s + 1)) (k : Int) = some (.int (gR q s k)) := at_row (by omega)
    have o := mulOk2 (mA_abs h hm d0 (show k ≤ 12 by omega)) (gR_abs h (w := s) (p := k) (by omega) (by omega)) (by omega)
    have e : q ^ (m * (s + 1 - d)) - sumTo (fun r => mA q m d r * gR q s r) (k + 1) = q ^ (m * (s + 1 - d)) - sumTo (fun r => mA q m d r * gR q s r) k - mA q m d k * gR q s k := by
      show _ - (sumTo (fun r => mA q m d r * gR q s r) k + mA q m d k * gR q s k) = _
      omega
    rw [Int.zero_add, e]
    simp! only [L__law_met_1, x1, r1, rowD, r2, e_mulI o]
  rw [show sumTo (fun r => mA q m d r * gR q s r) 0 = 0 from rfl, Int.sub_zero] at L
  exact L
theorem met_eq {m n d : Nat} (hm : m ≤ 12) (hn : n ≤ m) (d0 : 1 ≤ d) (d1 : d ≤ n + 1) : F__law_met [.int q, .int (m : Int), .int (n : Int), .int (d : Int), .lst (rowsL q 13)] = .ok true (.lst (izs (lst (fun i => mA q m d i * gR q n i) (n + 1)))) .non := by
  have L := loop_rng (g := gN 6) (junk := [7, 8]) (body := L__law_met_2) (fun k => [.sh (.int q), .sh (.int (m : Int)), .sh (.int (n : Int)), .sh (.int (d : Int)), .sh (.lst (rowsL q 13)), .ow (.lst (izs (lst (mA q m d) k))), if k = 0 then .no else .sh (.int ((k - 1 : Nat) : Int)), .no, .no]) 0 (n + 1) fun k hk => by
    have I := met_in h hm d0 (s := k) (N := k) (by omega) (Nat.le_refl k) (s0 := .sh (.int q)) (s1 := .sh (.int (m : Int))) (s2 := .sh (.int (n : Int))) (s3 := .sh (.int (d : Int)))
    have m1 : m * (k + 1 - d) ≤ 144 := Nat.mul_le_mul hm (show k + 1 - d ≤ 12 by omega)
    have e1 := lpow_n h (e := m * (k + 1 - d)) (by omega)
    rw [Int.natCast_mul] at e1
    have o1 : mulOk (m : Int) ((k + 1 - d : Nat) : Int) = true := mulOk_le (a := 10) (b := 10) (by omega) (by omega) (by omega)
    have ok1 : okR (k : Int) = true := okR_of (by omega)
    have ll : (izs (lst (mA q m d) k)).length < lim := by rw [izs_len, lst_len]; unfold lim; omega
    have id := met_id h hm d0 (d := d) (s := k) (by omega) (by omega)
    have e2 : q ^ (m * (k + 1 - d)) - sumTo (fun r => mA q m d r * gR q k r) k = mA q m d k := by
      have e : sumTo (fun r => mA q m d r * gR q k r) (k + 1) = sumTo (fun r => mA q m d r * gR q k r) k + mA q m d k * gR q k k := rfl
      rw [gR_diag, Int.mul_one] at e
      omega
    have mx := e_max0 k d
    have st : izs (lst (mA q m d) (k + 1)) = izs (lst (mA q m d) k) ++ [.int (mA q m d k)] := by rw [lst_s]; exact izs_app _ _
    rw [if_neg (Nat.succ_ne_zero k), Nat.add_sub_cancel, Int.zero_add, st]
    have go : ∀ s6 : S, turn (gN 6) [7, 8] L__law_met_2 (.int (k : Int)) [.sh (.int q), .sh (.int (m : Int)), .sh (.int (n : Int)), .sh (.int (d : Int)), .sh (.lst (rowsL q 13)), .ow (.lst (izs (lst (mA q m d) k))), s6, .no, .no] = .ok .nx [.sh (.int q), .sh (.int (m : Int)), .sh (.int (n : Int)), .sh (.int (d : Int)), .sh (.lst (rowsL q 13)), .ow (.lst (izs (lst (mA q m d) k) ++ [.int (mA q m d k)])), .sh (.int (k : Int)), .no, .no] := fun s6 => by
      simp! only [L__law_met_2, mx, e_mulI o1, e1, ok1, Int.toNat_natCast, I, e2, ll]
    exact go _
  have lc := lc_each (g := gN 6) (own := [6]) (elt := L__law_met_3) (E := [.sh (.int q), .sh (.int (m : Int)), .sh (.int (n : Int)), .sh (.int (d : Int)), .sh (.lst (rowsL q 13)), .ow (.lst (izs (lst (mA q m d) (n + 1)))), .no, .no, .no]) (fun i : Nat => .int (0 + (i : Int))) (fun i => .int (mA q m d i * gR q n i)) (List.range (n + 1)) (by rw [List.length_range]; unfold lim; omega) fun i hi => by
    have hi := List.mem_range.mp hi
    have x1 : atI (izs (lst (mA q m d) (n + 1))) (i : Int) = some (.int (mA q m d i)) := lst_izs_at (by omega)
    have r1 := at_rows (q := q) (n := 13) (b := n) (by omega)
    have r2 : atI (rowL q n (n + 1)) (i : Int) = some (.int (gR q n i)) := at_row (by omega)
    have o := mulOk2 (mA_abs h hm d0 (show i ≤ 12 by omega)) (gR_abs h (w := n) (p := i) (by omega) (by omega)) (by omega)
    rw [Int.zero_add]
    exact lcV (e1 := [.sh (.int q), .sh (.int (m : Int)), .sh (.int (n : Int)), .sh (.int (d : Int)), .sh (.lst (rowsL q 13)), .ow (.lst (izs (lst (mA q m d) (n + 1)))), .sh (.int (i : Int)), .no, .no]) (by simp! only [if_true]) (e3 := [.sh (.int q), .sh (.int (m : Int)), .sh (.int (n : Int)), .sh (.int (d : Int)), .sh (.lst (rowsL q 13)), .ow (.lst (izs (lst (mA q m d) (n + 1)))), .sh (.int (i : Int)), .no, .no]) (by simp! only [L__law_met_3, x1, r1, rowD, r2, e_mulI o]) (by simp! only [if_true])
  rw [← rngD_map] at lc
  have eo : (List.range (n + 1)).map (fun i => D.int (mA q m d i * gR q n i)) = izs (lst (fun i => mA q m d i * gR q n i) (n + 1)) := by unfold izs lst; rw [List.map_map]; rfl
  rw [eo] at lc
  have ok1 : okR ((n : Int) + 1) = true := okR_of (by omega)
  have n1 : ((n : Int) + 1).toNat = n + 1 := by omega
  rw [if_pos rfl, if_neg (Nat.succ_ne_zero n), Nat.add_sub_cancel, show izs (lst (mA q m d) 0) = [] from rfl] at L
  simp! only [F__law_met_eq, B__law_met, ok1, n1, L, lc]
theorem tab_in {a b r : Nat} (ha : a ≤ 12) (hb : b ≤ 12) (hr : r ≤ 12) {s2 s3 s4 s5 : S} : mLoop (gN 8) [8] L__law_tables_1 (rngD 0 r) [.sh (.int q), .sh (.int (a : Int)), s2, s3, s4, s5, .sh (.int (r : Int)), .sh (.int (gR q b r)), .no] = .ok .nx [.sh (.int q), .sh (.int (a : Int)), s2, s3, s4, s5, .sh (.int (r : Int)), .sh (.int (gR q b r * gP q a r)), .no] := by
  have L := loop_rng (g := gN 8) (junk := [8]) (body := L__law_tables_1) (fun k => [.sh (.int q), .sh (.int (a : Int)), s2, s3, s4, s5, .sh (.int (r : Int)), .sh (.int (gR q b r * gP q a k)), .no]) 0 r fun k hk => by
    rw [Int.zero_add]
    by_cases c : (k : Int) < (a : Int)
    · have e1 := lpow_n h (e := a) (by omega)
      have e2 := lpow_n h (e := k) (by omega)
      have o := mulOk2 (abs_mul (gR_abs h (w := b) (p := r) (by omega) (by omega)) (gP_abs h (t := a) (by omega) k (by omega))) (abs_diff (by have := pow_pos1 (q_two h) a; omega) (by have := pow_pos1 (q_two h) k; omega) (q_pow h (show a ≤ 41 by omega)) (q_pow h (show k ≤ 41 by omega))) (by omega)
      have e : gR q b r * gP q a (k + 1) = gR q b r * gP q a k * (q ^ a - q ^ k) := by rw [gP_s, Int.mul_assoc]
      rw [e]
      simp! only [L__law_tables_1, c, e1, e2, e_mulI o]
    · have e : gR q b r * gP q a (k + 1) = 0 := by rw [gP_out q a (k + 1) (by omega), Int.mul_zero]
      rw [e]
      simp! only [L__law_tables_1, c]
  rw [gP_0, Int.mul_one] at L
  exact L
theorem tables_eq {a b n : Nat} (ha : a ≤ 12) (hb : b ≤ 12) (hn : n ≤ 12) : F__law_tables [.int q, .int (a : Int), .int (b : Int), .int (n : Int), .lst (rowsL q 13)] = .ok true (.lst (izs (lst (fun i => gR q b i * gP q a i) (n + 1)))) .non := by
  have L := loop_rng (g := gN 6) (junk := [6, 7, 8]) (body := L__law_tables_2) (fun k => [.sh (.int q), .sh (.int (a : Int)), .sh (.int (b : Int)), .sh (.int (n : Int)), .sh (.lst (rowsL q 13)), .ow (.lst (izs (lst (fun i => gR q b i * gP q a i) k))), .no, .no, .no]) 0 (n + 1) fun k hk => by
    have I := tab_in h ha hb (show k ≤ 12 by omega) (s2 := .sh (.int (b : Int))) (s3 := .sh (.int (n : Int))) (s4 := .sh (.lst (rowsL q 13))) (s5 := .ow (.lst (izs (lst (fun i => gR q b i * gP q a i) k))))
    have e1 := lat_n (q := q) (a := b) (b := k) hb
    have ok1 : okR (k : Int) = true := okR_of (by omega)
    have ll : (izs (lst (fun i => gR q b i * gP q a i) k)).length < lim := by rw [izs_len, lst_len]; unfold lim; omega
    have st : izs (lst (fun i => gR q b i * gP q a i) (k + 1)) = izs (lst (fun i => gR q b i * gP q a i) k) ++ [.int (gR q b k * gP q a k)] := by rw [lst_s]; exact izs_app _ _
    rw [Int.zero_add, st]
    simp! only [L__law_tables_2, e1, ok1, Int.toNat_natCast, I, ll]
  have ok1 : okR ((n : Int) + 1) = true := okR_of (by omega)
  have n1 : ((n : Int) + 1).toNat = n + 1 := by omega
  rw [show izs (lst (fun i => gR q b i * gP q a i) 0) = [] from rfl] at L
  simp! only [F__law_tables_eq, B__law_tables, ok1, n1, L]
end
theorem div_n {n : Nat} (h0 : 0 < n) (h : n ≤ 1000) : divOk (n : Int) = true := divOk_of (b := 12) (by omega) (by omega) (by omega)
theorem real_good {q : Int} (h : q = 2 ∨ q = 3) {m n : Nat} (m0 : 1 ≤ m) (hm : m ≤ 12) (n0 : 1 ≤ n) (hn : n ≤ 12) {d : D} (g : GoodHand d) : ∃ s fA fB d', F__law_real [d, .int q, .int (m : Int), .int (n : Int), .lst (rowsL q 13)] = .ok true (.lst (izs (lst fA (n + 1)))) d' ∧ Lot2 q m n s fA fB ∧ GoodHand d' := by
  have dm := div_n (n := m + 1) (by omega) (by omega)
  have dn := div_n (n := n + 1) (by omega) (by omega)
  rw [Int.natCast_succ] at dm dn
  have tabs : ∀ {d1 : D}, GoodHand d1 → ∃ s fA fB d', (∃ r1 r2 d2, F__law_draw [d1, .int ((m : Int) + 1)] = .ok false (.int r1) d2 ∧ F__law_draw [d2, .int ((n : Int) + 1)] = .ok false (.int r2) d' ∧ F__law_tables [.int q, .int r1, .int r2, .int (n : Int), .lst (rowsL q 13)] = .ok true (.lst (izs (lst fA (n + 1)))) .non) ∧ Lot2 q m n s fA fB ∧ GoodHand d' := fun g1 => by
    obtain ⟨r1, d2, t1, g2, x0, x1⟩ := take_good (many := (m : Int) + 1) g1 (by omega) dm
    obtain ⟨r2, d3, t2, g3, y0, y1⟩ := take_good (many := (n : Int) + 1) g2 (by omega) dn
    obtain ⟨a, rfl⟩ : ∃ a : Nat, r1 = a := ⟨r1.toNat, by omega⟩
    obtain ⟨b, rfl⟩ : ∃ b : Nat, r2 = b := ⟨r2.toNat, by omega⟩
    exact ⟨_, _, _, d3, ⟨a, b, d2, t1, t2, tables_eq h (by omega) (by omega) hn⟩, lot_tab h hm hn (by omega) (by omega), g3⟩
  by_cases c : (n : Int) ≤ (m : Int)
  · obtain ⟨r, d1, t, g1, r0, r1⟩ := take_good (many := 2) g (by decide) (by decide)
    by_cases z : r = 0
    · obtain ⟨r2, d2, t2, g2, y0, y1⟩ := take_good (many := (n : Int) + 1) g1 (by omega) dn
      obtain ⟨b, rfl⟩ : ∃ b : Nat, r2 = b := ⟨r2.toNat, by omega⟩
      have M := met_eq h (m := m) (n := n) (d := b + 1) hm (by omega) (by omega) (by omega)
      rw [show ((b + 1 : Nat) : Int) = 1 + (b : Int) by omega] at M
      have ap : apart true (.lst (izs (lst (fun i => mA q m (b + 1) i * gR q n i) (n + 1)))) = true := a_apN (izs_flat _)
      refine ⟨_, _, _, d2, ?_, lot_met h hm (by omega) (by omega) (show b + 1 ≤ n + 1 by omega), g2⟩
      simp! only [F__law_real_eq, B__law_real, c, t, z, t2, M, ap]
    · obtain ⟨s, fA, fB, d', ⟨a, b, d2, t1, t2, T⟩, L, g'⟩ := tabs g1
      have ap : apart true (.lst (izs (lst fA (n + 1)))) = true := a_apN (izs_flat _)
      refine ⟨s, fA, fB, d', ?_, L, g'⟩
      simp! only [F__law_real_eq, B__law_real, c, t, z, t1, t2, T, ap]
  · obtain ⟨s, fA, fB, d', ⟨a, b, d2, t1, t2, T⟩, L, g'⟩ := tabs g
    have ap : apart true (.lst (izs (lst fA (n + 1)))) = true := a_apN (izs_flat _)
    refine ⟨s, fA, fB, d', ?_, L, g'⟩
    simp! only [F__law_real_eq, B__law_real, c, t1, t2, T, ap]
/-! ### real lots hold -/
theorem str_ne : cEq (.str "row") (.str "none") = some false := by decide +kernel
theorem str_row : cEq (.str "row") (.str "row") = some true := cEq_self (by rw [pl_str]; decide +kernel)
theorem str_none : cEq (.str "none") (.str "none") = some true := cEq_self (by rw [pl_str]; decide +kernel)
theorem sumTo_zero {f : Nat → Int} : ∀ n, (∀ i, i < n → 0 ≤ f i) → sumTo f n = 0 → ∀ i, i < n → f i = 0
  | 0, _, _, i, hi => by omega
  | n + 1, h, z, i, hi => by
    have a := sumTo_nn (f := f) n fun i hi => h i (by omega)
    have b := h n (by omega)
    have e : sumTo f n + f n = 0 := z
    by_cases c : i = n
    · subst c; omega
    · exact sumTo_zero n (fun i hi => h i (by omega)) (by omega) i (by omega)
theorem cut_izs (f : Nat → Int) {n t : Nat} (ht : t ≤ n) : cutD (izs (lst f (n + 1))) (some 1) (some ((n : Int) - (t : Int))) = izs (lst (fun j => f (j + 1)) (n - t - 1)) := by
  unfold VM.cutD
  rw [show (n : Int) - (t : Int) = ((n - t : Nat) : Int) by omega, show (1 : Int) = ((1 : Nat) : Int) from rfl, HT.sIx_nat, HT.sIx_nat, izs_len, lst_len]
  unfold izs lst
  rw [← List.map_drop, ← List.map_take, show min 1 (n + 1) = 1 by omega, show min (n - t) (n + 1) = n - t by omega, ← List.map_drop, ← List.map_take, List.map_map, List.map_map]
  refine List.ext_getElem? fun i => ?_
  rw [List.getElem?_map, List.getElem?_map, List.getElem?_take, List.getElem?_drop]
  by_cases c : i < n - t - 1
  · rw [if_pos c, List.getElem?_range (by omega), List.getElem?_range c]
    show some (D.int (f (1 + i))) = some (D.int (f (i + 1)))
    rw [Nat.add_comm]
  · rw [if_neg c, List.getElem?_eq_none (by rw [List.length_range]; omega)]; rfl
theorem cut_pre (f : Nat → Int) {n t : Nat} (ht : t ≤ n) : cutD (izs (lst f (n + 1))) none (some ((t : Int) + 1)) = izs (lst f (t + 1)) := by
  rw [show (t : Int) + 1 = ((t + 1 : Nat) : Int) by omega, cut_take (by rw [izs_len, lst_len]; omega)]
  unfold izs
  rw [← List.map_take, lst_take f (by omega)]
section
variable {q : Int} (h : q = 2 ∨ q = 3) {m n : Nat} {s : Int} {fA fB : Nat → Int}
include h
theorem pow_le_pow {a b : Nat} (hab : a ≤ b) : q ^ a ≤ q ^ b := by
  have p := pow_pos1 (q_two h) (b - a)
  have p2 := pow_pos1 (q_two h) a
  have e : q ^ b = q ^ a * q ^ (b - a) := by rw [← Int.pow_add]; congr 1; omega
  rw [e]
  have := Int.mul_le_mul_of_nonneg_left (show 1 ≤ q ^ (b - a) from p) (show 0 ≤ q ^ a by omega)
  omega
theorem Lot2.bA (L : Lot2 q m n s fA fB) : Bl 7200 (lst fA (n + 1)) := lst_bl fun i hi => L.ba i (by omega)
theorem Lot2.bB (L : Lot2 q m n s fA fB) (hm : m ≤ 12) (hn : n ≤ 12) {i : Nat} (hi : i ≤ n) : (fB i).natAbs ≤ 2 ^ 10784 := by
  have e := L.idk h hi
  have b := top_abs h (m := m) (L.bA h) hm hn hi
  have p := L.pos h
  have k := known_nn h (n := n) (lst_nn (k := i) fun j hj => L.nB j (by omega)) i
  have x := L.nB i hi
  rw [e] at b
  have le1 := Int.mul_le_mul_of_nonneg_right (show 1 ≤ s by omega) (show 0 ≤ knownV q n (lst fB i) i + fB i by omega)
  generalize 2 ^ (7200 + 3584) = B at b
  omega
theorem Lot2.comp_call (L : Lot2 q m n s fA fB) (m0 : 1 ≤ m) (hm : m ≤ 12) (n0 : 1 ≤ n) (hn : n ≤ 12) {t : Nat} (ht : t ≤ n) (z : ∀ j, 1 ≤ j → j < n - t → fB j = 0) :
    F_completed_counts [.int q, .int (m : Int), .int (n : Int), .int s, .lst (izs (lst fA (t + 1)))] = .ok false (.tup (izs (lst fA (n + 1)))) .non := by
  have p := L.pos h
  have C := comp_eq h (m := m) (n := n) (s := s) (A := lst fA (t + 1)) (d := .lst (izs (lst fA (t + 1)))) p (.inl rfl) (by rw [lst_len]; omega) (by rw [lst_len]; omega) (lst_nn fun i hi => L.nA i (by omega)) (lst_bl fun i hi => abs_mono (L.ba i (by omega)) (by omega)) (abs_mono (L.small h hm hn) (by omega)) hm hn
    (check_good h m0 hm n0 hn) (by
      obtain ⟨e, he, rfl⟩ := L.sz
      exact W_good (by have := pow_pos1 (q_two h) e; omega) (pow_le_pow h he)) (seq_t (.inl rfl)) (by
      have := counts_good (d := .lst (izs (lst fA (t + 1)))) (A := lst fA (t + 1)) (c := ((lst fA (t + 1)).length : Int) - 1) (.inl rfl) (by omega) (by rw [lst_len]; omega) (lst_nn fun i hi => L.nA i (by omega))
      exact this) (by rw [lst_at (by omega)]; exact L.a0)
  rw [L.comp h hm hn ht z] at C
  exact C
theorem Lot2.turned_call (L : Lot2 q m n s fA fB) (m0 : 1 ≤ m) (hm : m ≤ 12) (n0 : 1 ≤ n) (hn : n ≤ 12) :
    F_turned_counts [.int q, .int (m : Int), .int (n : Int), .tup (izs (lst (fun i => s * fA i) (n + 1)))] = .ok false (.tup (izs (lst (fun i => s * s * fB i) (n + 1)))) .non := by
  have p := L.pos h
  have sm := L.small h hm hn
  have C := turned_eq h (m := m) (n := n) (k := 7500) (A := lst (fun i => s * fA i) (n + 1)) (d := .tup (izs (lst (fun i => s * fA i) (n + 1)))) (.inr rfl) (lst_len _ _) (lst_bl fun i hi => abs_mono (abs_mul sm (L.ba i (by omega))) (by omega)) (by omega) hm hn (check_good h m0 hm n0 hn)
    (counts_good (.inr rfl) (by rw [lst_len]; omega) (by rw [lst_len]; omega) (lst_nn fun i hi => Int.mul_nonneg (by omega) (L.nA i (by omega))))
    (by rw [lst_at (by omega), L.a0]; omega) (by
      rw [lst_sum, sumTo_mul, ← lst_sum, L.sum h, lst_at (by omega), L.a0, Int.mul_one])
  rw [L.turned h (n + 1) (Nat.le_refl _)] at C
  exact C
theorem real_turn (L : Lot2 q m n s fA fB) (m0 : 1 ≤ m) (hm : m ≤ 12) (n0 : 1 ≤ n) (hn : n ≤ 12) {t : Nat} (ht : t ≤ n) {s0 s4 s9 s10 : S} :
    turn (gN 8) [8] L__law_real_holds_1 (.int (t : Int)) [s0, .sh (.int q), .sh (.int (m : Int)), .sh (.int (n : Int)), s4, .sh (.lst (izs (lst fA (n + 1)))), .sh (.int s), .sh (.tup [.str "row", .lst (izs (lst fB (n + 1)))]), .no, s9, s10]
      = .ok .nx [s0, .sh (.int q), .sh (.int (m : Int)), .sh (.int (n : Int)), s4, .sh (.lst (izs (lst fA (n + 1)))), .sh (.int s), .sh (.tup [.str "row", .lst (izs (lst fB (n + 1)))]), .no, s9, s10] := by
  have c1 := cut_izs fB ht
  have c2 := cut_pre fA ht
  have sm : dSumA (.lst (izs (lst (fun j => fB (j + 1)) (n - t - 1)))) = some (.val (.int (sumTo (fun j => fB (j + 1)) (n - t - 1)))) := by
    rw [← lst_sum]; exact e_sumA
  have S := same_ok (A := lst fA (n + 1)) (by rw [lst_len]; omega)
  by_cases z : sumTo (fun j => fB (j + 1)) (n - t - 1) = 0
  · have C := L.comp_call h m0 hm n0 hn ht fun j h1 h2 => by
      have := sumTo_zero (f := fun j => fB (j + 1)) (n - t - 1) (fun i hi => L.nB (i + 1) (by omega)) z (j - 1) (by omega)
      rwa [show j - 1 + 1 = j by omega] at this
    have d1 : decide (sumTo (fun j => fB (j + 1)) (n - t - 1) = 0) = true := decide_eq_true z
    simp! only [L__law_real_holds_1, c1, sm, d1, c2, C, S]
  · have d1 : decide (sumTo (fun j => fB (j + 1)) (n - t - 1) = 0) = false := decide_eq_false z
    simp! only [L__law_real_holds_1, c1, sm, d1]
end
theorem izs_lst (f : Nat → Int) (k : Nat) : (List.range k).map (fun i => D.int (f i)) = izs (lst f k) := by unfold izs lst; rw [List.map_map]; rfl
theorem real_holds {q : Int} (h : q = 2 ∨ q = 3) {m n : Nat} (m0 : 1 ≤ m) (hm : m ≤ 12) (n0 : 1 ≤ n) (hn : n ≤ 12) {d : D} (g : GoodHand d) : ∃ d', F__law_real_holds [d, .int q, .int (m : Int), .int (n : Int), .lst (rowsL q 13)] = .ok false (.bl true) d' ∧ GoodHand d' := by
  obtain ⟨s, fA, fB, d', R, L, g'⟩ := real_good h m0 hm n0 hn g
  have p := L.pos h
  have sm := L.small h hm hn
  have su : dSumA (.lst (izs (lst fA (n + 1)))) = some (.val (.int s)) := by
    have := SeqD.sum (d := .lst (izs (lst fA (n + 1)))) (l := lst fA (n + 1)) (.inl rfl)
    rwa [L.sum h] at this
  have RR := lrest_eq h (m := m) (n := n) (k := 7200) (s := s) (A := lst fA (n + 1)) (d := .lst (izs (lst fA (n + 1)))) p (.inl rfl) (by rw [lst_len]; omega) (L.bA h) (by omega) (abs_mono sm (by omega)) hm hn
  rw [L.rest h] at RR
  have RR : F__law_rest [.int q, .int (m : Int), .int (n : Int), .int s, .lst (izs (lst fA (n + 1))), .lst (rowsL q 13)] = .ok false (.tup [.str "row", .lst (izs (lst fB (n + 1)))]) .non := RR
  have LP := loop_rng (g := gN 8) (junk := [8]) (body := L__law_real_holds_1) (fun _ => [.ow d', .sh (.int q), .sh (.int (m : Int)), .sh (.int (n : Int)), .sh (.lst (rowsL q 13)), .sh (.lst (izs (lst fA (n + 1)))), .sh (.int s), .sh (.tup [.str "row", .lst (izs (lst fB (n + 1)))]), .no, .no, .no]) 0 (n + 1) fun t ht => by
    rw [Int.zero_add]
    exact real_turn h L m0 hm n0 hn (by omega)
  have ok1 : okR ((n : Int) + 1) = true := okR_of (by omega)
  have n1 : ((n : Int) + 1).toNat = n + 1 := by omega
  have lc1 := lc_each (g := gN 10) (own := [10]) (elt := L__law_real_holds_2) (E := [.ow d', .sh (.int q), .sh (.int (m : Int)), .sh (.int (n : Int)), .sh (.lst (rowsL q 13)), .sh (.lst (izs (lst fA (n + 1)))), .sh (.int s), .sh (.tup [.str "row", .lst (izs (lst fB (n + 1)))]), .no, .no, .no]) (fun i : Nat => .int (fA i)) (fun i => .int (s * fA i)) (List.range (n + 1)) (by rw [List.length_range]; unfold lim; omega) fun i hi => by
    have hi := List.mem_range.mp hi
    have o := mulOk2 sm (L.ba i (by omega)) (by omega)
    exact lcV (e1 := [.ow d', .sh (.int q), .sh (.int (m : Int)), .sh (.int (n : Int)), .sh (.lst (rowsL q 13)), .sh (.lst (izs (lst fA (n + 1)))), .sh (.int s), .sh (.tup [.str "row", .lst (izs (lst fB (n + 1)))]), .no, .no, .sh (.int (fA i))]) (by simp! only [if_true]) (e3 := [.ow d', .sh (.int q), .sh (.int (m : Int)), .sh (.int (n : Int)), .sh (.lst (rowsL q 13)), .sh (.lst (izs (lst fA (n + 1)))), .sh (.int s), .sh (.tup [.str "row", .lst (izs (lst fB (n + 1)))]), .no, .no, .sh (.int (fA i))]) (by simp! only [L__law_real_holds_2, e_mulI o]) (by simp! only [if_true])
  rw [izs_lst, izs_lst] at lc1
  have os := mulOk2 sm sm (by omega)
  have lc2 := lc_each (g := gN 10) (own := [10]) (elt := L__law_real_holds_3) (E := [.ow d', .sh (.int q), .sh (.int (m : Int)), .sh (.int (n : Int)), .sh (.lst (rowsL q 13)), .sh (.lst (izs (lst fA (n + 1)))), .sh (.int s), .sh (.tup [.str "row", .lst (izs (lst fB (n + 1)))]), .no, .sh (.tup (izs (lst (fun i => s * fA i) (n + 1)))), .no]) (fun i : Nat => .int (fB i)) (fun i => .int (s * s * fB i)) (List.range (n + 1)) (by rw [List.length_range]; unfold lim; omega) fun i hi => by
    have hi := List.mem_range.mp hi
    have o := mulOk2 (abs_mul sm sm) (L.bB h hm hn (show i ≤ n by omega)) (by omega)
    exact lcV (e1 := [.ow d', .sh (.int q), .sh (.int (m : Int)), .sh (.int (n : Int)), .sh (.lst (rowsL q 13)), .sh (.lst (izs (lst fA (n + 1)))), .sh (.int s), .sh (.tup [.str "row", .lst (izs (lst fB (n + 1)))]), .no, .sh (.tup (izs (lst (fun i => s * fA i) (n + 1)))), .sh (.int (fB i))]) (by simp! only [if_true]) (e3 := [.ow d', .sh (.int q), .sh (.int (m : Int)), .sh (.int (n : Int)), .sh (.lst (rowsL q 13)), .sh (.lst (izs (lst fA (n + 1)))), .sh (.int s), .sh (.tup [.str "row", .lst (izs (lst fB (n + 1)))]), .no, .sh (.tup (izs (lst (fun i => s * fA i) (n + 1)))), .sh (.int (fB i))]) (by simp! only [L__law_real_holds_3, e_mulI os, e_mulI o]) (by simp! only [if_true])
  rw [izs_lst, izs_lst] at lc2
  have T := L.turned_call h m0 hm n0 hn
  have S := same_ok (A := lst (fun i => s * s * fB i) (n + 1)) (by rw [lst_len]; omega)
  refine ⟨d', ?_, g'⟩
  simp! only [F__law_real_holds_eq, B__law_real_holds, R, su, RR, str_ne, ok1, n1, LP, lc1, T, lc2, S]
/-! ### told, agrees, free counts -/
def toldD : Sum (Nat × List Int) (List Int) → D
  | .inl (u, _) => .tup [.str "none", .int (u : Nat)]
  | .inr l => .tup [.str "row", .tup (izs l)]
theorem flat_one {d : D} (h : d.flat = true) : ([d] : List D).all D.flat = true := by simp [h]
theorem ctold_ok {a b c s d : D} {x : Sum (Nat × List Int) (List Int)} (h : F_completed_counts [a, b, c, s, d] = compX x) : F__law_completed_told [a, b, c, s, d] = .ok false (toldD x) .non := by
  cases x with
  | inl p =>
    have h : F_completed_counts [a, b, c, s, d] = .ex cl_NoLot ["rank"] [.int (p.1 : Nat)] .non := h
    simp! only [F__law_completed_told_eq, B__law_completed_told, h, toldD, D.flat, List.all_cons, List.all_nil, List.lookup_cons_self]
  | inr l =>
    have h : F_completed_counts [a, b, c, s, d] = .ok false (.tup (izs l)) .non := h
    simp! only [F__law_completed_told_eq, B__law_completed_told, h, toldD]
theorem ctold_sizes {a b c s d : D} {w : Str} (h : F_completed_counts [a, b, c, s, d] = .ex cl_BadSizes ["what"] [.str w] .non) : F__law_completed_told [a, b, c, s, d] = .ok false (.tup [.str "sizes", .str w]) .non := by
  simp! only [F__law_completed_told_eq, B__law_completed_told, h, D.flat, List.all_cons, List.all_nil, List.lookup_cons_self]
theorem ctold_counts {a b c s d : D} {w : Str} (h : F_completed_counts [a, b, c, s, d] = .ex cl_BadCounts ["what"] [.str w] .non) : F__law_completed_told [a, b, c, s, d] = .ok false (.tup [.str "counts", .str w]) .non := by
  simp! only [F__law_completed_told_eq, B__law_completed_told, h, D.flat, List.all_cons, List.all_nil, List.lookup_cons_self]
theorem ttold_sizes {a b c d : D} {w : Str} (h : F_turned_counts [a, b, c, d] = .ex cl_BadSizes ["what"] [.str w] .non) : F__law_turned_told [a, b, c, d] = .ok false (.tup [.str "sizes", .str w]) .non := by
  simp! only [F__law_turned_told_eq, B__law_turned_told, h, D.flat, List.all_cons, List.all_nil, List.lookup_cons_self]
theorem ttold_counts {a b c d : D} {w : Str} (h : F_turned_counts [a, b, c, d] = .ex cl_BadCounts ["what"] [.str w] .non) : F__law_turned_told [a, b, c, d] = .ok false (.tup [.str "counts", .str w]) .non := by
  simp! only [F__law_turned_told_eq, B__law_turned_told, h, D.flat, List.all_cons, List.all_nil, List.lookup_cons_self]
theorem agrees_ok {x : Sum (Nat × List Int) (List Int)} (hl : ∀ l, x = .inr l → l.length ≤ 1000) : F__law_agrees [toldD x, numD "none" x] = .ok false (.bl true) .non := by
  cases x with
  | inl p =>
    have c : cEq (.tup [.str "none", .int (p.1 : Nat)]) (.tup [.str "none", .int (p.1 : Nat)]) = some true := cEq_self (by
      rw [pl_tup, List.all_cons, List.all_cons, List.all_nil, pl_int, pl_str]; decide +kernel)
    simp! only [F__law_agrees_eq, B__law_agrees, toldD, numD, str_none, c]
  | inr l =>
    have S := same_ok (A := l) (hl l rfl)
    simp! only [F__law_agrees_eq, B__law_agrees, toldD, numD, str_ne, str_row, S]
theorem pick_good {h : D} {xs : List D} (g : GoodHand h) (h0 : 1 ≤ xs.length) (h1 : xs.length ≤ 1000) : ∃ x h', F__law_pick [h, .lst xs] = .ok false x h' ∧ GoodHand h' ∧ x ∈ xs := by
  obtain ⟨r, h', e, g', r0, r1⟩ := take_good (many := (xs.length : Int)) g (by omega) (div_n (by omega) h1)
  obtain ⟨R, rfl⟩ : ∃ R : Nat, r = (R : Int) := ⟨r.toNat, by omega⟩
  have hR : R < xs.length := by omega
  have a1 : atI xs (R : Int) = some xs[R] := atI_nat (List.getElem?_eq_getElem hR)
  refine ⟨xs[R], h', ?_, g', List.getElem_mem hR⟩
  simp! only [F__law_pick_eq, B__law_pick, e, a1]
theorem izsOf {P : Int → Prop} : ∀ {out : List D}, (∀ d ∈ out, ∃ k : Int, d = .int k ∧ P k) → ∃ os : List Int, out = izs os ∧ ∀ o ∈ os, P o
  | [], _ => ⟨[], rfl, fun o h => nomatch h⟩
  | d :: ds, h => by
    obtain ⟨k, rfl, hk⟩ := h d List.mem_cons_self
    obtain ⟨os, rfl, ho⟩ := izsOf fun d hd => h d (List.mem_cons_of_mem _ hd)
    exact ⟨k :: os, rfl, fun o hm => (List.mem_cons.mp hm).elim (fun e => e ▸ hk) (ho o)⟩
theorem getD_all {P : Int → Prop} (h0 : P 0) {l : List Int} (h : ∀ x ∈ l, P x) (i : Nat) : P (l.getD i 0) := by
  rw [List.getD_eq_getElem?_getD]
  cases z : l[i]? with
  | none => exact h0
  | some x => exact h x (List.mem_of_getElem? z)
theorem comp_len {q : Int} {m n : Nat} {s : Int} {A l : List Int} (h : A.length ≤ n + 1) (e : compR q m n s A = .inr l) : l.length = n + 1 :=
  upTo_inv (st := compSt q m n s) (ok := compOk q m n s) (fun r l => l.length = r) (n + 1) (fun r a _ hl _ => by unfold compSt; rw [List.length_append, hl]; rfl) (n + 1 - A.length) A.length A l (by omega) rfl e
theorem free_first {q : Int} (h : q = 2 ∨ q = 3) {n : Nat} (n0 : 1 ≤ n) (hn : n ≤ 12) {d : D} (g : GoodHand d) {m : D} : ∃ (xs : List Int) (d' : D), mAsg 5 (mBin dAdd (mLst (mCons (mC (.int 1)) mNil)) (mLc (mRng (mCons (mCallIO F__law_draw 0 (mCons (mBin dAdd (mVar 3) (mC (.int 1))) mNil)) mNil)) (gN 13) [13] mYes L__law_free_holds_1))
      [.ow d, .sh (.int q), .sh m, .sh (.int (n : Int)), .sh (.lst (rowsL q 13)), .no, .no, .no, .no, .no, .no, .no, .no, .no] = .ok .nx [.ow d', .sh (.int q), .sh m, .sh (.int (n : Int)), .sh (.lst (rowsL q 13)), .ow (.lst (izs (1 :: xs))), .no, .no, .no, .no, .no, .no, .no, .no] ∧ GoodHand d' ∧ xs.length ≤ n ∧ ∀ x ∈ xs, 0 ≤ x ∧ x < 1000 := by
  have dn := div_n (n := n + 1) (by omega) (by omega)
  rw [Int.natCast_succ] at dn
  obtain ⟨r, d1, t1, g1, r0, r1⟩ := take_good (many := (n : Int) + 1) g (by omega) dn
  obtain ⟨k, rfl⟩ : ∃ k : Nat, r = k := ⟨r.toNat, by omega⟩
  obtain ⟨out, E, lc, ⟨d2, g2, rfl⟩, hR, hl⟩ := lc_draw (g := gN 13) (own := [13]) (test := mYes) (elt := L__law_free_holds_1) (fun E => ∃ d', GoodHand d' ∧ E = [.ow d', .sh (.int q), .sh m, .sh (.int (n : Int)), .sh (.lst (rowsL q 13)), .no, .no, .no, .no, .no, .no, .no, .no, .no]) (fun x => ∃ k : Int, x = .int k ∧ (0 ≤ k ∧ k < 1000)) (rngD 0 k) [] (E := [.ow d1, .sh (.int q), .sh m, .sh (.int (n : Int)), .sh (.lst (rowsL q 13)), .no, .no, .no, .no, .no, .no, .no, .no, .no]) (by rw [rng_len, List.length_nil]; unfold lim; omega) ⟨d1, g1, rfl⟩ (fun x E hx hE => by
    obtain ⟨d', g', rfl⟩ := hE
    obtain ⟨u, d2, p, g2, hu⟩ := pick_good (xs := [.int 1, .int 4, .int 1000]) g' (by decide) (by decide)
    obtain ⟨w, rfl, w1, w2⟩ : ∃ w : Int, u = .int w ∧ 1 ≤ w ∧ w ≤ 1000 := by
      simp only [List.mem_cons, List.not_mem_nil, or_false] at hu
      rcases hu with rfl | rfl | rfl
      · exact ⟨1, rfl, by decide, by decide⟩
      · exact ⟨4, rfl, by decide, by decide⟩
      · exact ⟨1000, rfl, by decide, by decide⟩
    obtain ⟨v, d3, t, g3, v0, v1⟩ := take_good (many := w) g2 w1 (divOk_of (b := 12) (by omega) (by omega) (by omega))
    exact ⟨.int v, [.ow d3, .sh (.int q), .sh m, .sh (.int (n : Int)), .sh (.lst (rowsL q 13)), .no, .no, .no, .no, .no, .no, .no, .no, .no], lcV (e1 := [.ow d', .sh (.int q), .sh m, .sh (.int (n : Int)), .sh (.lst (rowsL q 13)), .no, .no, .no, .no, .no, .no, .no, .no, .sh x]) rfl (e3 := [.ow d3, .sh (.int q), .sh m, .sh (.int (n : Int)), .sh (.lst (rowsL q 13)), .no, .no, .no, .no, .no, .no, .no, .no, .sh x]) (by simp! only [L__law_free_holds_1, p, t]) rfl, ⟨v, rfl, by omega, by omega⟩, d3, g3, rfl⟩) (fun d hd => nomatch hd)
  obtain ⟨xs, rfl, hx⟩ := izsOf hR
  rw [rng_len, izs_len] at hl
  rw [List.nil_append] at lc
  have ok1 : okR (k : Int) = true := okR_of (by omega)
  have ad : dAdd (.lst [.int 1]) (.lst (izs xs)) = some (.new (.lst (izs (1 :: xs)))) := by
    rw [e_addL (by rw [izs_len, sizeLine_eq]; show 1 + xs.length ≤ _; omega)]; rfl
  exact ⟨xs, d2, by simp! only [t1, ok1, Int.toNat_natCast, lc, ad], g2, by omega, hx⟩
/-! ### free counts hold -/
theorem rep_flat (k : Nat) : (List.replicate k [D.int 0]).flatten = List.replicate k (D.int 0) := by
  induction k with
  | zero => rfl
  | succ k ih => rw [List.replicate_succ, List.flatten_cons, ih]; rfl
theorem dmul_rep {k : Nat} (h : k ≤ 1000) : dMul (.lst [.int 0]) (.int (k : Int)) = some (.new (.lst (List.replicate k (.int 0)))) := by
  simp only [dMul]
  rw [if_pos ⟨by omega, by omega, by rw [Int.toNat_natCast, sizeLine_eq, List.length_singleton]; omega⟩, Int.toNat_natCast, rep_flat]
theorem izs_rep (k : Nat) : List.replicate k (D.int 0) = izs (List.replicate k 0) := by unfold izs; rw [List.map_replicate]
theorem sum_set : ∀ (l : List Int) (j : Nat) (x : Int), j < l.length → (l.set j (l.getD j 0 + x)).sum = l.sum + x
  | [], j, x, h => by simp at h
  | a :: l, 0, x, _ => by
    show (a + x) + l.sum = a + l.sum + x
    omega
  | a :: l, j + 1, x, h => by
    have ih := sum_set l j x (by simpa using h)
    show a + (l.set j (l.getD j 0 + x)).sum = a + l.sum + x
    omega
theorem getD_set {l : List Int} {j : Nat} {v : Int} (i : Nat) : (l.set j v).getD i 0 = if j = i ∧ i < l.length then v else l.getD i 0 := by
  rw [List.getD_eq_getElem?_getD, List.getElem?_set, List.getD_eq_getElem?_getD]
  by_cases c : j = i
  · subst c
    by_cases c2 : j < l.length
    · rw [if_pos rfl, if_pos c2, if_pos ⟨rfl, c2⟩]; rfl
    · rw [if_pos rfl, if_neg c2, if_neg (by omega), List.getElem?_eq_none (by omega)]
  · rw [if_neg c, if_neg (by omega)]
theorem NN.set {l : List Int} {j : Nat} {v : Int} (h : NN l) (hv : 0 ≤ v) : NN (l.set j v) := fun i => by
  rw [getD_set]
  split
  · exact hv
  · exact h i
theorem izs_set (l : List Int) (j : Nat) (v : Int) : (izs l).set j (.int v) = izs (l.set j v) := List.map_set.symm
theorem NN.tail {a : Int} {l : List Int} (h : NN (a :: l)) : 0 ≤ a ∧ NN l := ⟨h 0, fun i => h (i + 1)⟩
theorem NN.sum : ∀ {l : List Int}, NN l → 0 ≤ l.sum
  | [], _ => by simp
  | a :: l, h => by
    have := NN.sum h.tail.2
    have := h.tail.1
    show 0 ≤ a + l.sum
    omega
theorem NN.le : ∀ {l : List Int}, NN l → ∀ i, l.getD i 0 ≤ l.sum
  | [], _, i => by simp
  | a :: l, h, 0 => by
    have := NN.sum h.tail.2
    show a ≤ a + l.sum
    omega
  | a :: l, h, i + 1 => by
    have := NN.le h.tail.2 i
    have := h.tail.1
    show l.getD i 0 ≤ a + l.sum
    omega
theorem sum_rep (k : Nat) : (List.replicate k (0 : Int)).sum = 0 := by
  induction k with
  | zero => rfl
  | succ k ih => rw [List.replicate_succ, List.sum_cons, ih]; rfl
theorem rep_nn (k : Nat) : NN (List.replicate k 0) := fun i => by
  rw [List.getD_eq_getElem?_getD, List.getElem?_replicate]
  split <;> simp
theorem cons_nn {a : Int} {l : List Int} (h0 : 0 ≤ a) (h : NN l) : NN (a :: l) := fun i => by
  cases i with
  | zero => exact h0
  | succ i => exact h i
/-- couples under way -/
structure Cpl (n : Nat) (w : Int) (C : List Int) (left : Int) : Prop where
  len : C.length = n + 1
  nn : NN C
  c0 : C.getD 0 0 = w
  sm : C.sum + left = w * w
  l0 : 0 ≤ left
theorem cpl_turn {n : Nat} (n0 : 1 ≤ n) (hn : n ≤ 12) {w : Int} (w0 : 1 ≤ w) (w1 : w ≤ 300) {C : List Int} {left : Int} (c : Cpl n w C left) {d : D} (g : GoodHand d) {k : Nat} (hk : k < 4) {q m s4 s5 s6 s7 : S} :
    ∃ C' left' d', turn (gN 10) [10, 11, 12] L__law_free_holds_2 (.int (k : Int)) [.ow d, q, m, .sh (.int (n : Int)), s4, s5, s6, s7, .sh (.int left), .ow (.lst (izs C)), .no, .no, .no, .no] = .ok .nx [.ow d', q, m, .sh (.int (n : Int)), s4, s5, s6, s7, .sh (.int left'), .ow (.lst (izs C')), .no, .no, .no, .no] ∧ Cpl n w C' left' ∧ GoodHand d' ∧ (k = 3 → left' = 0) := by
  have dn := div_n (n := n) (by omega) (by omega)
  have ww : w * w ≤ 300 * 300 := Int.mul_le_mul w1 w1 (by omega) (by omega)
  have cs := NN.sum c.nn
  have sm := c.sm
  have l1 : left ≤ 90000 := by omega
  obtain ⟨r, d1, t1, g1, r0, r1⟩ := take_good (many := (n : Int)) g (by omega) dn
  obtain ⟨a, rfl⟩ : ∃ a : Nat, r = a := ⟨r.toNat, by omega⟩
  have ha : a + 1 < C.length := by have := c.len; omega
  have x1 : atI (izs C) (1 + (a : Int)) = some (.int (C.getD (a + 1) 0)) := by
    rw [show 1 + (a : Int) = ((a + 1 : Nat) : Int) by omega]; exact izs_at ha
  have x2 : ixN C.length (1 + (a : Int)) = some (a + 1) := by
    rw [show 1 + (a : Int) = ((a + 1 : Nat) : Int) by omega]; exact ixN_of ha
  have fin : ∀ sh : Int, 0 ≤ sh → sh ≤ left → Cpl n w (C.set (a + 1) (C.getD (a + 1) 0 + sh)) (left - sh) := fun sh h0 h1 => by
    have := c.nn (a + 1)
    refine ⟨by rw [List.length_set]; exact c.len, c.nn.set (by omega), ?_, ?_, by omega⟩
    · rw [getD_set, if_neg (by omega)]; exact c.c0
    · rw [sum_set C (a + 1) sh ha]; omega
  by_cases k3 : (k : Int) < 3
  · obtain ⟨sh, d2, t2, g2, s0, s1⟩ := take_good (many := left + 1) g1 (by have := c.l0; omega) (divOk_of (b := 20) (by have := c.l0; omega) (by have := c.l0; omega) (by omega))
    refine ⟨_, _, d2, ?_, fin sh s0 (by omega), g2, fun e => by omega⟩
    rw [← izs_set]
    simp! only [L__law_free_holds_2, t1, k3, t2, x1, izs_len, x2]
  · refine ⟨_, _, d1, ?_, fin left c.l0 (Int.le_refl _), g1, fun e => by omega⟩
    rw [← izs_set]
    simp! only [L__law_free_holds_2, t1, k3, x1, izs_len, x2]
theorem cpl_loop {n : Nat} (n0 : 1 ≤ n) (hn : n ≤ 12) {w : Int} (w0 : 1 ≤ w) (w1 : w ≤ 300) {d : D} (g : GoodHand d) {q m s4 s5 s6 s7 : S} :
    ∃ C d', mLoop (gN 10) [10, 11, 12] L__law_free_holds_2 (rngD 0 4) [.ow d, q, m, .sh (.int (n : Int)), s4, s5, s6, s7, .sh (.int (w * w - w)), .ow (.lst (izs (w :: List.replicate n 0))), .no, .no, .no, .no] = .ok .nx [.ow d', q, m, .sh (.int (n : Int)), s4, s5, s6, s7, .sh (.int 0), .ow (.lst (izs C)), .no, .no, .no, .no] ∧ Cpl n w C 0 ∧ GoodHand d' := by
  have ww : w * 1 ≤ w * w := Int.mul_le_mul_of_nonneg_left w0 (by omega)
  have c0 : Cpl n w (w :: List.replicate n 0) (w * w - w) := ⟨by simp, cons_nn (by omega) (rep_nn n), rfl, by rw [List.sum_cons, sum_rep]; omega, by omega⟩
  obtain ⟨E, lp, C, left, d', rfl, c, g', z⟩ := loop_inv (g := gN 10) (junk := [10, 11, 12]) (body := L__law_free_holds_2) (fun k E => ∃ C left d', E = [.ow d', q, m, .sh (.int (n : Int)), s4, s5, s6, s7, .sh (.int left), .ow (.lst (izs C)), .no, .no, .no, .no] ∧ Cpl n w C left ∧ GoodHand d' ∧ (k = 4 → left = 0)) (rngD 0 4) 0
    (env := [.ow d, q, m, .sh (.int (n : Int)), s4, s5, s6, s7, .sh (.int (w * w - w)), .ow (.lst (izs (w :: List.replicate n 0))), .no, .no, .no, .no]) (fun i x e hi hp => by
      obtain ⟨C, left, d', rfl, c, g', _⟩ := hp
      obtain ⟨hlt, rfl⟩ := rng_get hi
      obtain ⟨C', left', d2, t, c', g2, z⟩ := cpl_turn n0 hn w0 w1 c g' (k := i) hlt (q := q) (m := m) (s4 := s4) (s5 := s5) (s6 := s6) (s7 := s7)
      rw [Int.zero_add]
      exact ⟨_, t, C', left', d2, rfl, c', g2, fun e => z (by omega)⟩) ⟨_, _, d, rfl, c0, g, fun e => by omega⟩
  rw [rng_len] at z
  have z0 := z rfl
  subst z0
  exact ⟨C, d', lp, c, g'⟩
theorem free_size {q : Int} (h : q = 2 ∨ q = 3) {m n : Nat} (m0 : 1 ≤ m) (hm : m ≤ 12) (n0 : 1 ≤ n) (hn : n ≤ 12) {d : D} (g : GoodHand d) {s4 s5 : S} :
    ∃ (z : Int) (d' : D), (∀ k : M Fl, mSeq (mAsg 6 (mBin dAdd (mC (.int 1)) (mCallIO F__law_draw 0 (mCons (mCallF F__law_power (mCons (mVar 1) (mCons (mBin dMul (mVar 2) (mVar 3)) mNil))) mNil))))
      (mSeq (mIfS (mCmp cEq (mCallIO F__law_draw 0 (mCons (mC (.int 2)) mNil)) (mC (.int 0))) (mSeq (mAsg 6 (mBin dMul (mCallF F__law_power (mCons (mVar 1) (mCons (mBin dMul (mVar 2) (mCallIO F__law_draw 0 (mCons (mBin dAdd (mVar 3) (mC (.int 1))) mNil))) mNil))) (mBin dAdd (mC (.int 1)) (mCallIO F__law_draw 0 (mCons (mBin dSub (mVar 1) (mC (.int 1))) mNil)))))
        (mAsg 6 (mCall (fn2 dMin) (mCons (mVar 6) (mCons (mCallF F__law_power (mCons (mVar 1) (mCons (mBin dMul (mVar 2) (mVar 3)) mNil))) mNil))))) mNext) k)
      [.ow d, .sh (.int q), .sh (.int (m : Int)), .sh (.int (n : Int)), s4, s5, .no, .no, .no, .no, .no, .no, .no, .no] = k [.ow d', .sh (.int q), .sh (.int (m : Int)), .sh (.int (n : Int)), s4, s5, .sh (.int z), .no, .no, .no, .no, .no, .no, .no]) ∧ GoodHand d' ∧ 1 ≤ z ∧ z ≤ q ^ (m * n) := by
  have m1 : m * n ≤ 144 := Nat.mul_le_mul hm hn
  have e1 := lpow_n h (e := m * n) (by omega)
  rw [Int.natCast_mul] at e1
  have o1 : mulOk (m : Int) (n : Int) = true := mulOk_le (a := 10) (b := 10) (by omega) (by omega) (by omega)
  have p := pow_pos1 (q_two h) (m * n)
  obtain ⟨r, d1, t1, g1, r0, r1⟩ := take_good (many := q ^ (m * n)) g p (divOk_of (by omega) (lt_two (q_pow2 h (n := m * n) (by omega))) (by omega))
  obtain ⟨b, d2, t2, g2, b0, b1⟩ := take_good (many := 2) g1 (by decide) (by decide)
  by_cases c : b = 0
  · have dn := div_n (n := n + 1) (by omega) (by omega)
    rw [Int.natCast_succ] at dn
    obtain ⟨e, d3, t3, g3, e0, e2⟩ := take_good (many := (n : Int) + 1) g2 (by omega) dn
    obtain ⟨e, rfl⟩ : ∃ a : Nat, e = a := ⟨e.toNat, by omega⟩
    obtain ⟨f, d4, t4, g4, f0, f1⟩ := take_good (many := q - 1) g3 (by have := q_two h; omega) (by rcases h with rfl | rfl <;> decide)
    have m2 : m * e ≤ 144 := Nat.mul_le_mul hm (show e ≤ 12 by omega)
    have e3 := lpow_n h (e := m * e) (by omega)
    rw [Int.natCast_mul] at e3
    have o2 : mulOk (m : Int) (e : Int) = true := mulOk_le (a := 10) (b := 10) (by omega) (by omega) (by omega)
    have f2 : f ≤ 1 := by rcases h with rfl | rfl <;> omega
    have o3 : mulOk (q ^ (m * e)) (1 + f) = true := mulOk2 (q_pow2 h (n := m * e) (by omega)) (show (1 + f).natAbs ≤ 2 ^ 2 by omega) (by omega)
    have p2 := pow_pos1 (q_two h) (m * e)
    have p3 : 1 * 1 ≤ q ^ (m * e) * (1 + f) := Int.mul_le_mul p2 (by omega) (by decide) (by omega)
    refine ⟨if q ^ (m * n) < q ^ (m * e) * (1 + f) then q ^ (m * n) else q ^ (m * e) * (1 + f), d4, fun k => ?_, g4, by split <;> omega, by split <;> omega⟩
    simp! only [e_mulI o1, e1, t1, t2, c, t3, e_mulI o2, e3, t4, e_mulI o3]
  · refine ⟨1 + r, d2, fun k => ?_, g2, by omega, by omega⟩
    simp! only [e_mulI o1, e1, t1, t2, c]
theorem free_holds {q : Int} (h : q = 2 ∨ q = 3) {m n : Nat} (m0 : 1 ≤ m) (hm : m ≤ 12) (n0 : 1 ≤ n) (hn : n ≤ 12) {d : D} (g : GoodHand d) : ∃ d', F__law_free_holds [d, .int q, .int (m : Int), .int (n : Int), .lst (rowsL q 13)] = .ok false (.bl true) d' ∧ GoodHand d' := by
  have m1 : m * n ≤ 144 := Nat.mul_le_mul hm hn
  obtain ⟨xs, d1, st5, g1, xl, xb⟩ := free_first h n0 hn g (m := .int (m : Int))
  obtain ⟨z, d2, st6, g2, z1, z2⟩ := free_size h m0 hm n0 hn g1 (s4 := .sh (.lst (rowsL q 13))) (s5 := .ow (.lst (izs (1 :: xs))))
  have nn : NN (1 :: xs) := cons_nn (by decide) fun i => getD_all (P := fun x => 0 ≤ x) (by decide) (fun x hx => (xb x hx).1) i
  have bl : Bl 11280 (1 :: xs) := fun i => by
    have : ((1 :: xs).getD i 0).natAbs ≤ 2 ^ 10 := by
      cases i with
      | zero => show (1 : Int).natAbs ≤ _; decide
      | succ i =>
        have := getD_all (P := fun x => 0 ≤ x ∧ x < 1000) (by decide) xb i
        show (xs.getD i 0).natAbs ≤ _
        omega
    exact abs_mono this (by omega)
  have zb : z.natAbs ≤ 2 ^ 8000 := by
    have b := q_pow2 h (n := m * n) (by omega)
    refine abs_mono (m := 300) ?_ (by omega)
    generalize 2 ^ 300 = B at b
    omega
  have CE := comp_eq h (m := m) (n := n) (s := z) (A := 1 :: xs) (d := .lst (izs (1 :: xs))) (by omega) (.inl rfl) (by simp) (by simp; omega) nn bl zb hm hn (check_good h m0 hm n0 hn) (W_good z1 z2) (seq_t (.inl rfl)) (counts_good (.inl rfl) (by omega) (by simp; omega) nn) rfl
  have CT := ctold_ok CE
  have LC := lcomp_eq h (m := m) (n := n) (s := z) (A := 1 :: xs) (d := .lst (izs (1 :: xs))) (by omega) (.inl rfl) (by simp; omega) nn bl zb hm hn
  have AG := agrees_ok (x := compR q m n z (1 :: xs)) fun l e => by
    have := comp_len (A := 1 :: xs) (by simp; omega) e
    omega
  obtain ⟨w', d3, t3, g3, w0, w1⟩ := take_good (many := 300) g2 (by decide) (by decide)
  obtain ⟨w, rfl⟩ : ∃ w, w' = w - 1 := ⟨w' + 1, by omega⟩
  have ew : 1 + (w - 1) = w := by omega
  obtain ⟨C, d4, lp, c, g4⟩ := cpl_loop n0 hn (w := w) (by omega) (by omega) g3 (q := .sh (.int q)) (m := .sh (.int (m : Int))) (s4 := .sh (.lst (rowsL q 13))) (s5 := .sh (.lst (izs (1 :: xs)))) (s6 := .sh (.int z)) (s7 := .sh (.int w))
  have ww : w * w ≤ 300 * 300 := Int.mul_le_mul (by omega) (by omega) (by omega) (by omega)
  have om : mulOk w w = true := mulOk_le (a := 10) (b := 10) (by omega) (by omega) (by omega)
  have rp := dmul_rep (k := n) (by omega)
  have ad : dAdd (.lst [.int w]) (.lst (List.replicate n (.int 0))) = some (.new (.lst (izs (w :: List.replicate n 0)))) := by
    rw [e_addL (by rw [List.length_replicate, sizeLine_eq]; show 1 + n ≤ _; omega), izs_rep]; rfl
  have o4 : okR 4 = true := by decide
  have n4 : (4 : Int).toNat = 4 := rfl
  have csm := c.sm
  have cbl : Bl 20 C := fun i => by
    have a := c.nn i
    have b := c.nn.le i
    omega
  have TC := turned_eq h (m := m) (n := n) (k := 20) (A := C) (d := .lst (izs C)) (.inl rfl) c.len cbl (by omega) hm hn (check_good h m0 hm n0 hn) (counts_good (.inl rfl) (by rw [c.len]; omega) (by rw [c.len]; omega) c.nn) (by rw [c.c0]; omega) (by rw [c.c0]; omega)
  have LT := lturned_eq h (m := m) (n := n) (k := 20) (A := C) (d := .lst (izs C)) (.inl rfl) (by rw [c.len]; omega) cbl (by omega) hm hn
  have S := same_ok (A := turnL q m n C (n + 1)) (by rw [turnL_len]; omega)
  have ap : apart true (.lst (izs (turnL q m n C (n + 1)))) = true := a_apN (izs_flat _)
  have key : B__law_free_holds [.ow d, .sh (.int q), .sh (.int (m : Int)), .sh (.int (n : Int)), .sh (.lst (rowsL q 13)), .no, .no, .no, .no, .no, .no, .no, .no, .no] = .ok (.rt (.val (.bl true))) [.ow d4, .sh (.int q), .sh (.int (m : Int)), .sh (.int (n : Int)), .sh (.lst (rowsL q 13)), .sh (.lst (izs (1 :: xs))), .sh (.int z), .sh (.int w), .sh (.int 0), .sh (.lst (izs C)), .no, .no, .no, .no] := by
    unfold B__law_free_holds
    refine seq_go st5 ?_
    refine (st6 _).trans ?_
    refine seq_go (e := [.ow d2, .sh (.int q), .sh (.int (m : Int)), .sh (.int (n : Int)), .sh (.lst (rowsL q 13)), .sh (.lst (izs (1 :: xs))), .sh (.int z), .no, .no, .no, .no, .no, .no, .no]) (by
      cases hx : compR q m n z (1 :: xs) <;> (rw [hx] at CT LC AG; dsimp only [toldD, numD] at CT LC AG; simp! only [CT, LC, AG])) ?_
    refine seq_go (e := [.ow d3, .sh (.int q), .sh (.int (m : Int)), .sh (.int (n : Int)), .sh (.lst (rowsL q 13)), .sh (.lst (izs (1 :: xs))), .sh (.int z), .sh (.int w), .no, .no, .no, .no, .no, .no]) (by simp! only [t3, ew]) ?_
    refine seq_go (e := [.ow d3, .sh (.int q), .sh (.int (m : Int)), .sh (.int (n : Int)), .sh (.lst (rowsL q 13)), .sh (.lst (izs (1 :: xs))), .sh (.int z), .sh (.int w), .sh (.int (w * w - w)), .no, .no, .no, .no, .no]) (by simp! only [e_mulI om]) ?_
    refine seq_go (e := [.ow d3, .sh (.int q), .sh (.int (m : Int)), .sh (.int (n : Int)), .sh (.lst (rowsL q 13)), .sh (.lst (izs (1 :: xs))), .sh (.int z), .sh (.int w), .sh (.int (w * w - w)), .ow (.lst (izs (w :: List.replicate n 0))), .no, .no, .no, .no]) (by simp! only [rp, ad]) ?_
    refine seq_go (e := [.ow d4, .sh (.int q), .sh (.int (m : Int)), .sh (.int (n : Int)), .sh (.lst (rowsL q 13)), .sh (.lst (izs (1 :: xs))), .sh (.int z), .sh (.int w), .sh (.int 0), .ow (.lst (izs C)), .no, .no, .no, .no]) (by simp! only [o4, n4, lp]) ?_
    simp! only [TC, LT, ap, S]
  refine ⟨d4, ?_, g4⟩
  rw [F__law_free_holds_eq]
  show finIO (B__law_free_holds _) = _
  rw [show entryIO 14 d [.int q, .int (m : Int), .int (n : Int), .lst (rowsL q 13)] = [.ow d, .sh (.int q), .sh (.int (m : Int)), .sh (.int (n : Int)), .sh (.lst (rowsL q 13)), .no, .no, .no, .no, .no, .no, .no, .no, .no] from rfl, key]
  rfl
/-! ### odd values -/
/-- no whole number from lo to hi -/
def Odd (d : D) (lo hi : Int) : Prop := (∃ j : Int, d = .int j ∧ ¬ (lo ≤ j ∧ j ≤ hi)) ∨ oddK d = true
theorem Odd.w {d : D} {lo hi : Int} (h : Odd d lo hi) : W d lo hi false := by
  rcases h with ⟨j, rfl, h⟩ | h
  · exact W_bad h
  · exact W_odd h
theorem pow9 : dPow (.int 10) (.int 9) = some (.val (.int 1000000000)) := by rw [e_powI (by decide)]; rfl
theorem odd_good {h : D} {lo hi : Int} (g : GoodHand h) (l0 : 0 ≤ lo) (l1 : lo ≤ 1000) (lh : lo ≤ hi) : ∃ nw d h', F__law_odd [h, .int lo, .int hi] = .ok nw d h' ∧ GoodHand h' ∧ Odd d lo hi := by
  obtain ⟨far, h1, e1, g1, f0, f1⟩ := take_good (many := 1000000000) g (by omega) (by decide)
  obtain ⟨k, h2, e2, g2, k0, k1⟩ := take_good (many := 8) g1 (by omega) (by decide)
  have st : lo.natAbs.log2 < 1920 := Nat.lt_of_le_of_lt (log2_le (k := 20) (by omega)) (by omega)
  have es := e_str st
  rcases (show k = 0 ∨ k = 1 ∨ k = 2 ∨ k = 3 ∨ k = 4 ∨ k = 5 ∨ k = 6 ∨ k = 7 by omega) with rfl | rfl | rfl | rfl | rfl | rfl | rfl | rfl
  · exact ⟨false, .int (lo - 1), h2, by simp! only [F__law_odd_eq, B__law_odd, pow9, e1, e2], g2, .inl ⟨_, rfl, by omega⟩⟩
  · exact ⟨false, .int (hi + 1), h2, by simp! only [F__law_odd_eq, B__law_odd, pow9, e1, e2], g2, .inl ⟨_, rfl, by omega⟩⟩
  · exact ⟨false, .int (lo - 2 - far), h2, by simp! only [F__law_odd_eq, B__law_odd, pow9, e1, e2], g2, .inl ⟨_, rfl, by omega⟩⟩
  · exact ⟨false, .int (hi + 2 + far), h2, by simp! only [F__law_odd_eq, B__law_odd, pow9, e1, e2], g2, .inl ⟨_, rfl, by omega⟩⟩
  · exact ⟨false, .bl true, h2, by simp! only [F__law_odd_eq, B__law_odd, pow9, e1, e2], g2, .inr rfl⟩
  · exact ⟨false, .non, h2, by simp! only [F__law_odd_eq, B__law_odd, pow9, e1, e2], g2, .inr rfl⟩
  · exact ⟨false, .str (toString lo), h2, by simp! only [F__law_odd_eq, B__law_odd, pow9, e1, e2, es], g2, .inr rfl⟩
  · exact ⟨true, .lst [.int lo], h2, by simp! only [F__law_odd_eq, B__law_odd, pow9, e1, e2], g2, .inr rfl⟩
theorem tk_set {b : Bool} {d : D} : (tkOf b d).settle = .val d := by cases b <;> rfl
/-- a spoiled row of counts -/
def RowBad (n : Nat) (d : D) : Prop := (d = .non ∨ ∃ s, d = .str s) ∨ ∃ xs, SeqD d xs ∧ xs.length ≤ 1000 ∧ (∀ x ∈ xs, kI x = true) ∧ (xs.length = 0 ∨ n + 1 < xs.length ∨ xs.all w0 = false)
theorem odd_row_good {h : D} (g : GoodHand h) {n : Nat} (hn : n ≤ 12) {A : List Int} (l0 : 1 ≤ A.length) (l1 : A.length ≤ n + 1) : ∃ nw d h', F__law_odd_row [h, .int (n : Int), .lst (izs A)] = .ok nw d h' ∧ GoodHand h' ∧ RowBad n d := by
  obtain ⟨a', h1, e1, g1, a0, a1⟩ := take_good (many := (A.length : Int)) g (by omega) (div_n (by omega) (by omega))
  obtain ⟨a, rfl⟩ : ∃ a : Nat, a' = a := ⟨a'.toNat, by omega⟩
  obtain ⟨k, h2, e2, g2, k0, k1⟩ := take_good (many := 3) g1 (by omega) (by decide)
  have ll : ((izs A).length : Int) = (A.length : Int) := by rw [izs_len]
  rcases (show k = 0 ∨ k = 1 ∨ k = 2 by omega) with rfl | rfl | rfl
  · have rp := dmul_rep (k := n + 2 - A.length) (by omega)
    rw [show ((n + 2 - A.length : Nat) : Int) = (n : Int) + 2 - (A.length : Int) by omega] at rp
    have ad : dAdd (.lst (izs A)) (.lst (List.replicate (n + 2 - A.length) (.int 0))) = some (.new (.lst (izs (A ++ List.replicate (n + 2 - A.length) 0)))) := by
      rw [e_addL (by rw [List.length_replicate, izs_len, sizeLine_eq]; omega), izs_rep, izs_app]
    refine ⟨true, .lst (izs (A ++ List.replicate (n + 2 - A.length) 0)), h2, by simp! only [F__law_odd_row_eq, B__law_odd_row, ll, e1, e2, rp, ad], g2, .inr ⟨_, .inl rfl, ?_, izs_kI, .inr (.inl ?_)⟩⟩
    · rw [izs_len, List.length_append, List.length_replicate]; omega
    · rw [izs_len, List.length_append, List.length_replicate]; omega
  · obtain ⟨u, h3, p, g3, hu⟩ := pick_good (xs := [.tup [], .non, .str "1"]) g2 (by decide) (by decide)
    refine ⟨false, u, h3, by simp! only [F__law_odd_row_eq, B__law_odd_row, ll, e1, e2, p], g3, ?_⟩
    simp only [List.mem_cons, List.not_mem_nil, or_false] at hu
    rcases hu with rfl | rfl | rfl
    · exact .inr ⟨[], .inr rfl, by decide, (fun x hx => nomatch hx), .inl rfl⟩
    · exact .inl (.inl rfl)
    · exact .inl (.inr ⟨_, rfl⟩)
  · obtain ⟨u, h3, p, g3, hu⟩ := pick_good (xs := [.int (-1), .bl true, .non]) g2 (by decide) (by decide)
    have hku : kI u = true ∧ w0 u = false := by
      simp only [List.mem_cons, List.not_mem_nil, or_false] at hu
      rcases hu with rfl | rfl | rfl <;> exact ⟨rfl, rfl⟩
    have c1 : cutD (izs A) none (some (a : Int)) = izs (A.take a) := by
      rw [cut_take (by rw [izs_len]; omega)]; unfold izs; rw [List.map_take]
    have c2 : cutD (izs A) (some ((a : Int) + 1)) none = izs (A.drop (a + 1)) := by
      rw [show (a : Int) + 1 = ((a + 1 : Nat) : Int) by omega, cut_drop (by rw [izs_len]; omega)]; unfold izs; rw [List.map_drop]
    have l3 : (A.take a).length ≤ 13 := by rw [List.length_take]; omega
    have l4 : (A.drop (a + 1)).length ≤ 13 := by rw [List.length_drop]; omega
    have ad1 : dAdd (.lst (izs (A.take a))) (.lst [u]) = some (.new (.lst (izs (A.take a) ++ [u]))) := e_addL (by rw [izs_len, sizeLine_eq]; show _ + 1 ≤ _; omega)
    have ad2 : dAdd (.lst (izs (A.take a) ++ [u])) (.lst (izs (A.drop (a + 1)))) = some (.new (.lst (izs (A.take a) ++ [u] ++ izs (A.drop (a + 1))))) := e_addL (by rw [List.length_append, izs_len, izs_len, sizeLine_eq]; show _ + 1 + _ ≤ _; omega)
    refine ⟨true, .lst (izs (A.take a) ++ [u] ++ izs (A.drop (a + 1))), h3, by simp! only [F__law_odd_row_eq, B__law_odd_row, ll, e1, e2, c1, p, ad1, ad2, c2], g3, .inr ⟨_, .inl rfl, ?_, ?_, .inr (.inr ?_)⟩⟩
    · rw [List.length_append, List.length_append, izs_len, izs_len]; show _ + 1 + _ ≤ _; omega
    · intro x hx
      simp only [List.mem_append, List.mem_singleton] at hx
      rcases hx with (hx | rfl) | hx
      · exact izs_kI x hx
      · exact hku.1
      · exact izs_kI x hx
    · rw [List.all_append, List.all_append, List.all_cons, hku.2]; simp
/-! ### what is refused -/
section
variable {q : Int} (h : q = 2 ∨ q = 3) {m n : Nat} (m0 : 1 ≤ m) (hm : m ≤ 12) (n0 : 1 ≤ n) (hn : n ≤ 12)
theorem cc_ex {a b c s d : D} {w : Str} (e : F_check_sizes [a, b, c] = .ex cl_BadSizes ["what"] [.str w] .non) : F_completed_counts [a, b, c, s, d] = .ex cl_BadSizes ["what"] [.str w] .non := by
  simp! only [F_completed_counts_eq, B_completed_counts, e, D.flat, List.all_cons, List.all_nil]
theorem tc_ex {a b c d : D} {w : Str} (e : F_check_sizes [a, b, c] = .ex cl_BadSizes ["what"] [.str w] .non) : F_turned_counts [a, b, c, d] = .ex cl_BadSizes ["what"] [.str w] .non := by
  simp! only [F_turned_counts_eq, B_turned_counts, e, D.flat, List.all_cons, List.all_nil]
include h m0 hm n0 hn
theorem cc_size {s d : D} (e : Odd s 1 (q ^ (m * n))) : F_completed_counts [.int q, .int (m : Int), .int (n : Int), s, d] = .ex cl_BadSizes ["what"] [.str "size"] .non := by
  have m1 : m * n ≤ 144 := Nat.mul_le_mul hm hn
  have e1 := pow_n h (e := m * n) (by omega)
  rw [Int.natCast_mul] at e1
  have o1 : mulOk (m : Int) (n : Int) = true := mulOk_le (a := 10) (b := 10) (by omega) (by omega) (by omega)
  have cs := check_good h m0 hm n0 hn
  have w := e.w
  unfold W at w
  simp! only [F_completed_counts_eq, B_completed_counts, cs, e_mulI o1, e1, w]
theorem cc_row {s : Int} {d : D} (s1 : 1 ≤ s) (s2 : s ≤ q ^ (m * n)) (r : RowBad n d) : F_completed_counts [.int q, .int (m : Int), .int (n : Int), .int s, d] = .ex cl_BadCounts ["what"] [.str "row"] .non := by
  have m1 : m * n ≤ 144 := Nat.mul_le_mul hm hn
  have e1 := pow_n h (e := m * n) (by omega)
  rw [Int.natCast_mul] at e1
  have o1 : mulOk (m : Int) (n : Int) = true := mulOk_le (a := 10) (b := 10) (by omega) (by omega) (by omega)
  have cs := check_good h m0 hm n0 hn
  have w := W_good s1 s2
  unfold W at w
  rcases r with r | ⟨xs, z, hl, hk, c⟩
  · have sq := seq_f r
    simp! only [F_completed_counts_eq, B_completed_counts, cs, e_mulI o1, e1, w, sq]
  · have sq := seq_t z
    have ln := z.len
    by_cases c1 : (1 : Int) ≤ (xs.length : Int)
    · by_cases c2 : (xs.length : Int) ≤ (n : Int) + 1
      · have ic := counts_eq (c := (xs.length : Int) - 1) z hl hk
        rw [show (xs.all w0) = false by rcases c with c | c | c; omega; omega; exact c, Bool.and_false] at ic
        simp! only [F_completed_counts_eq, B_completed_counts, cs, e_mulI o1, e1, w, sq, a_chainB, e_le, ln, c1, c2, ic]
      · simp! only [F_completed_counts_eq, B_completed_counts, cs, e_mulI o1, e1, w, sq, a_chainB, e_le, ln, c1, c2]
    · simp! only [F_completed_counts_eq, B_completed_counts, cs, e_mulI o1, e1, w, sq, a_chainB, e_le, ln, c1]
theorem cc_first {s : Int} {A : List Int} (s1 : 1 ≤ s) (s2 : s ≤ q ^ (m * n)) (l0 : 1 ≤ A.length) (l1 : A.length ≤ n + 1) (nn : NN A) (a0 : ¬ A.getD 0 0 = 1) : F_completed_counts [.int q, .int (m : Int), .int (n : Int), .int s, .lst (izs A)] = .ex cl_BadCounts ["what"] [.str "first"] .non := by
  have m1 : m * n ≤ 144 := Nat.mul_le_mul hm hn
  have e1 := pow_n h (e := m * n) (by omega)
  rw [Int.natCast_mul] at e1
  have o1 : mulOk (m : Int) (n : Int) = true := mulOk_le (a := 10) (b := 10) (by omega) (by omega) (by omega)
  have cs := check_good h m0 hm n0 hn
  have w := W_good s1 s2
  unfold W at w
  have sq := seq_t (d := .lst (izs A)) (.inl rfl)
  have ln : ((izs A).length : Int) = (A.length : Int) := by rw [izs_len]
  have ic := counts_good (d := .lst (izs A)) (A := A) (c := (A.length : Int) - 1) (.inl rfl) (by omega) (by omega) nn
  have c1 : (1 : Int) ≤ (A.length : Int) := by omega
  have c2 : (A.length : Int) ≤ (n : Int) + 1 := by omega
  have x0 : atI (izs A) 0 = some (.int (A.getD 0 0)) := izs_at (i := 0) (by omega)
  have d1 : cNe (.int (A.getD 0 0)) (.int 1) = some true := by rw [cNe_int, decide_eq_false a0]; rfl
  simp! only [F_completed_counts_eq, B_completed_counts, cs, e_mulI o1, e1, w, sq, a_chainB, e_le, ln, c1, c2, ic, x0, a0]
theorem tc_row {d : D} (r : RowBad n d) : F_turned_counts [.int q, .int (m : Int), .int (n : Int), d] = .ex cl_BadCounts ["what"] [.str "row"] .non := by
  have cs := check_good h m0 hm n0 hn
  have ic : F_is_counts [.int (n : Int), d] = .ok false (.bl false) .non := by
    rcases r with r | ⟨xs, z, hl, hk, c⟩
    · exact counts_seq r
    · rw [counts_eq z hl hk]
      rcases c with c | c | c
      · rw [decide_eq_false (by omega)]; rfl
      · rw [decide_eq_false (by omega)]; rfl
      · rw [c, Bool.and_false]
  simp! only [F_turned_counts_eq, B_turned_counts, cs, ic]
theorem tc_first {A : List Int} (la : A.length = n + 1) (nn : NN A) (a0 : A.getD 0 0 = 0) : F_turned_counts [.int q, .int (m : Int), .int (n : Int), .lst (izs A)] = .ex cl_BadCounts ["what"] [.str "first"] .non := by
  have cs := check_good h m0 hm n0 hn
  have ic := counts_good (d := .lst (izs A)) (A := A) (c := (n : Int)) (.inl rfl) (by omega) (by omega) nn
  have x0 : atI (izs A) 0 = some (.int (A.getD 0 0)) := izs_at (i := 0) (by omega)
  rw [a0] at x0
  have d1 : decide ((0 : Int) = 0) = true := rfl
  simp! only [F_turned_counts_eq, B_turned_counts, cs, ic, x0, d1]
theorem tc_sum {A : List Int} (la : A.length = n + 1) (nn : NN A) (a0 : ¬ A.getD 0 0 = 0) (ab : (A.getD 0 0).natAbs ≤ 2 ^ 20) (sm : ¬ A.sum = A.getD 0 0 * A.getD 0 0) : F_turned_counts [.int q, .int (m : Int), .int (n : Int), .lst (izs A)] = .ex cl_BadCounts ["what"] [.str "sum"] .non := by
  have cs := check_good h m0 hm n0 hn
  have ic := counts_good (d := .lst (izs A)) (A := A) (c := (n : Int)) (.inl rfl) (by omega) (by omega) nn
  have x0 : atI (izs A) 0 = some (.int (A.getD 0 0)) := izs_at (i := 0) (by omega)
  have su : dSumA (.lst (izs A)) = some (.val (.int A.sum)) := e_sumA
  have o := mulOk2 ab ab (by omega)
  have d1 : decide (A.sum = A.getD 0 0 * A.getD 0 0) = false := decide_eq_false sm
  simp! only [F_turned_counts_eq, B_turned_counts, cs, ic, x0, a0, su, e_mulI o, d1]
end
/-! ### the law's refusals -/
theorem e_shrN {f : Int} {i : Nat} : dShr (.int f) (.int (i : Int)) = some (.val (.int (f / 2 ^ i))) := by
  have := e_shr (i := f) (j := (i : Int)) (by omega)
  rwa [Int.toNat_natCast] at this
def bit (f : Int) (k : Nat) : Bool := decide (Builtin.bitAnd (f / 2 ^ k) 1 = 1)
def pickB (b : Bool) (o g : D) : D := if b = true then o else g
theorem four_at {a b c e : D} {i : Nat} (h : i < 4) : atI [a, b, c, e] (i : Int) = some ([a, b, c, e].getD i .non) := atI_nat (by
  rcases (show i = 0 ∨ i = 1 ∨ i = 2 ∨ i = 3 by omega) with rfl | rfl | rfl | rfl <;> rfl)
theorem ask_lc {h q m n o0 o1 o2 o3 g0 g1 g2 g3 : D} {f : Int} {s5 s8 s9 s10 s11 s12 s13 s14 s15 s16 : S} :
    mLcLoop (gN 17) [17] mYes L__law_refusals_hold_1 (rngD 0 4) [] [.ow h, .sh q, .sh m, .sh n, .sh (.int f), s5, .ow (.lst [o0, o1, o2, o3]), .ow (.lst [g0, g1, g2, g3]), s8, s9, s10, s11, s12, s13, s14, s15, s16, .no] = .ok [pickB (bit f 0) o0 g0, pickB (bit f 1) o1 g1, pickB (bit f 2) o2 g2, pickB (bit f 3) o3 g3]
      [.ow h, .sh q, .sh m, .sh n, .sh (.int f), s5, .ow (.lst [o0, o1, o2, o3]), .ow (.lst [g0, g1, g2, g3]), s8, s9, s10, s11, s12, s13, s14, s15, s16, .no] := by
  have := lc_each (g := gN 17) (own := [17]) (elt := L__law_refusals_hold_1) (E := [.ow h, .sh q, .sh m, .sh n, .sh (.int f), s5, .ow (.lst [o0, o1, o2, o3]), .ow (.lst [g0, g1, g2, g3]), s8, s9, s10, s11, s12, s13, s14, s15, s16, .no]) (fun i : Nat => .int (0 + (i : Int))) (fun i => pickB (bit f i) ([o0, o1, o2, o3].getD i .non) ([g0, g1, g2, g3].getD i .non)) (List.range 4) (by decide) fun i hi => by
    have hi := List.mem_range.mp hi
    have x1 := four_at (a := o0) (b := o1) (c := o2) (e := o3) hi
    have x2 := four_at (a := g0) (b := g1) (c := g2) (e := g3) hi
    rw [Int.zero_add]
    refine lcV (e1 := [.ow h, .sh q, .sh m, .sh n, .sh (.int f), s5, .ow (.lst [o0, o1, o2, o3]), .ow (.lst [g0, g1, g2, g3]), s8, s9, s10, s11, s12, s13, s14, s15, s16, .sh (.int (i : Int))]) (by simp! only [if_true]) (e3 := [.ow h, .sh q, .sh m, .sh n, .sh (.int f), s5, .ow (.lst [o0, o1, o2, o3]), .ow (.lst [g0, g1, g2, g3]), s8, s9, s10, s11, s12, s13, s14, s15, s16, .sh (.int (i : Int))]) ?_ (by simp! only [if_true])
    unfold pickB bit
    by_cases c : Builtin.bitAnd (f / 2 ^ i) 1 = 1
    · have d1 : decide (Builtin.bitAnd (f / 2 ^ i) 1 = 1) = true := decide_eq_true c
      rw [d1, if_pos rfl]
      simp! only [L__law_refusals_hold_1, e_shrN, x1, x2, d1]
    · have d1 : decide (Builtin.bitAnd (f / 2 ^ i) 1 = 1) = false := decide_eq_false c
      rw [d1, if_neg (by decide)]
      simp! only [L__law_refusals_hold_1, e_shrN, x1, x2, d1]
  exact this
def plc (b0 b1 b2 b3 : Bool) : List D := (if b0 = true then [.int 0] else []) ++ ((if b1 = true then [.int 1] else []) ++ ((if b2 = true then [.int 2] else []) ++ (if b3 = true then [.int 3] else [])))
theorem place_lc {h q m n : D} {f : Int} {s5 s6 s7 s8 s9 s10 s11 s12 s13 s14 s15 s16 : S} :
    mLcLoop (gN 17) [17] (mCmp cEq (mBin dAnd (mBin dShr (mVar 4) (mVar 17)) (mC (.int 1))) (mC (.int 1))) L__law_refusals_hold_2 (rngD 0 4) [] [.ow h, .sh q, .sh m, .sh n, .sh (.int f), s5, s6, s7, s8, s9, s10, s11, s12, s13, s14, s15, s16, .no] = .ok (plc (bit f 0) (bit f 1) (bit f 2) (bit f 3))
      [.ow h, .sh q, .sh m, .sh n, .sh (.int f), s5, s6, s7, s8, s9, s10, s11, s12, s13, s14, s15, s16, .no] := by
  have L := lc_filter (g := gN 17) (own := [17]) (test := mCmp cEq (mBin dAnd (mBin dShr (mVar 4) (mVar 17)) (mC (.int 1))) (mC (.int 1))) (elt := L__law_refusals_hold_2) (E := [.ow h, .sh q, .sh m, .sh n, .sh (.int f), s5, s6, s7, s8, s9, s10, s11, s12, s13, s14, s15, s16, .no]) (fun i : Nat => .int (0 + (i : Int))) (fun i : Nat => .int (i : Int)) (bit f) (List.range 4) [] (by decide) (fun i hi hb => by
      rw [Int.zero_add]
      have d1 : decide (Builtin.bitAnd (f / 2 ^ i) 1 = 1) = true := hb
      exact ⟨[.ow h, .sh q, .sh m, .sh n, .sh (.int f), s5, s6, s7, s8, s9, s10, s11, s12, s13, s14, s15, s16, .sh (.int (i : Int))], [.ow h, .sh q, .sh m, .sh n, .sh (.int f), s5, s6, s7, s8, s9, s10, s11, s12, s13, s14, s15, s16, .sh (.int (i : Int))], .slot 17, [.ow h, .sh q, .sh m, .sh n, .sh (.int f), s5, s6, s7, s8, s9, s10, s11, s12, s13, s14, s15, s16, .sh (.int (i : Int))], [.ow h, .sh q, .sh m, .sh n, .sh (.int f), s5, s6, s7, s8, s9, s10, s11, s12, s13, s14, s15, s16, .sh (.int (i : Int))], by simp! only [if_true], by simp! only [e_shrN, d1], by simp! only [L__law_refusals_hold_2], by simp! only [if_true], by simp! only [if_true]⟩)
    (fun i hi hb => by
      rw [Int.zero_add]
      have d1 : decide (Builtin.bitAnd (f / 2 ^ i) 1 = 1) = false := hb
      exact ⟨[.ow h, .sh q, .sh m, .sh n, .sh (.int f), s5, s6, s7, s8, s9, s10, s11, s12, s13, s14, s15, s16, .sh (.int (i : Int))], [.ow h, .sh q, .sh m, .sh n, .sh (.int f), s5, s6, s7, s8, s9, s10, s11, s12, s13, s14, s15, s16, .sh (.int (i : Int))], by simp! only [if_true], by simp! only [e_shrN, d1], by simp! only [if_true]⟩)
  rw [← rngD_map, List.nil_append] at L
  rw [L]
  congr 1
  rw [show List.range 4 = [0, 1, 2, 3] from rfl]
  generalize bit f = p
  cases h0 : p 0 <;> cases h1 : p 1 <;> cases h2 : p 2 <;> cases h3 : p 3 <;> simp [List.filter, plc, h0, h1, h2, h3]
theorem plc_cases (b0 b1 b2 b3 : Bool) : (plc b0 b1 b2 b3 = [] ∧ b0 = false ∧ b1 = false ∧ b2 = false ∧ b3 = false) ∨ (∃ r, plc b0 b1 b2 b3 = .int 0 :: r ∧ b0 = true) ∨ (∃ r, plc b0 b1 b2 b3 = .int 1 :: r ∧ b0 = false ∧ b1 = true) ∨
    (∃ r, plc b0 b1 b2 b3 = .int 2 :: r ∧ b0 = false ∧ b1 = false ∧ b2 = true) ∨ (∃ r, plc b0 b1 b2 b3 = .int 3 :: r ∧ b0 = false ∧ b1 = false ∧ b2 = false ∧ b3 = true) := by
  cases b0
  · cases b1
    · cases b2
      · cases b3
        · exact .inl ⟨rfl, rfl, rfl, rfl, rfl⟩
        · exact .inr (.inr (.inr (.inr ⟨[], rfl, rfl, rfl, rfl, rfl⟩)))
      · exact .inr (.inr (.inr (.inl ⟨_, rfl, rfl, rfl, rfl⟩)))
    · exact .inr (.inr (.inl ⟨_, rfl, rfl, rfl⟩))
  · exact .inr (.inl ⟨_, rfl, rfl⟩)
theorem due_pl {a b : Str} (h : PyData.strOk a = true) (h2 : PyData.strOk b = true) : D.pl 64 (.tup [.str a, .str b]) = true := by
  rw [pl_tup, List.all_cons, List.all_cons, List.all_nil, pl_str, pl_str, h, h2]; rfl
section
variable {q : Int} (h : q = 2 ∨ q = 3) {m n : Nat} (m0 : 1 ≤ m) (hm : m ≤ 12) (n0 : 1 ≤ n) (hn : n ≤ 12)
include h m0 hm n0 hn
/-- what is told of spoiled arguments: due, by the first spoiled place -/
theorem told_due {b0 b1 b2 b3 : Bool} {o0 o1 o2 o3 d : D} {z : Int} (w0 : Odd o0 2 3) (w1 : Odd o1 1 12) (w2 : Odd o2 1 12) (w3 : Odd o3 1 (q ^ (m * n))) {w : Str} (ok : PyData.strOk w = true)
    (good : F_completed_counts [.int q, .int (m : Int), .int (n : Int), .int z, d] = .ex cl_BadCounts ["what"] [.str w] .non) :
    ∃ t : D, F__law_completed_told [pickB b0 o0 (.int q), pickB b1 o1 (.int (m : Int)), pickB b2 o2 (.int (n : Int)), pickB b3 o3 (.int z), d] = .ok false t .non ∧ cNe t t = some false ∧
      ((plc b0 b1 b2 b3 = [] ∧ t = .tup [.str "counts", .str w]) ∨ ∃ k r nm, plc b0 b1 b2 b3 = .int k :: r ∧ atI [D.str "prime", .str "degree", .str "columns", .str "size"] k = some (.str nm) ∧ t = .tup [.str "sizes", .str nm]) := by
  have gq : W (.int q) 2 3 true := W_good (by omega) (by omega)
  have gm : W (.int (m : Int)) 1 12 true := W_good (by omega) (by omega)
  have gn : W (.int (n : Int)) 1 12 true := W_good (by omega) (by omega)
  have wt : ∀ {b : Bool} {o g : D} {lo hi : Int}, Odd o lo hi → W g lo hi true → W (pickB b o g) lo hi (!b) := fun {b o g lo hi} ho hg => by
    cases b
    · exact hg
    · exact ho.w
  rcases plc_cases b0 b1 b2 b3 with ⟨p, rfl, rfl, rfl, rfl⟩ | ⟨r, p, rfl⟩ | ⟨r, p, rfl, rfl⟩ | ⟨r, p, rfl, rfl, rfl⟩ | ⟨r, p, rfl, rfl, rfl, rfl⟩
  · exact ⟨_, ctold_counts good, cNe_self (due_pl (by decide +kernel) ok), .inl ⟨p, rfl⟩⟩
  · exact ⟨_, ctold_sizes (cc_ex (check_eq (wt w0 gq) (wt w1 gm) (wt w2 gn))), cNe_self (due_pl (by decide +kernel) (by decide +kernel)), .inr ⟨0, r, _, p, rfl, rfl⟩⟩
  · exact ⟨_, ctold_sizes (cc_ex (check_eq (wt w0 gq) (wt w1 gm) (wt w2 gn))), cNe_self (due_pl (by decide +kernel) (by decide +kernel)), .inr ⟨1, r, _, p, rfl, rfl⟩⟩
  · exact ⟨_, ctold_sizes (cc_ex (check_eq (wt w0 gq) (wt w1 gm) (wt w2 gn))), cNe_self (due_pl (by decide +kernel) (by decide +kernel)), .inr ⟨2, r, _, p, rfl, rfl⟩⟩
  · exact ⟨_, ctold_sizes (cc_size h m0 hm n0 hn w3), cNe_self (due_pl (by decide +kernel) (by decide +kernel)), .inr ⟨3, r, _, p, rfl, rfl⟩⟩
theorem ttold_due {b0 b1 b2 b3 : Bool} {o0 o1 o2 d : D} (w0 : Odd o0 2 3) (w1 : Odd o1 1 12) (w2 : Odd o2 1 12) {w : Str} (ok : PyData.strOk w = true)
    (good : F_turned_counts [.int q, .int (m : Int), .int (n : Int), d] = .ex cl_BadCounts ["what"] [.str w] .non) :
    ∃ t : D, F__law_turned_told [pickB b0 o0 (.int q), pickB b1 o1 (.int (m : Int)), pickB b2 o2 (.int (n : Int)), d] = .ok false t .non ∧ cEq t t = some true ∧
      (((plc b0 b1 b2 b3 = [] ∨ ∃ r, plc b0 b1 b2 b3 = .int 3 :: r) ∧ t = .tup [.str "counts", .str w]) ∨ ∃ (k : Int) (r : List D) (nm : Str), k < 3 ∧ plc b0 b1 b2 b3 = .int k :: r ∧ atI [D.str "prime", .str "degree", .str "columns", .str "size"] k = some (.str nm) ∧ t = .tup [.str "sizes", .str nm]) := by
  have gq : W (.int q) 2 3 true := W_good (by omega) (by omega)
  have gm : W (.int (m : Int)) 1 12 true := W_good (by omega) (by omega)
  have gn : W (.int (n : Int)) 1 12 true := W_good (by omega) (by omega)
  have wt : ∀ {b : Bool} {o g : D} {lo hi : Int}, Odd o lo hi → W g lo hi true → W (pickB b o g) lo hi (!b) := fun {b o g lo hi} ho hg => by
    cases b
    · exact hg
    · exact ho.w
  rcases plc_cases b0 b1 b2 b3 with ⟨p, rfl, rfl, rfl, rfl⟩ | ⟨r, p, rfl⟩ | ⟨r, p, rfl, rfl⟩ | ⟨r, p, rfl, rfl, rfl⟩ | ⟨r, p, rfl, rfl, rfl, rfl⟩
  · exact ⟨_, ttold_counts good, cEq_self (due_pl (by decide +kernel) ok), .inl ⟨.inl p, rfl⟩⟩
  · exact ⟨_, ttold_sizes (tc_ex (check_eq (wt w0 gq) (wt w1 gm) (wt w2 gn))), cEq_self (due_pl (by decide +kernel) (by decide +kernel)), .inr ⟨0, r, _, by decide, p, rfl, rfl⟩⟩
  · exact ⟨_, ttold_sizes (tc_ex (check_eq (wt w0 gq) (wt w1 gm) (wt w2 gn))), cEq_self (due_pl (by decide +kernel) (by decide +kernel)), .inr ⟨1, r, _, by decide, p, rfl, rfl⟩⟩
  · exact ⟨_, ttold_sizes (tc_ex (check_eq (wt w0 gq) (wt w1 gm) (wt w2 gn))), cEq_self (due_pl (by decide +kernel) (by decide +kernel)), .inr ⟨2, r, _, by decide, p, rfl, rfl⟩⟩
  · exact ⟨_, ttold_counts good, cEq_self (due_pl (by decide +kernel) ok), .inl ⟨.inr ⟨r, p⟩, rfl⟩⟩
end
/-! ### refusals hold; the law -/
theorem two_of {x : D} {a b : Int} (h : x ∈ ([.int a, .int b] : List D)) : ∃ i, x = .int i ∧ (i = a ∨ i = b) := by
  simp only [List.mem_cons, List.not_mem_nil, or_false] at h
  rcases h with rfl | rfl
  · exact ⟨_, rfl, .inl rfl⟩
  · exact ⟨_, rfl, .inr rfl⟩
theorem first_eq {a : Int} {k : Nat} (hk : k ≤ 100) : dAdd (.lst [.int a]) (.lst (List.replicate k (.int 0))) = some (.new (.lst (izs (a :: List.replicate k 0)))) := by
  rw [e_addL (by rw [List.length_replicate, sizeLine_eq]; show 1 + k ≤ _; omega), izs_rep]; rfl
theorem two_eq {a b : Int} {k : Nat} (hk : k ≤ 100) : dAdd (.lst [.int a, .int b]) (.lst (List.replicate k (.int 0))) = some (.new (.lst (izs (a :: b :: List.replicate k 0)))) := by
  rw [e_addL (by rw [List.length_replicate, sizeLine_eq]; show 2 + k ≤ _; omega), izs_rep]; rfl
theorem refuse_good {q : Int} (h : q = 2 ∨ q = 3) {m n : Nat} (m0 : 1 ≤ m) (hm : m ≤ 12) (n0 : 1 ≤ n) (hn : n ≤ 12) {d : D} (g : GoodHand d) : ∃ d', F__law_refusals_hold [d, .int q, .int (m : Int), .int (n : Int)] = .ok false (.bl true) d' := by
  have m1 : m * n ≤ 144 := Nat.mul_le_mul hm hn
  have e1 := lpow_n h (e := m * n) (by omega)
  rw [Int.natCast_mul] at e1
  have o1 : mulOk (m : Int) (n : Int) = true := mulOk_le (a := 10) (b := 10) (by omega) (by omega) (by omega)
  have p := pow_pos1 (q_two h) (m * n)
  obtain ⟨f, d1, t1, g1, f0, f1⟩ := take_good (many := 64) g (by decide) (by decide)
  obtain ⟨w0, x0, d2, t2, g2, O0⟩ := odd_good (lo := 2) (hi := 3) g1 (by decide) (by decide) (by decide)
  obtain ⟨w1, x1, d3, t3, g3, O1⟩ := odd_good (lo := 1) (hi := 12) g2 (by decide) (by decide) (by decide)
  obtain ⟨w2, x2, d4, t4, g4, O2⟩ := odd_good (lo := 1) (hi := 12) g3 (by decide) (by decide) (by decide)
  obtain ⟨w3, x3, d5, t5, g5, O3⟩ := odd_good (lo := 1) (hi := q ^ (m * n)) g4 (by decide) (by decide) p
  obtain ⟨zd, d6, t6, g6, hz⟩ := pick_good (xs := [.int 1, .int (q ^ (m * n))]) g5 (by simp) (by simp)
  obtain ⟨z, rfl, hz'⟩ := two_of hz
  have z1 : 1 ≤ z := by rcases hz' with rfl | rfl <;> omega
  have z2 : z ≤ q ^ (m * n) := by rcases hz' with rfl | rfl <;> omega
  have LC := ask_lc (h := d6) (q := .int q) (m := .int (m : Int)) (n := .int (n : Int)) (o0 := x0) (o1 := x1) (o2 := x2) (o3 := x3) (g0 := .int q) (g1 := .int (m : Int)) (g2 := .int (n : Int)) (g3 := .int z) (f := f) (s5 := .sh (.int (q ^ (m * n)))) (s8 := .no) (s9 := .no) (s10 := .no) (s11 := .no) (s12 := .no) (s13 := .no) (s14 := .no) (s15 := .no) (s16 := .no)
  have o4 : okR 4 = true := by decide
  have n4 : (4 : Int).toNat = 4 := rfl
  obtain ⟨y, d7, t7, g7, y0, y1⟩ := take_good (many := 9) g6 (by decide) (by decide)
  obtain ⟨ud, d8, t8, g8, hu⟩ := pick_good (xs := [.int 0, .int (2 + y)]) g7 (by simp) (by simp)
  obtain ⟨u, rfl, hu'⟩ := two_of hu
  have dn := div_n (n := n + 1) (by omega) (by omega)
  rw [Int.natCast_succ] at dn
  obtain ⟨k', d9, t9, g9, k0, k1⟩ := take_good (many := (n : Int) + 1) g8 (by omega) dn
  obtain ⟨k, rfl⟩ : ∃ a : Nat, k' = a := ⟨k'.toNat, by omega⟩
  have rp := dmul_rep (k := k) (by omega)
  have ad := first_eq (a := u) (k := k) (by omega)
  have lA : (u :: List.replicate k 0).length = k + 1 := by simp
  have nA : NN (u :: List.replicate k (0 : Int)) := cons_nn (by rcases hu' with rfl | rfl <;> omega) (rep_nn k)
  have uA : ¬ (u :: List.replicate k (0 : Int)).getD 0 0 = 1 := by
    show ¬ u = 1
    rcases hu' with rfl | rfl <;> omega
  have sh4 : dShr (.int f) (.int 4) = some (.val (.int (f / 2 ^ 4))) := e_shrN (i := 4)
  -- the first counts, spoiled or not
  obtain ⟨s9, F, w, d10, hs9, stF, g10, okw, goodF⟩ : ∃ (s9 : S) (F : D) (w : Str) (d10 : D), (s9 = .ow F ∨ s9 = .sh F) ∧
      (∀ (a8 : D) , mIfS (mCmp cEq (mBin dAnd (mBin dShr (mVar 4) (mC (.int 4))) (mC (.int 1))) (mC (.int 1))) (mSeq (mAsg 9 (mCallIO F__law_odd_row 0 (mCons (mVar 3) (mCons (mVar 9) mNil))))
        (mAsg 10 (mC (.str "row")))) mNext [.ow d9, .sh (.int q), .sh (.int (m : Int)), .sh (.int (n : Int)), .sh (.int f), .sh (.int (q ^ (m * n))), .ow (.lst [x0, x1, x2, x3]), .ow (.lst [.int q, .int (m : Int), .int (n : Int), .int z]), .ow a8, .ow (.lst (izs (u :: List.replicate k 0))), .sh (.str "first"), .no, .no, .no, .no, .no, .no, .no]
        = .ok .nx [.ow d10, .sh (.int q), .sh (.int (m : Int)), .sh (.int (n : Int)), .sh (.int f), .sh (.int (q ^ (m * n))), .ow (.lst [x0, x1, x2, x3]), .ow (.lst [.int q, .int (m : Int), .int (n : Int), .int z]), .ow a8, s9, .sh (.str w), .no, .no, .no, .no, .no, .no, .no]) ∧ GoodHand d10 ∧ PyData.strOk w = true ∧
      F_completed_counts [.int q, .int (m : Int), .int (n : Int), .int z, F] = .ex cl_BadCounts ["what"] [.str w] .non := by
    by_cases c : Builtin.bitAnd (f / 2 ^ 4) 1 = 1
    · have dc : decide (Builtin.bitAnd (f / 2 ^ 4) 1 = 1) = true := decide_eq_true c
      obtain ⟨nw, F, d10, t10, g10, rb⟩ := odd_row_good g9 hn (A := u :: List.replicate k 0) (by omega) (by omega)
      have G := cc_row h m0 hm n0 hn z1 z2 rb
      cases nw
      · exact ⟨.sh F, F, "row", d10, .inr rfl, fun a8 => by simp! only [sh4, dc, t10], g10, by decide +kernel, G⟩
      · exact ⟨.ow F, F, "row", d10, .inl rfl, fun a8 => by simp! only [sh4, dc, t10], g10, by decide +kernel, G⟩
    · have dc : decide (Builtin.bitAnd (f / 2 ^ 4) 1 = 1) = false := decide_eq_false c
      exact ⟨.ow (.lst (izs (u :: List.replicate k 0))), _, "first", d9, .inl rfl, fun a8 => by simp! only [sh4, dc], g9, by decide +kernel, cc_first h m0 hm n0 hn z1 z2 (by omega) (by omega) nA uA⟩
  have PL := fun s8 s9 s10 => place_lc (h := d10) (q := .int q) (m := .int (m : Int)) (n := .int (n : Int)) (f := f) (s5 := .sh (.int (q ^ (m * n)))) (s6 := .ow (.lst [x0, x1, x2, x3])) (s7 := .ow (.lst [.int q, .int (m : Int), .int (n : Int), .int z])) (s8 := s8) (s9 := s9) (s10 := s10) (s11 := .no) (s12 := .no) (s13 := .no) (s14 := .no) (s15 := .no) (s16 := .no)
  obtain ⟨T1, tc1, ce1, due1⟩ := told_due h m0 hm n0 hn (b0 := bit f 0) (b1 := bit f 1) (b2 := bit f 2) (b3 := bit f 3) O0 O1 O2 O3 okw goodF
  -- couples
  obtain ⟨v', d11, t11, g11, v0, v1⟩ := take_good (many := 99) g10 (by decide) (by decide)
  obtain ⟨v, rfl⟩ : ∃ v, v' = v - 1 := ⟨v' + 1, by omega⟩
  have ev : 1 + (v - 1) = v := by omega
  have om : mulOk v v = true := mulOk_le (a := 10) (b := 10) (by omega) (by omega) (by omega)
  have vv : v * 1 ≤ v * v := Int.mul_le_mul_of_nonneg_left (by omega) (by omega)
  have vv2 : v * v ≤ 100 * 100 := Int.mul_le_mul (by omega) (by omega) (by omega) (by omega)
  have rp1 := dmul_rep (k := n - 1) (by omega)
  rw [show ((n - 1 : Nat) : Int) = (n : Int) - 1 by omega] at rp1
  have rpn := dmul_rep (k := n) (by omega)
  have ad2 := two_eq (a := v) (b := v * v - v) (k := n - 1) (by omega)
  have ad3 := two_eq (a := v) (b := v * v - v + 1) (k := n - 1) (by omega)
  obtain ⟨j, d12, t12, g12, j0, j1⟩ := take_good (many := 3) g11 (by decide) (by decide)
  obtain ⟨s15, Cc, w', d13, hs15, stC, okw', goodC⟩ : ∃ (s15 : S) (Cc : D) (w' : Str) (d13 : D), (s15 = .ow Cc ∨ s15 = .sh Cc) ∧
      (∀ (a8 pl nm du : D) (s9 : S), mIfS (mCmp cEq (mVar 16) (mC (.int 0))) (mPar 15 10 (mCons (mBin dAdd (mBin dMul (mLst (mCons (mC (.int 0)) mNil)) (mVar 3)) (mLst (mCons (mCallIO F__law_draw 0 (mCons (mC (.int 3)) mNil)) mNil))) (mCons (mC (.str "first")) mNil))) (mIfS (mCmp cEq (mVar 16) (mC (.int 1))) (mPar 15 10 (mCons (mBin dAdd (mLst (mCons (mVar 14) (mCons (mBin dAdd (mBin dSub (mBin dMul (mVar 14) (mVar 14)) (mVar 14)) (mC (.int 1))) mNil))) (mBin dMul (mLst (mCons (mC (.int 0)) mNil)) (mBin dSub (mVar 3) (mC (.int 1))))) (mCons (mC (.str "sum")) mNil))) (mPar 15 10 (mCons (mCallIO F__law_odd_row 0 (mCons (mVar 3) (mCons (mVar 15) mNil))) (mCons (mC (.str "row")) mNil))))
        [.ow d12, .sh (.int q), .sh (.int (m : Int)), .sh (.int (n : Int)), .sh (.int f), .sh (.int (q ^ (m * n))), .ow (.lst [x0, x1, x2, x3]), .ow (.lst [.int q, .int (m : Int), .int (n : Int), .int z]), .ow a8, s9, .sh (.str w), .ow pl, .ow nm, .sh du, .sh (.int v), .ow (.lst (izs (v :: (v * v - v) :: List.replicate (n - 1) 0))), .sh (.int j), .no]
        = .ok .nx [.ow d13, .sh (.int q), .sh (.int (m : Int)), .sh (.int (n : Int)), .sh (.int f), .sh (.int (q ^ (m * n))), .ow (.lst [x0, x1, x2, x3]), .ow (.lst [.int q, .int (m : Int), .int (n : Int), .int z]), .ow a8, s9, .sh (.str w'), .ow pl, .ow nm, .sh du, .sh (.int v), s15, .sh (.int j), .no]) ∧ PyData.strOk w' = true ∧
      F_turned_counts [.int q, .int (m : Int), .int (n : Int), Cc] = .ex cl_BadCounts ["what"] [.str w'] .non := by
    rcases (show j = 0 ∨ j = 1 ∨ j = 2 by omega) with rfl | rfl | rfl
    · obtain ⟨r, d13, t13, g13, r0, r1⟩ := take_good (many := 3) g12 (by decide) (by decide)
      have ad4 : dAdd (.lst (List.replicate n (.int 0))) (.lst [.int r]) = some (.new (.lst (izs (List.replicate n 0 ++ [r])))) := by
        rw [e_addL (by rw [List.length_replicate, sizeLine_eq]; show n + 1 ≤ _; omega), izs_rep, izs_app]; rfl
      have d0 : decide ((0 : Int) = 0) = true := rfl
      refine ⟨.sh (.lst (izs (List.replicate n 0 ++ [r]))), _, "first", d13, .inr rfl, fun a8 pl nm du s9 => by simp! only [d0, rpn, t13, ad4], by decide +kernel, tc_first h m0 hm n0 hn (by simp) ((rep_nn n).app r0) ?_⟩
      rw [getD_app, List.length_replicate, if_pos (by omega)]
      have := rep_nn n 0
      rw [List.getD_eq_getElem?_getD, List.getElem?_replicate, if_pos (by omega)]; rfl
    · have d0 : decide ((1 : Int) = 0) = false := rfl
      have d1 : decide ((1 : Int) = 1) = true := rfl
      refine ⟨.sh (.lst (izs (v :: (v * v - v + 1) :: List.replicate (n - 1) 0))), _, "sum", d12, .inr rfl, fun a8 pl nm du s9 => by simp! only [d0, d1, e_mulI om, rp1, ad3], by decide +kernel, tc_sum h m0 hm n0 hn (by simp; omega) (cons_nn (by omega) (cons_nn (by omega) (rep_nn _))) (show ¬ v = 0 by omega) (show v.natAbs ≤ _ by omega) ?_⟩
      rw [List.sum_cons, List.sum_cons, sum_rep]
      show ¬ _ = v * v
      omega
    · have d0 : decide ((2 : Int) = 0) = false := rfl
      have d1 : decide ((2 : Int) = 1) = false := rfl
      obtain ⟨nw, R, d13, t13, g13, rb⟩ := odd_row_good g12 hn (A := v :: (v * v - v) :: List.replicate (n - 1) 0) (by simp) (by simp; omega)
      exact ⟨.sh R, R, "row", d13, .inr rfl, fun a8 pl nm du s9 => by simp! only [d0, d1, t13, tk_set], by decide +kernel, tc_row h m0 hm n0 hn rb⟩
  obtain ⟨T2, tc2, ce2, due2⟩ := ttold_due h m0 hm n0 hn (b0 := bit f 0) (b1 := bit f 1) (b2 := bit f 2) (b3 := bit f 3) O0 O1 O2 okw' goodC
  generalize hP : plc (bit f 0) (bit f 1) (bit f 2) (bit f 3) = P at PL due1 due2
  generalize pickB (bit f 0) x0 (.int q) = a0 at LC tc1 tc2
  generalize pickB (bit f 1) x1 (.int (m : Int)) = a1 at LC tc1 tc2
  generalize pickB (bit f 2) x2 (.int (n : Int)) = a2 at LC tc1 tc2
  generalize pickB (bit f 3) x3 (.int z) = a3 at LC tc1
  have y0' : atI [a0, a1, a2, a3] 0 = some a0 := rfl
  have y1' : atI [a0, a1, a2, a3] 1 = some a1 := rfl
  have y2' : atI [a0, a1, a2, a3] 2 = some a2 := rfl
  have y3' : atI [a0, a1, a2, a3] 3 = some a3 := rfl
  have key : ∃ e, B__law_refusals_hold [.ow d, .sh (.int q), .sh (.int (m : Int)), .sh (.int (n : Int)), .no, .no, .no, .no, .no, .no, .no, .no, .no, .no, .no, .no, .no, .no] = .ok (.rt (.val (.bl true))) (.ow d13 :: e) := by
    unfold B__law_refusals_hold
    have go : ∀ {m k : M Fl} {env e : VM.Env}, m env = .ok .nx e → (∃ e', k e = .ok (.rt (.val (.bl true))) (.ow d13 :: e')) → ∃ e', mSeq m k env = .ok (.rt (.val (.bl true))) (.ow d13 :: e') := fun h ⟨e', r⟩ => ⟨e', seq_go h r⟩
    refine go (e := [.ow d1, .sh (.int q), .sh (.int (m : Int)), .sh (.int (n : Int)), .sh (.int f), .no, .no, .no, .no, .no, .no, .no, .no, .no, .no, .no, .no, .no]) (by simp! only [t1]) ?_
    refine go (e := [.ow d1, .sh (.int q), .sh (.int (m : Int)), .sh (.int (n : Int)), .sh (.int f), .sh (.int (q ^ (m * n))), .no, .no, .no, .no, .no, .no, .no, .no, .no, .no, .no, .no]) (by simp! only [e_mulI o1, e1]) ?_
    refine go (e := [.ow d5, .sh (.int q), .sh (.int (m : Int)), .sh (.int (n : Int)), .sh (.int f), .sh (.int (q ^ (m * n))), .ow (.lst [x0, x1, x2, x3]), .no, .no, .no, .no, .no, .no, .no, .no, .no, .no, .no]) (by simp! only [t2, t3, t4, t5, tk_set]) ?_
    refine go (e := [.ow d6, .sh (.int q), .sh (.int (m : Int)), .sh (.int (n : Int)), .sh (.int f), .sh (.int (q ^ (m * n))), .ow (.lst [x0, x1, x2, x3]), .ow (.lst [.int q, .int (m : Int), .int (n : Int), .int z]), .no, .no, .no, .no, .no, .no, .no, .no, .no, .no]) (by simp! only [t6]) ?_
    refine go (e := [.ow d6, .sh (.int q), .sh (.int (m : Int)), .sh (.int (n : Int)), .sh (.int f), .sh (.int (q ^ (m * n))), .ow (.lst [x0, x1, x2, x3]), .ow (.lst [.int q, .int (m : Int), .int (n : Int), .int z]), .ow (.lst [a0, a1, a2, a3]), .no, .no, .no, .no, .no, .no, .no, .no, .no]) (by simp! only [o4, n4, LC]) ?_
    refine go (e := [.ow d9, .sh (.int q), .sh (.int (m : Int)), .sh (.int (n : Int)), .sh (.int f), .sh (.int (q ^ (m * n))), .ow (.lst [x0, x1, x2, x3]), .ow (.lst [.int q, .int (m : Int), .int (n : Int), .int z]), .ow (.lst [a0, a1, a2, a3]), .ow (.lst (izs (u :: List.replicate k 0))), .no, .no, .no, .no, .no, .no, .no, .no]) (by simp! only [t7, t8, t9, rp, ad]) ?_
    refine go (e := [.ow d9, .sh (.int q), .sh (.int (m : Int)), .sh (.int (n : Int)), .sh (.int f), .sh (.int (q ^ (m * n))), .ow (.lst [x0, x1, x2, x3]), .ow (.lst [.int q, .int (m : Int), .int (n : Int), .int z]), .ow (.lst [a0, a1, a2, a3]), .ow (.lst (izs (u :: List.replicate k 0))), .sh (.str "first"), .no, .no, .no, .no, .no, .no, .no]) (by simp! only [if_true]) ?_
    refine go (stF _) ?_
    refine go (e := [.ow d10, .sh (.int q), .sh (.int (m : Int)), .sh (.int (n : Int)), .sh (.int f), .sh (.int (q ^ (m * n))), .ow (.lst [x0, x1, x2, x3]), .ow (.lst [.int q, .int (m : Int), .int (n : Int), .int z]), .ow (.lst [a0, a1, a2, a3]), s9, .sh (.str w), .ow (.lst P), .no, .no, .no, .no, .no, .no]) (by
      have PL := PL (.ow (.lst [a0, a1, a2, a3])) s9 (.sh (.str w))
      simp! only [o4, n4, PL]) ?_
    refine go (e := [.ow d10, .sh (.int q), .sh (.int (m : Int)), .sh (.int (n : Int)), .sh (.int f), .sh (.int (q ^ (m * n))), .ow (.lst [x0, x1, x2, x3]), .ow (.lst [.int q, .int (m : Int), .int (n : Int), .int z]), .ow (.lst [a0, a1, a2, a3]), s9, .sh (.str w), .ow (.lst P), .ow (.lst [.str "prime", .str "degree", .str "columns", .str "size"]), .no, .no, .no, .no, .no]) (by simp! only [if_true]) ?_
    refine go (e := [.ow d10, .sh (.int q), .sh (.int (m : Int)), .sh (.int (n : Int)), .sh (.int f), .sh (.int (q ^ (m * n))), .ow (.lst [x0, x1, x2, x3]), .ow (.lst [.int q, .int (m : Int), .int (n : Int), .int z]), .ow (.lst [a0, a1, a2, a3]), s9, .sh (.str w), .ow (.lst P), .ow (.lst [.str "prime", .str "degree", .str "columns", .str "size"]), .sh T1, .no, .no, .no, .no]) (by
      rcases due1 with ⟨p, rfl⟩ | ⟨k1, r1, nm, p, at1, rfl⟩
      · simp! only [p, List.isEmpty_nil]
      · simp! only [p, List.isEmpty_cons, at1]) ?_
    refine go (e := [.ow d10, .sh (.int q), .sh (.int (m : Int)), .sh (.int (n : Int)), .sh (.int f), .sh (.int (q ^ (m * n))), .ow (.lst [x0, x1, x2, x3]), .ow (.lst [.int q, .int (m : Int), .int (n : Int), .int z]), .ow (.lst [a0, a1, a2, a3]), .sh F, .sh (.str w), .ow (.lst P), .ow (.lst [.str "prime", .str "degree", .str "columns", .str "size"]), .sh T1, .no, .no, .no, .no]) (by
      have aT : apart false T1 = false := by rcases due1 with ⟨p, rfl⟩ | ⟨k1, r1, nm, p, at1, rfl⟩ <;> rfl
      rcases hs9 with rfl | rfl <;> simp! only [y0', y1', y2', y3', tc1, aT, ce1]) ?_
    refine go (e := [.ow d11, .sh (.int q), .sh (.int (m : Int)), .sh (.int (n : Int)), .sh (.int f), .sh (.int (q ^ (m * n))), .ow (.lst [x0, x1, x2, x3]), .ow (.lst [.int q, .int (m : Int), .int (n : Int), .int z]), .ow (.lst [a0, a1, a2, a3]), .sh F, .sh (.str w), .ow (.lst P), .ow (.lst [.str "prime", .str "degree", .str "columns", .str "size"]), .sh T1, .sh (.int v), .no, .no, .no]) (by simp! only [t11, ev]) ?_
    refine go (e := [.ow d11, .sh (.int q), .sh (.int (m : Int)), .sh (.int (n : Int)), .sh (.int f), .sh (.int (q ^ (m * n))), .ow (.lst [x0, x1, x2, x3]), .ow (.lst [.int q, .int (m : Int), .int (n : Int), .int z]), .ow (.lst [a0, a1, a2, a3]), .sh F, .sh (.str w), .ow (.lst P), .ow (.lst [.str "prime", .str "degree", .str "columns", .str "size"]), .sh T1, .sh (.int v), .ow (.lst (izs (v :: (v * v - v) :: List.replicate (n - 1) 0))), .no, .no]) (by simp! only [e_mulI om, rp1, ad2]) ?_
    refine go (e := [.ow d12, .sh (.int q), .sh (.int (m : Int)), .sh (.int (n : Int)), .sh (.int f), .sh (.int (q ^ (m * n))), .ow (.lst [x0, x1, x2, x3]), .ow (.lst [.int q, .int (m : Int), .int (n : Int), .int z]), .ow (.lst [a0, a1, a2, a3]), .sh F, .sh (.str w), .ow (.lst P), .ow (.lst [.str "prime", .str "degree", .str "columns", .str "size"]), .sh T1, .sh (.int v), .ow (.lst (izs (v :: (v * v - v) :: List.replicate (n - 1) 0))), .sh (.int j), .no]) (by simp! only [t12]) ?_
    refine go (stC _ _ _ _ _) ?_
    refine go (e := [.ow d13, .sh (.int q), .sh (.int (m : Int)), .sh (.int (n : Int)), .sh (.int f), .sh (.int (q ^ (m * n))), .ow (.lst [x0, x1, x2, x3]), .ow (.lst [.int q, .int (m : Int), .int (n : Int), .int z]), .ow (.lst [a0, a1, a2, a3]), .sh F, .sh (.str w'), .ow (.lst P), .ow (.lst [.str "prime", .str "degree", .str "columns", .str "size"]), .sh T2, .sh (.int v), s15, .sh (.int j), .no]) (by
      rcases due2 with ⟨p | ⟨r1, p⟩, rfl⟩ | ⟨k1, r1, nm, lt1, p, at1, rfl⟩
      · simp! only [p, List.isEmpty_nil]
      · have l3 : ¬ (3 : Int) < 3 := by decide
        simp! only [p, List.isEmpty_cons, l3]
      · simp! only [p, List.isEmpty_cons, lt1, at1]) ?_
    have aT : apart false T2 = false := by rcases due2 with ⟨p, rfl⟩ | ⟨k1, r1, nm, lt1, p, at1, rfl⟩ <;> rfl
    rcases hs15 with rfl | rfl
    · exact ⟨_, by simp! only [y0', y1', y2', tc2, aT, ce2]; rfl⟩
    · exact ⟨_, by simp! only [y0', y1', y2', tc2, aT, ce2]; rfl⟩
  obtain ⟨e, key⟩ := key
  refine ⟨d13, ?_⟩
  rw [F__law_refusals_hold_eq]
  show finIO (B__law_refusals_hold _) = _
  rw [show entryIO 18 d [.int q, .int (m : Int), .int (n : Int)] = [.ow d, .sh (.int q), .sh (.int (m : Int)), .sh (.int (n : Int)), .no, .no, .no, .no, .no, .no, .no, .no, .no, .no, .no, .no, .no, .no] from rfl, key]
  rfl
theorem law_true (ns : List Int) (hns : ns.length ≤ 63) : ∃ p, F_law [.scr ns] = .ok false (.bl true) p := by
  obtain ⟨d0, hh, g0⟩ := hand_good ns hns
  obtain ⟨a, d1, t1, g1, a0, a1⟩ := take_good (many := 2) g0 (by decide) (by decide)
  obtain ⟨m', d2, t2, g2, b0, b1⟩ := take_good (many := 12) g1 (by decide) (by decide)
  obtain ⟨n', d3, t3, g3, c0, c1⟩ := take_good (many := 12) g2 (by decide) (by decide)
  obtain ⟨q, eq⟩ : ∃ q, 2 + a = q := ⟨_, rfl⟩
  have h : q = 2 ∨ q = 3 := by omega
  obtain ⟨m, em⟩ : ∃ m : Nat, 1 + m' = m := ⟨(1 + m').toNat, by omega⟩
  obtain ⟨n, en⟩ : ∃ n : Nat, 1 + n' = n := ⟨(1 + n').toNat, by omega⟩
  have m0 : 1 ≤ m := by omega
  have hm : m ≤ 12 := by omega
  have n0 : 1 ≤ n := by omega
  have hn : n ≤ 12 := by omega
  have GA := gauss_eq h
  obtain ⟨d4, R, g4⟩ := real_holds h m0 hm n0 hn g3
  obtain ⟨d5, Fr, g5⟩ := free_holds h m0 hm n0 hn g4
  have apG : apart true (.lst (rowsL q 13)) = false := rfl
  obtain ⟨out, E, lc, ⟨d6, g6, rfl⟩, hR, hl⟩ := lc_draw (g := gN 7) (own := [7]) (test := mYes) (elt := L_law_1) (fun E => ∃ d', GoodHand d' ∧ E = [.sh (.scr ns), .ow d', .sh (.int q), .sh (.int (m : Int)), .sh (.int (n : Int)), .sh (.lst (rowsL q 13)), .no, .no]) (fun x => ∃ k : Int, x = .int k ∧ (0 ≤ k ∧ k < 1000000000)) (rngD 0 n) [] (E := [.sh (.scr ns), .ow d5, .sh (.int q), .sh (.int (m : Int)), .sh (.int (n : Int)), .sh (.lst (rowsL q 13)), .no, .no]) (by rw [rng_len, List.length_nil]; unfold lim; omega) ⟨d5, g5, rfl⟩ (fun x E hx hE => by
    obtain ⟨d', g', rfl⟩ := hE
    obtain ⟨v, d2, t, g2, v0, v1⟩ := take_good (many := 1000000000) g' (by decide) (by decide)
    exact ⟨.int v, [.sh (.scr ns), .ow d2, .sh (.int q), .sh (.int (m : Int)), .sh (.int (n : Int)), .sh (.lst (rowsL q 13)), .no, .no], lcV (e1 := [.sh (.scr ns), .ow d', .sh (.int q), .sh (.int (m : Int)), .sh (.int (n : Int)), .sh (.lst (rowsL q 13)), .no, .sh x]) rfl (e3 := [.sh (.scr ns), .ow d2, .sh (.int q), .sh (.int (m : Int)), .sh (.int (n : Int)), .sh (.lst (rowsL q 13)), .no, .sh x]) (by simp! only [L_law_1, pow9, t]) rfl, ⟨v, rfl, v0, v1⟩, d2, g2, rfl⟩) (fun d hd => nomatch hd)
  obtain ⟨xs, rfl, hx⟩ := izsOf hR
  rw [rng_len, izs_len] at hl
  rw [List.nil_append] at lc
  have okn : okR (n : Int) = true := okR_of (by omega)
  have ad : dAdd (.lst [.int 1]) (.lst (izs xs)) = some (.new (.lst (izs (1 :: xs)))) := by
    rw [e_addL (by rw [izs_len, sizeLine_eq]; show 1 + xs.length ≤ _; omega)]; rfl
  obtain ⟨z, d7, t7, g7, z0, z1⟩ := take_good (many := 2) g6 (by decide) (by decide)
  have nn : NN (1 :: xs) := cons_nn (by decide) fun i => getD_all (P := fun x => 0 ≤ x) (by decide) (fun x hx' => (hx x hx').1) i
  have bl : Bl 11280 (1 :: xs) := fun i => by
    have : ((1 :: xs).getD i 0).natAbs ≤ 2 ^ 30 := by
      cases i with
      | zero => show (1 : Int).natAbs ≤ _; decide
      | succ i =>
        have := getD_all (P := fun x => 0 ≤ x ∧ x < 1000000000) (by decide) hx i
        show (xs.getD i 0).natAbs ≤ _
        omega
    exact abs_mono this (by omega)
  have zq : 1 + z ≤ q ^ (m * n) := by
    have p1 : q ^ 1 ≤ q ^ (m * n) := pow_le_pow h (Nat.mul_le_mul m0 n0)
    rw [Int.pow_one] at p1
    omega
  have CE := comp_eq h (m := m) (n := n) (s := 1 + z) (A := 1 :: xs) (d := .tup (izs (1 :: xs))) (by omega) (.inr rfl) (by simp) (by simp; omega) nn bl (show (1 + z).natAbs ≤ 2 ^ 8000 from abs_mono (m := 2) (show (1 + z).natAbs ≤ 2 ^ 2 by omega) (by omega)) hm hn (check_good h m0 hm n0 hn) (W_good (by omega) zq) (seq_t (.inr rfl)) (counts_good (.inr rfl) (by omega) (by simp; omega) nn) rfl
  have CC : compR q m n (1 + z) (1 :: xs) = .inr (1 :: xs) := by
    unfold compR
    rw [show n + 1 - (1 :: xs).length = 0 by simp; omega]
    rfl
  rw [CC] at CE
  have CE : F_completed_counts [.int q, .int (m : Int), .int (n : Int), .int (1 + z), .tup (izs (1 :: xs))] = .ok false (.tup (izs (1 :: xs))) .non := CE
  have S := same_ok (A := 1 :: xs) (by simp; omega)
  obtain ⟨d8, RF⟩ := refuse_good h m0 hm n0 hn g7
  have key : ∃ e, B_law [.sh (.scr ns), .no, .no, .no, .no, .no, .no, .no] = .ok (.rt (.val (.bl true))) e := by
    unfold B_law
    refine seq_end (e := [.sh (.scr ns), .ow d0, .no, .no, .no, .no, .no, .no]) (by simp! only [hh]) ?_
    refine seq_end (e := [.sh (.scr ns), .ow d1, .sh (.int q), .no, .no, .no, .no, .no]) (by simp! only [t1, eq]) ?_
    refine seq_end (e := [.sh (.scr ns), .ow d2, .sh (.int q), .sh (.int (m : Int)), .no, .no, .no, .no]) (by simp! only [t2, em]) ?_
    refine seq_end (e := [.sh (.scr ns), .ow d3, .sh (.int q), .sh (.int (m : Int)), .sh (.int (n : Int)), .no, .no, .no]) (by simp! only [t3, en]) ?_
    refine seq_end (e := [.sh (.scr ns), .ow d3, .sh (.int q), .sh (.int (m : Int)), .sh (.int (n : Int)), .ow (.lst (rowsL q 13)), .no, .no]) (by simp! only [GA, apG]) ?_
    refine seq_end (e := [.sh (.scr ns), .ow d5, .sh (.int q), .sh (.int (m : Int)), .sh (.int (n : Int)), .sh (.lst (rowsL q 13)), .no, .no]) (by simp! only [R, Fr]) ?_
    refine seq_end (e := [.sh (.scr ns), .ow d6, .sh (.int q), .sh (.int (m : Int)), .sh (.int (n : Int)), .sh (.lst (rowsL q 13)), .ow (.lst (izs (1 :: xs))), .no]) (by simp! only [okn, Int.toNat_natCast, lc, ad]) ?_
    refine seq_end (e := [.sh (.scr ns), .ow d7, .sh (.int q), .sh (.int (m : Int)), .sh (.int (n : Int)), .sh (.lst (rowsL q 13)), .ow (.lst (izs (1 :: xs))), .no]) (by simp! only [t7, CE, S]) ?_
    exact ⟨_, by simp! only [RF]; rfl⟩
  obtain ⟨e, key⟩ := key
  refine ⟨.non, ?_⟩
  rw [F_law_eq]
  show fin (B_law _) = _
  rw [show entry 8 [D.scr ns] = [.sh (.scr ns), .no, .no, .no, .no, .no, .no, .no] from rfl, key]
  rfl
end My
namespace My
open PySem PySem.Spec PyProof.Rows L2 VM
def theFns : Fns :=
  let F__law_hand : List D → Rf := mkF 4
    (mSeq (mAsg 1 (mBin dAdd (mC (.int 83)) (mCall (fn1 dLen) (mCons (mVar 0) mNil))))
  (mSeq (mAsg 2 (mLst mNil))
  (mSeq (mFor (mIter (mVar 0)) (gN 3) [3] (mSeq (mAsg 1 (mBin dMod (mCall (fn1 dInt) (mCons (mBin dAdd (mBin dMul (mVar 1) (mC (.int 2903))) (mCall (fn1 dInt) (mCons (mVar 3) mNil))) mNil)) (mC (.int 2147483587))))
  (mDrop (mApp 2 (mCall (fn1 dAbs) (mCons (mCall (fn1 dInt) (mCons (mVar 3) mNil)) mNil))))))
  (mRet (mLst (mCons (mVar 2) (mCons (mC (.int 0)) (mCons (mC (.int 0)) (mCons (mVar 1) mNil)))))))))
  let F__law_mixed : List D → Rf := mkF 4
    (mSeq (mAsg 2 (mBin dMod (mCall (fn1 dInt) (mCons (mBin dAdd (mBin dAdd (mBin dMul (mVar 0) (mC (.int 44497))) (mBin dMul (mVar 1) (mC (.int 9973)))) (mC (.int 30011))) mNil)) (mC (.int 2147483543))))
  (mSeq (mAsg 3 (mBin dMod (mCall (fn1 dInt) (mCons (mBin dAdd (mBin dAdd (mBin dMul (mVar 2) (mVar 2)) (mBin dMul (mVar 1) (mC (.int 60013)))) (mBin dDiv (mVar 2) (mC (.int 151)))) mNil)) (mC (.int 2147483497))))
  (mRet (mBin dDiv (mCall (fn1 dInt) (mCons (mBin dMod (mCall (fn1 dInt) (mCons (mBin dAdd (mBin dMul (mVar 3) (mC (.int 50021))) (mBin dDiv (mVar 2) (mC (.int 13)))) mNil)) (mC (.int 2147483489))) mNil)) (mC (.int 64))))))
  let F__law_draw : List D → Rf := mkIO 4
    (mSeq (mIfS (mAnd (mCmp cEq (mBin dIx (mVar 0) (mC (.int 2))) (mC (.int 0))) (mCmp cLt (mBin dIx (mVar 0) (mC (.int 1))) (mCall (fn1 dLen) (mCons (mBin dIx (mVar 0) (mC (.int 0))) mNil)))) (mSeq (mAsg 2 (mBin dIx (mBin dIx (mVar 0) (mC (.int 0))) (mBin dIx (mVar 0) (mC (.int 1)))))
  (mSeq (mSetI 0 (mC (.int 1)) (mBin dAdd (mBin dIx (mVar 0) (mC (.int 1))) (mC (.int 1))))
  (mSeq (mIfS (mCmp cLt (mVar 2) (mBin dPow (mC (.int 10)) (mC (.int 18)))) (mRet (mBin dMod (mCall (fn1 dInt) (mCons (mCallF F__law_mixed (mCons (mBin dMod (mCall (fn1 dInt) (mCons (mVar 2) mNil)) (mC (.int 2147483543))) (mCons (mBin dIx (mVar 0) (mC (.int 1))) mNil))) mNil)) (mVar 1))) mNext)
  (mSetI 0 (mC (.int 2)) (mVar 2))))) mNext)
  (mSeq (mIfS (mCmp cGt (mBin dIx (mVar 0) (mC (.int 2))) (mC (.int 0))) (mSeq (mAsg 3 (mBin dIx (mVar 0) (mC (.int 2))))
  (mSeq (mSetI 0 (mC (.int 2)) (mBin dDiv (mCall (fn1 dInt) (mCons (mVar 3) mNil)) (mVar 1)))
  (mRet (mBin dMod (mCall (fn1 dInt) (mCons (mVar 3) mNil)) (mVar 1))))) mNext)
  (mSeq (mSetI 0 (mC (.int 3)) (mBin dMod (mCall (fn1 dInt) (mCons (mBin dAdd (mBin dIx (mVar 0) (mC (.int 3))) (mC (.int 1))) mNil)) (mC (.int 2147483579))))
  (mRet (mBin dMod (mCall (fn1 dInt) (mCons (mCallF F__law_mixed (mCons (mBin dIx (mVar 0) (mC (.int 3))) (mCons (mBin dIx (mVar 0) (mC (.int 1))) mNil))) mNil)) (mVar 1))))))
  let F__law_power : List D → Rf := mkF 4
    (mSeq (mAsg 2 (mC (.int 1)))
  (mSeq (mFor (mRng (mCons (mVar 1) mNil)) (gN 3) [3] (mAsg 2 (mBin dMul (mVar 2) (mVar 0))))
  (mRet (mVar 2))))
  let F__law_gauss : List D → Rf := mkF 7
    (mSeq (mAsg 2 (mLst (mCons (mLst (mCons (mC (.int 1)) mNil)) mNil)))
  (mSeq (mFor (mRng (mCons (mC (.int 1)) (mCons (mBin dAdd (mVar 1) (mC (.int 1))) mNil))) (gN 3) [3, 4, 5, 6] (mSeq (mAsg 4 (mBin dIx (mVar 2) (mBin dSub (mVar 3) (mC (.int 1)))))
  (mSeq (mAsg 5 (mLst (mCons (mC (.int 1)) mNil)))
  (mSeq (mFor (mRng (mCons (mC (.int 1)) (mCons (mVar 3) mNil))) (gN 6) [6] (mDrop (mApp 5 (mBin dAdd (mBin dIx (mVar 4) (mBin dSub (mVar 6) (mC (.int 1)))) (mBin dMul (mCallF F__law_power (mCons (mVar 0) (mCons (mVar 6) mNil))) (mBin dIx (mVar 4) (mVar 6)))))))
  (mDrop (mApp 2 (mBin dAdd (mVar 5) (mLst (mCons (mC (.int 1)) mNil)))))))))
  (mRet (mVar 2))))
  let F__law_met : List D → Rf := mkF 9
    (mSeq (mAsg 5 (mLst mNil))
  (mSeq (mFor (mRng (mCons (mBin dAdd (mVar 2) (mC (.int 1))) mNil)) (gN 6) [7, 8] (mSeq (mAsg 7 (mCallF F__law_power (mCons (mVar 0) (mCons (mBin dMul (mVar 1) (mCall (fn2 dMax) (mCons (mC (.int 0)) (mCons (mBin dAdd (mBin dSub (mVar 6) (mVar 3)) (mC (.int 1))) mNil)))) mNil))))
  (mSeq (mFor (mRng (mCons (mVar 6) mNil)) (gN 8) [8] (mAsg 7 (mBin dSub (mVar 7) (mBin dMul (mBin dIx (mVar 5) (mVar 8)) (mBin dIx (mBin dIx (mVar 4) (mVar 6)) (mVar 8))))))
  (mDrop (mApp 5 (mVar 7))))))
  (mRet (mLc (mRng (mCons (mBin dAdd (mVar 2) (mC (.int 1))) mNil)) (gN 6) [6] mYes (mBin dMul (mBin dIx (mVar 5) (mVar 6)) (mBin dIx (mBin dIx (mVar 4) (mVar 2)) (mVar 6)))))))
  let F__law_at : List D → Rf := mkF 3
    (mSeq (mIfS (mOr (mCmp cLt (mVar 2) (mC (.int 0))) (mCmp cGt (mVar 2) (mVar 1))) (mRet (mC (.int 0))) mNext)
  (mRet (mBin dIx (mBin dIx (mVar 0) (mVar 1)) (mVar 2))))
  let F__law_tables : List D → Rf := mkF 9
    (mSeq (mAsg 5 (mLst mNil))
  (mSeq (mFor (mRng (mCons (mBin dAdd (mVar 3) (mC (.int 1))) mNil)) (gN 6) [6, 7, 8] (mSeq (mAsg 7 (mCallF F__law_at (mCons (mVar 4) (mCons (mVar 2) (mCons (mVar 6) mNil)))))
  (mSeq (mFor (mRng (mCons (mVar 6) mNil)) (gN 8) [8] (mAsg 7 (mIf (mCmp cLt (mVar 8) (mVar 1)) (mBin dMul (mVar 7) (mBin dSub (mCallF F__law_power (mCons (mVar 0) (mCons (mVar 1) mNil))) (mCallF F__law_power (mCons (mVar 0) (mCons (mVar 8) mNil))))) (mC (.int 0)))))
  (mDrop (mApp 5 (mVar 7))))))
  (mRet (mVar 5))))
  let F__law_real : List D → Rf := mkIO 5
    (mSeq (mIfS (mAnd (mCmp cLe (mVar 3) (mVar 2)) (mCmp cEq (mCallIO F__law_draw 0 (mCons (mC (.int 2)) mNil)) (mC (.int 0)))) (mRet (mCallF F__law_met (mCons (mVar 1) (mCons (mVar 2) (mCons (mVar 3) (mCons (mBin dAdd (mC (.int 1)) (mCallIO F__law_draw 0 (mCons (mBin dAdd (mVar 3) (mC (.int 1))) mNil))) (mCons (mVar 4) mNil))))))) mNext)
  (mRet (mCallF F__law_tables (mCons (mVar 1) (mCons (mCallIO F__law_draw 0 (mCons (mBin dAdd (mVar 2) (mC (.int 1))) mNil)) (mCons (mCallIO F__law_draw 0 (mCons (mBin dAdd (mVar 3) (mC (.int 1))) mNil)) (mCons (mVar 3) (mCons (mVar 4) mNil))))))))
  let F__law_spread : List D → Rf := mkF 5
    (mRet (mCall (fn1 dSumA) (mCons (mLc (mRng (mCons (mBin dAdd (mVar 0) (mC (.int 1))) mNil)) (gN 4) [4] mYes (mBin dMul (mBin dIx (mVar 1) (mVar 4)) (mCallF F__law_at (mCons (mVar 3) (mCons (mBin dSub (mVar 0) (mVar 4)) (mCons (mVar 2) mNil)))))) mNil)))
  let F__law_known : List D → Rf := mkF 5
    (mRet (mCall (fn1 dSumA) (mCons (mLc (mRng (mCons (mVar 2) mNil)) (gN 4) [4] mYes (mBin dMul (mBin dIx (mVar 1) (mVar 4)) (mCallF F__law_at (mCons (mVar 3) (mCons (mBin dSub (mVar 0) (mVar 4)) (mCons (mBin dSub (mVar 2) (mVar 4)) mNil)))))) mNil)))
  let F__law_rest : List D → Rf := mkF 9
    (mSeq (mAsg 6 (mLst mNil))
  (mSeq (mFor (mRng (mCons (mBin dAdd (mVar 2) (mC (.int 1))) mNil)) (gN 7) [7, 8] (mSeq (mAsg 8 (mBin dSub (mBin dMul (mCallF F__law_power (mCons (mVar 0) (mCons (mBin dMul (mVar 1) (mVar 7)) mNil))) (mCallF F__law_spread (mCons (mVar 2) (mCons (mVar 4) (mCons (mVar 7) (mCons (mVar 5) mNil)))))) (mBin dMul (mVar 3) (mCallF F__law_known (mCons (mVar 2) (mCons (mVar 6) (mCons (mVar 7) (mCons (mVar 5) mNil))))))))
  (mSeq (mIfS (mOr (mCmp cLt (mVar 8) (mC (.int 0))) (mCmp cNe (mBin dMod (mCall (fn1 dInt) (mCons (mVar 8) mNil)) (mVar 3)) (mC (.int 0)))) (mRet (mTup (mCons (mC (.str "none")) (mCons (mVar 7) mNil)))) mNext)
  (mDrop (mApp 6 (mBin dDiv (mVar 8) (mVar 3)))))))
  (mRet (mTup (mCons (mC (.str "row")) (mCons (mVar 6) mNil))))))
  let F__law_whole : List D → Rf := mkF 1
    (mRet (mAndV (mCall (fn2 (dIsi sub0 [])) (mCons (mVar 0) (mCons (mC (.ty "int")) mNil))) (mNotV (mCall (fn2 (dIsi sub0 [])) (mCons (mVar 0) (mCons (mC (.ty "bool")) mNil))))))
  let F__law_same : List D → Rf := mkF 4
    (mSeq (mIfS (mOr (mNot (mTest (mCall (fn2 (dIsi sub0 [])) (mCons (mVar 0) (mCons (mC (.ty "tuple")) mNil))))) (mCmp cNe (mCall (fn1 dLen) (mCons (mVar 0) mNil)) (mCall (fn1 dLen) (mCons (mVar 1) mNil)))) (mRet (mC (.bl false))) mNext)
  (mSeq (mFor (mWalk wZipM (mCons (mVar 0) (mCons (mVar 1) mNil))) (VM.gT 2 (gs1 (gN 2) (gs1 (gN 3) gs0))) [2, 3] (mIfS (mOr (mNot (mTest (mCallF F__law_whole (mCons (mVar 2) mNil)))) (mCmp cNe (mVar 2) (mVar 3))) (mRet (mC (.bl false))) mNext))
  (mRet (mC (.bl true)))))
  let F_is_whole : List D → Rf := mkF 3
    (mSeq (mIfS (mOr (mNot (mTest (mCall (fn2 (dIsi sub0 [])) (mCons (mVar 0) (mCons (mC (.ty "int")) mNil))))) (mTest (mCall (fn2 (dIsi sub0 [])) (mCons (mVar 0) (mCons (mC (.ty "bool")) mNil))))) (mRet (mC (.bl false))) mNext)
  (mSeq (mIfS (mAnd (mCmp cIsNot (mVar 1) (mC .non)) (mCmp cLt (mVar 0) (mVar 1))) (mRet (mC (.bl false))) mNext)
  (mRet (mOrV (mBin (lift cIs) (mVar 2) (mC .non)) (mBin (lift cLe) (mVar 0) (mVar 2))))))
  let F_check_sizes : List D → Rf := mkF 3
    (mSeq (mIfS (mNot (mTest (mCallF F_is_whole (mCons (mVar 0) (mCons (mC (.int 2)) (mCons (mC (.int 3)) mNil)))))) (mRaise cl_BadSizes ["what"] (mCons (mC (.str "prime")) mNil)) mNext)
  (mSeq (mIfS (mNot (mTest (mCallF F_is_whole (mCons (mVar 1) (mCons (mC (.int 1)) (mCons (mC (.int 12)) mNil)))))) (mRaise cl_BadSizes ["what"] (mCons (mC (.str "degree")) mNil)) mNext)
  (mIfS (mNot (mTest (mCallF F_is_whole (mCons (mVar 2) (mCons (mC (.int 1)) (mCons (mC (.int 12)) mNil)))))) (mRaise cl_BadSizes ["what"] (mCons (mC (.str "columns")) mNil)) mNext)))
  let F_power_of : List D → Rf := mkF 4
    (mSeq (mAsg 2 (mC (.int 1)))
  (mSeq (mFor (mRng (mCons (mVar 1) mNil)) (gN 3) [3] (mAsg 2 (mBin dMul (mVar 2) (mVar 0))))
  (mRet (mVar 2))))
  let F_is_sequence : List D → Rf := mkF 1
    (mRet (mCall (fn2 (dIsi sub0 [])) (mCons (mVar 0) (mCons (mTup (mCons (mC (.ty "list")) (mCons (mC (.ty "tuple")) mNil))) mNil))))
  let F_is_counts : List D → Rf := mkF 3
    (mSeq (mIfS (mOr (mNot (mTest (mCallF F_is_sequence (mCons (mVar 1) mNil)))) (mCmp cNe (mCall (fn1 dLen) (mCons (mVar 1) mNil)) (mBin dAdd (mVar 0) (mC (.int 1))))) (mRet (mC (.bl false))) mNext)
  (mRet (mCall (fn1 dAllN) (mCons (mLc (mIter (mVar 1)) (gN 2) [2] mYes (mCallF F_is_whole (mPad [.non] (mCons (mVar 2) (mCons (mC (.int 0)) mNil))))) mNil))))
  let F_space_count : List D → Rf := mkF 6
    (mSeq (mIfS (mOr (mCmp cLt (mVar 2) (mC (.int 0))) (mCmp cGt (mVar 2) (mVar 1))) (mRet (mC (.int 0))) mNext)
  (mSeq (mAsg 3 (mC (.int 1)))
  (mSeq (mAsg 4 (mC (.int 1)))
  (mSeq (mFor (mRng (mCons (mVar 2) mNil)) (gN 5) [5] (mSeq (mAsg 3 (mBin dMul (mVar 3) (mBin dSub (mCallF F_power_of (mCons (mVar 0) (mCons (mBin dSub (mVar 1) (mVar 5)) mNil))) (mC (.int 1)))))
  (mAsg 4 (mBin dMul (mVar 4) (mBin dSub (mCallF F_power_of (mCons (mVar 0) (mCons (mBin dAdd (mVar 5) (mC (.int 1))) mNil))) (mC (.int 1)))))))
  (mRet (mBin dDiv (mVar 3) (mVar 4)))))))
  let F_completed_counts : List D → Rf := mkF 12
    (mSeq (mDrop (mCallF F_check_sizes (mCons (mVar 0) (mCons (mVar 1) (mCons (mVar 2) mNil)))))
  (mSeq (mIfS (mNot (mTest (mCallF F_is_whole (mCons (mVar 3) (mCons (mC (.int 1)) (mCons (mCallF F_power_of (mCons (mVar 0) (mCons (mBin dMul (mVar 1) (mVar 2)) mNil))) mNil)))))) (mRaise cl_BadSizes ["what"] (mCons (mC (.str "size")) mNil)) mNext)
  (mSeq (mIfS (mOr (mNot (mTest (mCallF F_is_sequence (mCons (mVar 4) mNil)))) (mNot (mChainB cLe cLe (mC (.int 1)) (mCall (fn1 dLen) (mCons (mVar 4) mNil)) (mBin dAdd (mVar 2) (mC (.int 1)))))) (mRaise cl_BadCounts ["what"] (mCons (mC (.str "row")) mNil)) mNext)
  (mSeq (mIfS (mNot (mTest (mCallF F_is_counts (mCons (mBin dSub (mCall (fn1 dLen) (mCons (mVar 4) mNil)) (mC (.int 1))) (mCons (mVar 4) mNil))))) (mRaise cl_BadCounts ["what"] (mCons (mC (.str "row")) mNil)) mNext)
  (mSeq (mIfS (mCmp cNe (mBin dIx (mVar 4) (mC (.int 0))) (mC (.int 1))) (mRaise cl_BadCounts ["what"] (mCons (mC (.str "first")) mNil)) mNext)
  (mSeq (mAsg 5 (mCall (fn1 dList) (mCons (mVar 4) mNil)))
  (mSeq (mFor (mRng (mCons (mCall (fn1 dLen) (mCons (mVar 4) mNil)) (mCons (mBin dAdd (mVar 2) (mC (.int 1))) mNil))) (gN 6) [6, 7, 8, 9, 10] (mSeq (mAsg 7 (mBin dSub (mVar 2) (mVar 6)))
  (mSeq (mAsg 8 (mBin dMul (mVar 3) (mCallF F_space_count (mCons (mVar 0) (mCons (mVar 2) (mCons (mVar 7) mNil))))))
  (mSeq (mAsg 9 (mCallF F_power_of (mCons (mVar 0) (mCons (mBin dMul (mVar 1) (mVar 7)) mNil))))
  (mSeq (mAsg 10 (mCall (fn1 dSumA) (mCons (mLc (mRng (mCons (mVar 6) mNil)) (gN 11) [11] mYes (mBin dMul (mBin dIx (mVar 5) (mVar 11)) (mCallF F_space_count (mCons (mVar 0) (mCons (mBin dSub (mVar 2) (mVar 11)) (mCons (mVar 7) mNil)))))) mNil)))
  (mSeq (mIfS (mOr (mCmp cNe (mBin dMod (mVar 8) (mVar 9)) (mC (.int 0))) (mCmp cLt (mBin dDiv (mVar 8) (mVar 9)) (mVar 10))) (mRaise cl_NoLot ["rank"] (mCons (mVar 6) mNil)) mNext)
  (mDrop (mApp 5 (mBin dSub (mBin dDiv (mVar 8) (mVar 9)) (mVar 10))))))))))
  (mRet (mCall (fn1 dTuple) (mCons (mVar 5) mNil))))))))))
  let F_spread_sum : List D → Rf := mkF 5
    (mRet (mCall (fn1 dSumA) (mCons (mLc (mRng (mCons (mBin dAdd (mVar 1) (mC (.int 1))) mNil)) (gN 4) [4] mYes (mBin dMul (mBin dIx (mVar 2) (mVar 4)) (mCallF F_space_count (mCons (mVar 0) (mCons (mBin dSub (mVar 1) (mVar 4)) (mCons (mVar 3) mNil)))))) mNil)))
  let F_known_part : List D → Rf := mkF 5
    (mRet (mCall (fn1 dSumA) (mCons (mLc (mRng (mCons (mVar 3) mNil)) (gN 4) [4] mYes (mBin dMul (mBin dIx (mVar 2) (mVar 4)) (mCallF F_space_count (mCons (mVar 0) (mCons (mBin dSub (mVar 1) (mVar 4)) (mCons (mBin dSub (mVar 3) (mVar 4)) mNil)))))) mNil)))
  let F_turned_counts : List D → Rf := mkF 7
    (mSeq (mDrop (mCallF F_check_sizes (mCons (mVar 0) (mCons (mVar 1) (mCons (mVar 2) mNil)))))
  (mSeq (mIfS (mNot (mTest (mCallF F_is_counts (mCons (mVar 2) (mCons (mVar 3) mNil))))) (mRaise cl_BadCounts ["what"] (mCons (mC (.str "row")) mNil)) mNext)
  (mSeq (mIfS (mCmp cEq (mBin dIx (mVar 3) (mC (.int 0))) (mC (.int 0))) (mRaise cl_BadCounts ["what"] (mCons (mC (.str "first")) mNil)) mNext)
  (mSeq (mIfS (mCmp cNe (mCall (fn1 dSumA) (mCons (mVar 3) mNil)) (mBin dMul (mBin dIx (mVar 3) (mC (.int 0))) (mBin dIx (mVar 3) (mC (.int 0))))) (mRaise cl_BadCounts ["what"] (mCons (mC (.str "sum")) mNil)) mNext)
  (mSeq (mAsg 4 (mLst mNil))
  (mSeq (mFor (mRng (mCons (mBin dAdd (mVar 2) (mC (.int 1))) mNil)) (gN 5) [5, 6] (mSeq (mAsg 6 (mBin dMul (mCallF F_power_of (mCons (mVar 0) (mCons (mBin dMul (mVar 1) (mVar 5)) mNil))) (mCallF F_spread_sum (mCons (mVar 0) (mCons (mVar 2) (mCons (mVar 3) (mCons (mVar 5) mNil)))))))
  (mDrop (mApp 4 (mBin dSub (mVar 6) (mCallF F_known_part (mCons (mVar 0) (mCons (mVar 2) (mCons (mVar 4) (mCons (mVar 5) mNil))))))))))
  (mRet (mCall (fn1 dTuple) (mCons (mVar 4) mNil)))))))))
  let F__law_real_holds : List D → Rf := mkIO 11
    (mSeq (mAsg 5 (mCallIO F__law_real 0 (mCons (mVar 1) (mCons (mVar 2) (mCons (mVar 3) (mCons (mVar 4) mNil))))))
  (mSeq (mAsg 6 (mCall (fn1 dSumA) (mCons (mVar 5) mNil)))
  (mSeq (mAsg 7 (mCallF F__law_rest (mCons (mVar 1) (mCons (mVar 2) (mCons (mVar 3) (mCons (mVar 6) (mCons (mVar 5) (mCons (mVar 4) mNil))))))))
  (mSeq (mIfS (mCmp cEq (mBin dIx (mVar 7) (mC (.int 0))) (mC (.str "none"))) (mRet (mC (.bl false))) mNext)
  (mSeq (mFor (mRng (mCons (mBin dAdd (mVar 3) (mC (.int 1))) mNil)) (gN 8) [8] (mIfS (mAnd (mCmp cEq (mCall (fn1 dSumA) (mCons (mSlice (mBin dIx (mVar 7) (mC (.int 1))) (mPart (some (mC (.int 1)))) (mPart (some (mBin dSub (mVar 3) (mVar 8))))) mNil)) (mC (.int 0))) (mNot (mTest (mCallF F__law_same (mCons (mCallF F_completed_counts (mCons (mVar 1) (mCons (mVar 2) (mCons (mVar 3) (mCons (mVar 6) (mCons (mSlice (mVar 5) (mPart none) (mPart (some (mBin dAdd (mVar 8) (mC (.int 1)))))) mNil)))))) (mCons (mVar 5) mNil)))))) (mRet (mC (.bl false))) mNext))
  (mSeq (mAsg 9 (mCall (fn1 dTuple) (mCons (mLc (mIter (mVar 5)) (gN 10) [10] mYes (mBin dMul (mVar 6) (mVar 10))) mNil)))
  (mRet (mCallF F__law_same (mCons (mCallF F_turned_counts (mCons (mVar 1) (mCons (mVar 2) (mCons (mVar 3) (mCons (mVar 9) mNil))))) (mCons (mLc (mIter (mBin dIx (mVar 7) (mC (.int 1)))) (gN 10) [10] mYes (mBin dMul (mBin dMul (mVar 6) (mVar 6)) (mVar 10))) mNil))))))))))
  let F__law_pick : List D → Rf := mkIO 2
    (mRet (mBin dIx (mVar 1) (mCallIO F__law_draw 0 (mCons (mCall (fn1 dLen) (mCons (mVar 1) mNil)) mNil))))
  let F__law_agrees : List D → Rf := mkF 2
    (mSeq (mIfS (mCmp cEq (mBin dIx (mVar 1) (mC (.int 0))) (mC (.str "none"))) (mRet (mBin (lift cEq) (mVar 0) (mVar 1))) mNext)
  (mRet (mAndV (mBin (lift cEq) (mBin dIx (mVar 0) (mC (.int 0))) (mC (.str "row"))) (mCallF F__law_same (mCons (mBin dIx (mVar 0) (mC (.int 1))) (mCons (mBin dIx (mVar 1) (mC (.int 1))) mNil))))))
  let F__law_completed : List D → Rf := mkF 13
    (mSeq (mAsg 6 (mCall (fn1 dList) (mCons (mVar 4) mNil)))
  (mSeq (mFor (mRng (mCons (mCall (fn1 dLen) (mCons (mVar 4) mNil)) (mCons (mBin dAdd (mVar 2) (mC (.int 1))) mNil))) (gN 7) [7, 8, 9, 10, 11] (mSeq (mAsg 8 (mBin dSub (mVar 2) (mVar 7)))
  (mSeq (mAsg 9 (mBin dMul (mVar 3) (mBin dIx (mBin dIx (mVar 5) (mVar 2)) (mVar 8))))
  (mSeq (mAsg 10 (mCallF F__law_power (mCons (mVar 0) (mCons (mBin dMul (mVar 1) (mVar 8)) mNil))))
  (mSeq (mAsg 11 (mCall (fn1 dSumA) (mCons (mLc (mRng (mCons (mVar 7) mNil)) (gN 12) [12] mYes (mBin dMul (mBin dIx (mVar 6) (mVar 12)) (mCallF F__law_at (mCons (mVar 5) (mCons (mBin dSub (mVar 2) (mVar 12)) (mCons (mVar 8) mNil)))))) mNil)))
  (mSeq (mIfS (mOr (mCmp cNe (mBin dMod (mCall (fn1 dInt) (mCons (mVar 9) mNil)) (mVar 10)) (mC (.int 0))) (mCmp cLt (mBin dDiv (mVar 9) (mVar 10)) (mVar 11))) (mRet (mTup (mCons (mC (.str "none")) (mCons (mVar 7) mNil)))) mNext)
  (mDrop (mApp 6 (mBin dSub (mBin dDiv (mVar 9) (mVar 10)) (mVar 11))))))))))
  (mRet (mTup (mCons (mC (.str "row")) (mCons (mVar 6) mNil))))))
  let F__law_completed_told : List D → Rf := mkF 7
    (mSeq (mTry subE (mAsg 5 (mCallF F_completed_counts (mCons (mVar 0) (mCons (mVar 1) (mCons (mVar 2) (mCons (mVar 3) (mCons (mVar 4) mNil))))))) [(.cl cl_BadSizes, some 6, (mRet (mTup (mCons (mC (.str "sizes")) (mCons (mXf xs_0 6 "what") mNil))))), (.cl cl_BadCounts, some 6, (mRet (mTup (mCons (mC (.str "counts")) (mCons (mXf xs_1 6 "what") mNil))))), (.cl cl_NoLot, some 6, (mRet (mTup (mCons (mC (.str "none")) (mCons (mXf xs_2 6 "rank") mNil)))))])
  (mRet (mTup (mCons (mC (.str "row")) (mCons (mVar 5) mNil)))))
  let F__law_turned : List D → Rf := mkF 8
    (mSeq (mAsg 5 (mLst mNil))
  (mSeq (mFor (mRng (mCons (mBin dAdd (mVar 2) (mC (.int 1))) mNil)) (gN 6) [6, 7] (mSeq (mAsg 7 (mBin dMul (mCallF F__law_power (mCons (mVar 0) (mCons (mBin dMul (mVar 1) (mVar 6)) mNil))) (mCallF F__law_spread (mCons (mVar 2) (mCons (mVar 3) (mCons (mVar 6) (mCons (mVar 4) mNil)))))))
  (mDrop (mApp 5 (mBin dSub (mVar 7) (mCallF F__law_known (mCons (mVar 2) (mCons (mVar 5) (mCons (mVar 6) (mCons (mVar 4) mNil))))))))))
  (mRet (mVar 5))))
  let F__law_free_holds : List D → Rf := mkIO 14
    (mSeq (mAsg 5 (mBin dAdd (mLst (mCons (mC (.int 1)) mNil)) (mLc (mRng (mCons (mCallIO F__law_draw 0 (mCons (mBin dAdd (mVar 3) (mC (.int 1))) mNil)) mNil)) (gN 13) [13] mYes (mCallIO F__law_draw 0 (mCons (mCallIO F__law_pick 0 (mCons (mLst (mCons (mC (.int 1)) (mCons (mC (.int 4)) (mCons (mC (.int 1000)) mNil)))) mNil)) mNil)))))
  (mSeq (mAsg 6 (mBin dAdd (mC (.int 1)) (mCallIO F__law_draw 0 (mCons (mCallF F__law_power (mCons (mVar 1) (mCons (mBin dMul (mVar 2) (mVar 3)) mNil))) mNil))))
  (mSeq (mIfS (mCmp cEq (mCallIO F__law_draw 0 (mCons (mC (.int 2)) mNil)) (mC (.int 0))) (mSeq (mAsg 6 (mBin dMul (mCallF F__law_power (mCons (mVar 1) (mCons (mBin dMul (mVar 2) (mCallIO F__law_draw 0 (mCons (mBin dAdd (mVar 3) (mC (.int 1))) mNil))) mNil))) (mBin dAdd (mC (.int 1)) (mCallIO F__law_draw 0 (mCons (mBin dSub (mVar 1) (mC (.int 1))) mNil)))))
  (mAsg 6 (mCall (fn2 dMin) (mCons (mVar 6) (mCons (mCallF F__law_power (mCons (mVar 1) (mCons (mBin dMul (mVar 2) (mVar 3)) mNil))) mNil))))) mNext)
  (mSeq (mIfS (mNot (mTest (mCallF F__law_agrees (mCons (mCallF F__law_completed_told (mCons (mVar 1) (mCons (mVar 2) (mCons (mVar 3) (mCons (mVar 6) (mCons (mVar 5) mNil)))))) (mCons (mCallF F__law_completed (mCons (mVar 1) (mCons (mVar 2) (mCons (mVar 3) (mCons (mVar 6) (mCons (mVar 5) (mCons (mVar 4) mNil))))))) mNil))))) (mRet (mC (.bl false))) mNext)
  (mSeq (mAsg 7 (mBin dAdd (mC (.int 1)) (mCallIO F__law_draw 0 (mCons (mC (.int 300)) mNil))))
  (mSeq (mAsg 8 (mBin dSub (mBin dMul (mVar 7) (mVar 7)) (mVar 7)))
  (mSeq (mAsg 9 (mBin dAdd (mLst (mCons (mVar 7) mNil)) (mBin dMul (mLst (mCons (mC (.int 0)) mNil)) (mVar 3))))
  (mSeq (mFor (mRng (mCons (mC (.int 4)) mNil)) (gN 10) [10, 11, 12] (mSeq (mAsg 11 (mBin dAdd (mC (.int 1)) (mCallIO F__law_draw 0 (mCons (mVar 3) mNil))))
  (mSeq (mAsg 12 (mIf (mCmp cLt (mVar 10) (mC (.int 3))) (mCallIO F__law_draw 0 (mCons (mBin dAdd (mVar 8) (mC (.int 1))) mNil)) (mVar 8)))
  (mSeq (mSetI 9 (mVar 11) (mBin dAdd (mBin dIx (mVar 9) (mVar 11)) (mVar 12)))
  (mAsg 8 (mBin dSub (mVar 8) (mVar 12)))))))
  (mRet (mCallF F__law_same (mCons (mCallF F_turned_counts (mCons (mVar 1) (mCons (mVar 2) (mCons (mVar 3) (mCons (mVar 9) mNil))))) (mCons (mCallF F__law_turned (mCons (mVar 1) (mCons (mVar 2) (mCons (mVar 3) (mCons (mVar 9) (mCons (mVar 4) mNil)))))) mNil))))))))))))
  let F__law_odd : List D → Rf := mkIO 5
    (mSeq (mAsg 3 (mCallIO F__law_draw 0 (mCons (mBin dPow (mC (.int 10)) (mC (.int 9))) mNil)))
  (mSeq (mAsg 4 (mCallIO F__law_draw 0 (mCons (mC (.int 8)) mNil)))
  (mSeq (mIfS (mCmp cEq (mVar 4) (mC (.int 0))) (mRet (mBin dSub (mVar 1) (mC (.int 1)))) mNext)
  (mSeq (mIfS (mCmp cEq (mVar 4) (mC (.int 1))) (mRet (mBin dAdd (mVar 2) (mC (.int 1)))) mNext)
  (mSeq (mIfS (mCmp cEq (mVar 4) (mC (.int 2))) (mRet (mBin dSub (mBin dSub (mVar 1) (mC (.int 2))) (mVar 3))) mNext)
  (mSeq (mIfS (mCmp cEq (mVar 4) (mC (.int 3))) (mRet (mBin dAdd (mBin dAdd (mVar 2) (mC (.int 2))) (mVar 3))) mNext)
  (mSeq (mIfS (mCmp cEq (mVar 4) (mC (.int 4))) (mRet (mC (.bl true))) mNext)
  (mSeq (mIfS (mCmp cEq (mVar 4) (mC (.int 5))) (mRet (mC .non)) mNext)
  (mSeq (mIfS (mCmp cEq (mVar 4) (mC (.int 6))) (mRet (mCall (fn1 dStr) (mCons (mVar 1) mNil))) mNext)
  (mRet (mLst (mCons (mVar 1) mNil))))))))))))
  let F__law_odd_row : List D → Rf := mkIO 5
    (mSeq (mAsg 3 (mCallIO F__law_draw 0 (mCons (mCall (fn1 dLen) (mCons (mVar 2) mNil)) mNil)))
  (mSeq (mAsg 4 (mCallIO F__law_draw 0 (mCons (mC (.int 3)) mNil)))
  (mSeq (mIfS (mCmp cEq (mVar 4) (mC (.int 0))) (mRet (mBin dAdd (mVar 2) (mBin dMul (mLst (mCons (mC (.int 0)) mNil)) (mBin dSub (mBin dAdd (mVar 1) (mC (.int 2))) (mCall (fn1 dLen) (mCons (mVar 2) mNil)))))) mNext)
  (mSeq (mIfS (mCmp cEq (mVar 4) (mC (.int 1))) (mRet (mCallIO F__law_pick 0 (mCons (mLst (mCons (mTup mNil) (mCons (mC .non) (mCons (mC (.str "1")) mNil)))) mNil))) mNext)
  (mRet (mBin dAdd (mBin dAdd (mSlice (mVar 2) (mPart none) (mPart (some (mVar 3)))) (mLst (mCons (mCallIO F__law_pick 0 (mCons (mLst (mCons (mUn dNeg (mC (.int 1))) (mCons (mC (.bl true)) (mCons (mC .non) mNil)))) mNil)) mNil))) (mSlice (mVar 2) (mPart (some (mBin dAdd (mVar 3) (mC (.int 1))))) (mPart none))))))))
  let F__law_turned_told : List D → Rf := mkF 6
    (mSeq (mTry subE (mAsg 4 (mCallF F_turned_counts (mCons (mVar 0) (mCons (mVar 1) (mCons (mVar 2) (mCons (mVar 3) mNil)))))) [(.cl cl_BadSizes, some 5, (mRet (mTup (mCons (mC (.str "sizes")) (mCons (mXf xs_0 5 "what") mNil))))), (.cl cl_BadCounts, some 5, (mRet (mTup (mCons (mC (.str "counts")) (mCons (mXf xs_1 5 "what") mNil)))))])
  (mRet (mTup (mCons (mC (.str "row")) (mCons (mVar 4) mNil)))))
  let F__law_refusals_hold : List D → Rf := mkIO 18
    (mSeq (mAsg 4 (mCallIO F__law_draw 0 (mCons (mC (.int 64)) mNil)))
  (mSeq (mAsg 5 (mCallF F__law_power (mCons (mVar 1) (mCons (mBin dMul (mVar 2) (mVar 3)) mNil))))
  (mSeq (mAsg 6 (mLst (mCons (mCallIO F__law_odd 0 (mCons (mC (.int 2)) (mCons (mC (.int 3)) mNil))) (mCons (mCallIO F__law_odd 0 (mCons (mC (.int 1)) (mCons (mC (.int 12)) mNil))) (mCons (mCallIO F__law_odd 0 (mCons (mC (.int 1)) (mCons (mC (.int 12)) mNil))) (mCons (mCallIO F__law_odd 0 (mCons (mC (.int 1)) (mCons (mVar 5) mNil))) mNil))))))
  (mSeq (mAsg 7 (mLst (mCons (mVar 1) (mCons (mVar 2) (mCons (mVar 3) (mCons (mCallIO F__law_pick 0 (mCons (mLst (mCons (mC (.int 1)) (mCons (mVar 5) mNil))) mNil)) mNil))))))
  (mSeq (mAsg 8 (mLc (mRng (mCons (mC (.int 4)) mNil)) (gN 17) [17] mYes (mIf (mCmp cEq (mBin dAnd (mBin dShr (mVar 4) (mVar 17)) (mC (.int 1))) (mC (.int 1))) (mBin dIx (mVar 6) (mVar 17)) (mBin dIx (mVar 7) (mVar 17)))))
  (mSeq (mAsg 9 (mBin dAdd (mLst (mCons (mCallIO F__law_pick 0 (mCons (mLst (mCons (mC (.int 0)) (mCons (mBin dAdd (mC (.int 2)) (mCallIO F__law_draw 0 (mCons (mC (.int 9)) mNil))) mNil))) mNil)) mNil)) (mBin dMul (mLst (mCons (mC (.int 0)) mNil)) (mCallIO F__law_draw 0 (mCons (mBin dAdd (mVar 3) (mC (.int 1))) mNil)))))
  (mSeq (mAsg 10 (mC (.str "first")))
  (mSeq (mIfS (mCmp cEq (mBin dAnd (mBin dShr (mVar 4) (mC (.int 4))) (mC (.int 1))) (mC (.int 1))) (mSeq (mAsg 9 (mCallIO F__law_odd_row 0 (mCons (mVar 3) (mCons (mVar 9) mNil))))
  (mAsg 10 (mC (.str "row")))) mNext)
  (mSeq (mAsg 11 (mLc (mRng (mCons (mC (.int 4)) mNil)) (gN 17) [17] (mCmp cEq (mBin dAnd (mBin dShr (mVar 4) (mVar 17)) (mC (.int 1))) (mC (.int 1))) (mVar 17)))
  (mSeq (mAsg 12 (mLst (mCons (mC (.str "prime")) (mCons (mC (.str "degree")) (mCons (mC (.str "columns")) (mCons (mC (.str "size")) mNil))))))
  (mSeq (mAsg 13 (mIf (mTest (mVar 11)) (mTup (mCons (mC (.str "sizes")) (mCons (mBin dIx (mVar 12) (mBin dIx (mVar 11) (mC (.int 0)))) mNil))) (mTup (mCons (mC (.str "counts")) (mCons (mVar 10) mNil)))))
  (mSeq (mIfS (mCmp cNe (mCallF F__law_completed_told (mCons (mBin dIx (mVar 8) (mC (.int 0))) (mCons (mBin dIx (mVar 8) (mC (.int 1))) (mCons (mBin dIx (mVar 8) (mC (.int 2))) (mCons (mBin dIx (mVar 8) (mC (.int 3))) (mCons (mVar 9) mNil)))))) (mVar 13)) (mRet (mC (.bl false))) mNext)
  (mSeq (mAsg 14 (mBin dAdd (mC (.int 1)) (mCallIO F__law_draw 0 (mCons (mC (.int 99)) mNil))))
  (mSeq (mAsg 15 (mBin dAdd (mLst (mCons (mVar 14) (mCons (mBin dSub (mBin dMul (mVar 14) (mVar 14)) (mVar 14)) mNil))) (mBin dMul (mLst (mCons (mC (.int 0)) mNil)) (mBin dSub (mVar 3) (mC (.int 1))))))
  (mSeq (mAsg 16 (mCallIO F__law_draw 0 (mCons (mC (.int 3)) mNil)))
  (mSeq (mIfS (mCmp cEq (mVar 16) (mC (.int 0))) (mPar 15 10 (mCons (mBin dAdd (mBin dMul (mLst (mCons (mC (.int 0)) mNil)) (mVar 3)) (mLst (mCons (mCallIO F__law_draw 0 (mCons (mC (.int 3)) mNil)) mNil))) (mCons (mC (.str "first")) mNil))) (mIfS (mCmp cEq (mVar 16) (mC (.int 1))) (mPar 15 10 (mCons (mBin dAdd (mLst (mCons (mVar 14) (mCons (mBin dAdd (mBin dSub (mBin dMul (mVar 14) (mVar 14)) (mVar 14)) (mC (.int 1))) mNil))) (mBin dMul (mLst (mCons (mC (.int 0)) mNil)) (mBin dSub (mVar 3) (mC (.int 1))))) (mCons (mC (.str "sum")) mNil))) (mPar 15 10 (mCons (mCallIO F__law_odd_row 0 (mCons (mVar 3) (mCons (mVar 15) mNil))) (mCons (mC (.str "row")) mNil)))))
  (mSeq (mAsg 13 (mIf (mAnd (mTest (mVar 11)) (mCmp cLt (mBin dIx (mVar 11) (mC (.int 0))) (mC (.int 3)))) (mTup (mCons (mC (.str "sizes")) (mCons (mBin dIx (mVar 12) (mBin dIx (mVar 11) (mC (.int 0)))) mNil))) (mTup (mCons (mC (.str "counts")) (mCons (mVar 10) mNil)))))
  (mRet (mBin (lift cEq) (mCallF F__law_turned_told (mCons (mBin dIx (mVar 8) (mC (.int 0))) (mCons (mBin dIx (mVar 8) (mC (.int 1))) (mCons (mBin dIx (mVar 8) (mC (.int 2))) (mCons (mVar 15) mNil))))) (mVar 13))))))))))))))))))))
  let F_law : List D → Rf := mkF 8
    (mSeq (mAsg 1 (mCallF F__law_hand (mCons (mVar 0) mNil)))
  (mSeq (mAsg 2 (mBin dAdd (mC (.int 2)) (mCallIO F__law_draw 1 (mCons (mC (.int 2)) mNil))))
  (mSeq (mAsg 3 (mBin dAdd (mC (.int 1)) (mCallIO F__law_draw 1 (mCons (mC (.int 12)) mNil))))
  (mSeq (mAsg 4 (mBin dAdd (mC (.int 1)) (mCallIO F__law_draw 1 (mCons (mC (.int 12)) mNil))))
  (mSeq (mAsg 5 (mCallF F__law_gauss (mCons (mVar 2) (mCons (mC (.int 12)) mNil))))
  (mSeq (mIfS (mOr (mNot (mTest (mCallIO F__law_real_holds 1 (mCons (mVar 2) (mCons (mVar 3) (mCons (mVar 4) (mCons (mVar 5) mNil))))))) (mNot (mTest (mCallIO F__law_free_holds 1 (mCons (mVar 2) (mCons (mVar 3) (mCons (mVar 4) (mCons (mVar 5) mNil)))))))) (mRet (mC (.bl false))) mNext)
  (mSeq (mAsg 6 (mBin dAdd (mLst (mCons (mC (.int 1)) mNil)) (mLc (mRng (mCons (mVar 4) mNil)) (gN 7) [7] mYes (mCallIO F__law_draw 1 (mCons (mBin dPow (mC (.int 10)) (mC (.int 9))) mNil)))))
  (mSeq (mIfS (mNot (mTest (mCallF F__law_same (mCons (mCallF F_completed_counts (mCons (mVar 2) (mCons (mVar 3) (mCons (mVar 4) (mCons (mBin dAdd (mC (.int 1)) (mCallIO F__law_draw 1 (mCons (mC (.int 2)) mNil))) (mCons (mCall (fn1 dTuple) (mCons (mVar 6) mNil)) mNil)))))) (mCons (mVar 6) mNil))))) (mRet (mC (.bl false))) mNext)
  (mRet (mCallIO F__law_refusals_hold 1 (mCons (mVar 2) (mCons (mVar 3) (mCons (mVar 4) mNil)))))))))))))
  { F__law_hand := F__law_hand, F__law_mixed := F__law_mixed, F__law_draw := F__law_draw, F__law_power := F__law_power, F__law_gauss := F__law_gauss, F__law_met := F__law_met, F__law_at := F__law_at, F__law_tables := F__law_tables, F__law_real := F__law_real, F__law_spread := F__law_spread, F__law_known := F__law_known, F__law_rest := F__law_rest, F__law_whole := F__law_whole, F__law_same := F__law_same, F_is_whole := F_is_whole, F_check_sizes := F_check_sizes, F_power_of := F_power_of, F_is_sequence := F_is_sequence, F_is_counts := F_is_counts, F_space_count := F_space_count, F_completed_counts := F_completed_counts, F_spread_sum := F_spread_sum, F_known_part := F_known_part, F_turned_counts := F_turned_counts, F__law_real_holds := F__law_real_holds, F__law_pick := F__law_pick, F__law_agrees := F__law_agrees, F__law_completed := F__law_completed, F__law_completed_told := F__law_completed_told, F__law_turned := F__law_turned, F__law_free_holds := F__law_free_holds, F__law_odd := F__law_odd, F__law_odd_row := F__law_odd_row, F__law_turned_told := F__law_turned_told, F__law_refusals_hold := F__law_refusals_hold, F_law := F_law, e__law_hand := rfl, e__law_mixed := rfl, e__law_draw := rfl, e__law_power := rfl, e__law_gauss := rfl, e__law_met := rfl, e__law_at := rfl, e__law_tables := rfl, e__law_real := rfl, e__law_spread := rfl, e__law_known := rfl, e__law_rest := rfl, e__law_whole := rfl, e__law_same := rfl, e_is_whole := rfl, e_check_sizes := rfl, e_power_of := rfl, e_is_sequence := rfl, e_is_counts := rfl, e_space_count := rfl, e_completed_counts := rfl, e_spread_sum := rfl, e_known_part := rfl, e_turned_counts := rfl, e__law_real_holds := rfl, e__law_pick := rfl, e__law_agrees := rfl, e__law_completed := rfl, e__law_completed_told := rfl, e__law_turned := rfl, e__law_free_holds := rfl, e__law_odd := rfl, e__law_odd_row := rfl, e__law_turned_told := rfl, e__law_refusals_hold := rfl, e_law := rfl }
end My
open PySem PySem.W PyProof.Rows
set_option maxHeartbeats 0 in
theorem PySem.Challenge.cw_rankwords_k16_whole_counts_completed_and_holds : PySem.Challenge.rw_rankwords_k16_whole_counts_completed_and.Holds := by
  w_on; o_law; k_head; (case hw => w_witness2)
  k_fill
  refine L2.walk_of (l := PySem.Challenge.rw_rankwords_k16_whole_counts_completed_and) (n := 63) (k := 7) (x := "_law_script") (CX := fun w => L2.CX PySem.Challenge.pw_rankwords_k16_whole_counts_completed_and w) (sp := fun w => VM.spL _ (@My.Fns.F_law My.theFns)) rfl (by decide) rfl ⟨rfl, by decide, by decide⟩ (fun w h Y => PySem.W.kIn_of Y) ?F (fun _ _ a ns hl _ hS => VM.law_spL hS ((@My.law_true My.theFns) ns hl)) (fun _ _ _ _ _ h => VM.cx_false h)
  case F =>
    intro w mg fa h KX G hmg
    letI : My.Fns := My.theFns
    refine' My.all_mk KX G hmg ?aC0 ?aC1 ?aC2 ?a0 ?l0 ?e0 ?k0 ?a1 ?l1 ?e1 ?k1 ?a2 ?l2 ?e2 ?k2 ?a3 ?l3 ?e3 ?k3 ?a4 ?l4 ?e4 ?k4 ?a5 ?l5 ?e5 ?k5 ?a6 ?l6 ?e6 ?k6 ?a7 ?l7 ?e7 ?k7 ?a8 ?l8 ?e8 ?k8 ?a9 ?l9 ?e9 ?k9 ?a10 ?l10 ?e10 ?k10 ?a11 ?l11 ?e11 ?k11 ?a12 ?l12 ?e12 ?k12 ?a13 ?l13 ?e13 ?k13 ?a14 ?l14 ?t14 ?e14 ?k14 ?a15 ?l15 ?e15 ?k15 ?a16 ?l16 ?e16 ?k16 ?a17 ?l17 ?e17 ?k17 ?a18 ?l18 ?e18 ?k18 ?a19 ?l19 ?e19 ?k19 ?a20 ?l20 ?e20 ?k20 ?a21 ?l21 ?e21 ?k21 ?a22 ?l22 ?e22 ?k22 ?a23 ?l23 ?e23 ?k23 ?a24 ?l24 ?e24 ?k24 ?a25 ?l25 ?e25 ?k25 ?a26 ?l26 ?e26 ?k26 ?a27 ?l27 ?e27 ?k27 ?a28 ?l28 ?e28 ?k28 ?a29 ?l29 ?e29 ?k29 ?a30 ?l30 ?e30 ?k30 ?a31 ?l31 ?e31 ?k31 ?a32 ?l32 ?e32 ?k32 ?a33 ?l33 ?e33 ?k33 ?a34 ?l34 ?e34 ?k34 ?a35 ?l35 ?e35 ?k35 ?aRR ?rR ?cR ?iI0 ?lI0 ?eI0 ?kI0 ?xI0 ?iI1 ?lI1 ?eI1 ?kI1 ?xI1 ?iI2 ?lI2 ?eI2 ?kI2 ?xI2 ?y_BadSizes_BadSizes ?y_BadSizes_BadCounts ?y_BadSizes_NoLot ?y_BadCounts_BadSizes ?y_BadCounts_BadCounts ?y_BadCounts_NoLot ?y_NoLot_BadSizes ?y_NoLot_BadCounts ?y_NoLot_NoLot ?z_abs ?z_all ?z_bool ?z_int ?z_isinstance ?z_len ?z_list ?z_max ?z_min ?z_range ?z_str ?z_sum ?z_tuple ?z_zip ?g_MOST_SIDE
    (case aC0 => k_is); (case aC1 => k_is); (case aC2 => k_is); (case a0 => k_is); (case l0 => k_is); (case e0 => k_is); (case k0 => k_is); (case a1 => k_is); (case l1 => k_is); (case e1 => k_is); (case k1 => k_is); (case a2 => k_is); (case l2 => k_is); (case e2 => k_is); (case k2 => k_is); (case a3 => k_is); (case l3 => k_is); (case e3 => k_is); (case k3 => k_is); (case a4 => k_is); (case l4 => k_is); (case e4 => k_is); (case k4 => k_is); (case a5 => k_is); (case l5 => k_is); (case e5 => k_is); (case k5 => k_is); (case a6 => k_is); (case l6 => k_is); (case e6 => k_is); (case k6 => k_is); (case a7 => k_is); (case l7 => k_is); (case e7 => k_is); (case k7 => k_is); (case a8 => k_is); (case l8 => k_is); (case e8 => k_is); (case k8 => k_is); (case a9 => k_is); (case l9 => k_is); (case e9 => k_is); (case k9 => k_is); (case a10 => k_is); (case l10 => k_is); (case e10 => k_is); (case k10 => k_is); (case a11 => k_is); (case l11 => k_is); (case e11 => k_is); (case k11 => k_is); (case a12 => k_is); (case l12 => k_is); (case e12 => k_is); (case k12 => k_is); (case a13 => k_is); (case l13 => k_is); (case e13 => k_is); (case k13 => k_is); (case a14 => k_is); (case l14 => k_is); (case t14 => k_is); (case e14 => k_is); (case k14 => k_is); (case a15 => k_is); (case l15 => k_is); (case e15 => k_is); (case k15 => k_is); (case a16 => k_is); (case l16 => k_is); (case e16 => k_is); (case k16 => k_is); (case a17 => k_is); (case l17 => k_is); (case e17 => k_is); (case k17 => k_is); (case a18 => k_is); (case l18 => k_is); (case e18 => k_is); (case k18 => k_is); (case a19 => k_is); (case l19 => k_is); (case e19 => k_is); (case k19 => k_is); (case a20 => k_is); (case l20 => k_is); (case e20 => k_is); (case k20 => k_is); (case a21 => k_is); (case l21 => k_is); (case e21 => k_is); (case k21 => k_is); (case a22 => k_is); (case l22 => k_is); (case e22 => k_is); (case k22 => k_is); (case a23 => k_is); (case l23 => k_is); (case e23 => k_is); (case k23 => k_is); (case a24 => k_is); (case l24 => k_is); (case e24 => k_is); (case k24 => k_is); (case a25 => k_is); (case l25 => k_is); (case e25 => k_is); (case k25 => k_is); (case a26 => k_is); (case l26 => k_is); (case e26 => k_is); (case k26 => k_is); (case a27 => k_is); (case l27 => k_is); (case e27 => k_is); (case k27 => k_is); (case a28 => k_is); (case l28 => k_is); (case e28 => k_is); (case k28 => k_is); (case a29 => k_is); (case l29 => k_is); (case e29 => k_is); (case k29 => k_is); (case a30 => k_is); (case l30 => k_is); (case e30 => k_is); (case k30 => k_is); (case a31 => k_is); (case l31 => k_is); (case e31 => k_is); (case k31 => k_is); (case a32 => k_is); (case l32 => k_is); (case e32 => k_is); (case k32 => k_is); (case a33 => k_is); (case l33 => k_is); (case e33 => k_is); (case k33 => k_is); (case a34 => k_is); (case l34 => k_is); (case e34 => k_is); (case k34 => k_is); (case a35 => k_is); (case l35 => k_is); (case e35 => k_is); (case k35 => k_is); (case aRR => k_is); (case rR => kernel_rfl); (case cR => k_is); (case iI0 => k_is); (case lI0 => k_is); (case eI0 => k_is); (case kI0 => k_is); (case xI0 => kernel_rfl); (case iI1 => k_is); (case lI1 => k_is); (case eI1 => k_is); (case kI1 => k_is); (case xI1 => kernel_rfl); (case iI2 => k_is); (case lI2 => k_is); (case eI2 => k_is); (case kI2 => k_is); (case xI2 => kernel_rfl); (case y_BadSizes_BadSizes => kernel_rfl); (case y_BadSizes_BadCounts => kernel_rfl); (case y_BadSizes_NoLot => kernel_rfl); (case y_BadCounts_BadSizes => kernel_rfl); (case y_BadCounts_BadCounts => kernel_rfl); (case y_BadCounts_NoLot => kernel_rfl); (case y_NoLot_BadSizes => kernel_rfl); (case y_NoLot_BadCounts => kernel_rfl); (case y_NoLot_NoLot => kernel_rfl); (case z_abs => k_is); (case z_all => k_is); (case z_bool => k_is); (case z_int => k_is); (case z_isinstance => k_is); (case z_len => k_is); (case z_list => k_is); (case z_max => k_is); (case z_min => k_is); (case z_range => k_is); (case z_str => k_is); (case z_sum => k_is); (case z_tuple => k_is); (case z_zip => k_is); (case g_MOST_SIDE => k_is)
