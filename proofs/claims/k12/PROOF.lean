import PyProof.Rows.All
import Wide.All
import OpenK.AllK
import Wide.FinOn
import HandS.ForMost
import HandS.Exc
import HandS.TryMany
import HandS.Wide
import HandS.IsInst
import HandS.TupAny
import HandS.TupMul
import HandS.Flow
import HandS.Rev
import HandS.RevRange
import HandS.Zip
import HandS.CallSlots
import HandS.WordsExc
import HandS.Deep
import HandS.ExcInit
import HandS.ExcField
import HandS.ClsMeth
import HandS.Defaults
import HandS.RaiseMore
import PyProof.P3Eq
import KE.KTupSum
import PySem.Challenge.RW_rankwords_k12_whole_met_counts_of_great
set_option Elab.async false
set_option linter.all false
set_option maxRecDepth 100000
set_option maxHeartbeats 1000000
/-! VM 1: plain data, how it lies in the heap, environments with ownership -/
namespace VM
open PySem PySem.Spec PyProof.Rows L2

inductive D where
  | non | bl (b : Bool) | int (i : Int) | str (s : Str) | scr (ns : List Int)
  | ty (n : String) | cl (c : Nat)
  | lst (xs : List D) | tup (xs : List D) | ins (c : Nat) (ns : List Str) (xs : List D)
instance : Inhabited D := ⟨.non⟩
/-- flat: holds no object -/
def D.flat : D → Bool
  | .non | .bl _ | .int _ | .str _ | .ty _ | .cl _ => true
  | _ => false

structure Ct where
  K : PySem.W.Frag
  cm : Nat → Addr

def Ex (H H' : Hp) : Prop := ∀ a o, H a = some o → H' a = some o
theorem Ex.refl (H : Hp) : Ex H H := fun _ _ h => h
theorem Ex.trans {H H1 H2 : Hp} (a : Ex H H1) (b : Ex H1 H2) : Ex H H2 := fun x o h => b x o (a x o h)
theorem Ex.new {H : Hp} {p : Addr} {o : HO} (h : H p = none) : Ex H (upd H p o) := fun a u e => by
  rw [upd_ne (ne_of_none e h)]; exact e
theorem Ex.mut {H H' : Hp} {p : Addr} {o : HO} (e : Ex H H') (h : H p = none) : Ex H (upd H' p o) := fun a u ha => by
  rw [upd_ne (ne_of_none ha h)]; exact e a u ha
theorem Ex.back {H H' : Hp} {p : Addr} (e : Ex H H') (h : H' p = none) : H p = none := by
  cases h1 : H p with
  | none => rfl
  | some o => rw [e p o h1] at h; cases h
theorem Ex.updB {H H' : Hp} {p : Addr} {o : HO} (e : Ex H H') (h : H' p = some o) : Ex (upd H p o) H' := fun a u ha => by
  by_cases q : a = p
  · subst q; rw [upd_same] at ha; cases ha; exact h
  · rw [upd_ne q] at ha; exact e a u ha
theorem ex_rd {H H' : Hp} {a : Addr} {u : HO} (e : Ex H H') (h : Rd H a u) : Rd H' a u := by
  rcases h with h | ⟨o, h⟩
  · exact Or.inl (e a _ h)
  · exact Or.inr ⟨o, e a _ h⟩
theorem ex_l {K : PySem.W.Frag} {H H' : Hp} {a : Addr} {xs : List V} (e : Ex H H') (h : SqL K H a xs) : SqL K H' a xs := by
  rcases h with h | h
  · exact Or.inl (ex_rd e h)
  · exact Or.inr h

mutual
/-- v stands for d in H -/
def Rp (C : Ct) (H : Hp) : D → V → Prop
  | .non, v => v = .non
  | .bl b, v => v = .bl b
  | .int i, v => v = .int i
  | .str s, v => v = .str s
  | .ty n, v => v = .ty n
  | .cl c, v => v = .ref (C.cm c)
  | .scr ns, v => ∃ a, v = .ref a ∧ SqL C.K H a (ns.map V.int)
  | .lst xs, v => ∃ a vs, v = .ref a ∧ H a = some (.lst vs) ∧ RpL C H xs vs
  | .tup xs, v => ∃ a vs, v = .ref a ∧ H a = some (.tup vs) ∧ RpL C H xs vs
  | .ins c ns xs, v => ∃ a dx vs, v = .ref a ∧ H a = some (.ins (C.cm c) dx (ns.zip vs)) ∧ H dx = some (.own a) ∧ ns.length = vs.length ∧ RpL C H xs vs
def RpL (C : Ct) (H : Hp) : List D → List V → Prop
  | [], vs => vs = []
  | d :: ds, vs => ∃ v r, vs = v :: r ∧ Rp C H d v ∧ RpL C H ds r
end
section
variable {C : Ct} {H H' : Hp}
mutual
theorem Rp.mono (e : Ex H H') : ∀ {d : D} {v : V}, Rp C H d v → Rp C H' d v
  | .non, _, h => h
  | .bl _, _, h => h
  | .int _, _, h => h
  | .str _, _, h => h
  | .ty _, _, h => h
  | .cl _, _, h => h
  | .scr ns, v, h => by
    unfold Rp at h ⊢
    obtain ⟨a, rfl, h⟩ := h
    exact ⟨a, rfl, ex_l e h⟩
  | .lst xs, v, h => by
    unfold Rp at h ⊢
    obtain ⟨a, vs, rfl, h1, h2⟩ := h
    exact ⟨a, vs, rfl, e _ _ h1, RpL.mono e h2⟩
  | .tup xs, v, h => by
    unfold Rp at h ⊢
    obtain ⟨a, vs, rfl, h1, h2⟩ := h
    exact ⟨a, vs, rfl, e _ _ h1, RpL.mono e h2⟩
  | .ins c ns xs, v, h => by
    unfold Rp at h ⊢
    obtain ⟨a, dx, vs, rfl, h1, h2, h3, h4⟩ := h
    exact ⟨a, dx, vs, rfl, e _ _ h1, e _ _ h2, h3, RpL.mono e h4⟩
theorem RpL.mono (e : Ex H H') : ∀ {ds : List D} {vs : List V}, RpL C H ds vs → RpL C H' ds vs
  | [], _, h => by unfold RpL at h ⊢; exact h
  | d :: ds, vs, h => by
    unfold RpL at h ⊢
    obtain ⟨v, r, rfl, h1, h2⟩ := h
    exact ⟨v, r, rfl, Rp.mono e h1, RpL.mono e h2⟩
end
theorem RpL.nil : RpL C H [] [] := by unfold RpL; rfl
theorem RpL.cons {d : D} {v : V} {ds : List D} {vs : List V} (h : Rp C H d v) (t : RpL C H ds vs) : RpL C H (d :: ds) (v :: vs) := by
  unfold RpL; exact ⟨v, vs, rfl, h, t⟩
theorem RpL.len : ∀ {ds : List D} {vs : List V}, RpL C H ds vs → ds.length = vs.length
  | [], _, h => by unfold RpL at h; subst h; rfl
  | d :: ds, vs, h => by
    unfold RpL at h
    obtain ⟨v, r, rfl, h1, h2⟩ := h
    simp [RpL.len h2]
theorem RpL.get : ∀ {ds : List D} {vs : List V} {i : Nat} {d : D}, RpL C H ds vs → ds[i]? = some d → ∃ v, vs[i]? = some v ∧ Rp C H d v
  | [], _, _, _, _, e => by simp at e
  | d :: ds, vs, i, x, h, e => by
    unfold RpL at h
    obtain ⟨v, r, rfl, h1, h2⟩ := h
    cases i with
    | zero => simp at e; subst e; exact ⟨v, rfl, h1⟩
    | succ i => simpa using RpL.get h2 (by simpa using e)
theorem RpL.getV : ∀ {ds : List D} {vs : List V} {i : Nat} {v : V}, RpL C H ds vs → vs[i]? = some v → ∃ d, ds[i]? = some d ∧ Rp C H d v
  | [], _, _, _, h, e => by unfold RpL at h; subst h; simp at e
  | d :: ds, vs, i, x, h, e => by
    unfold RpL at h
    obtain ⟨v, r, rfl, h1, h2⟩ := h
    cases i with
    | zero => simp at e; subst e; exact ⟨d, rfl, h1⟩
    | succ i => simpa using RpL.getV h2 (by simpa using e)
theorem RpL.append : ∀ {ds es : List D} {vs ws : List V}, RpL C H ds vs → RpL C H es ws → RpL C H (ds ++ es) (vs ++ ws)
  | [], _, _, _, h, t => by unfold RpL at h; subst h; exact t
  | d :: ds, _, _, _, h, t => by
    unfold RpL at h
    obtain ⟨v, r, rfl, h1, h2⟩ := h
    exact RpL.cons h1 (RpL.append h2 t)
theorem RpL.set : ∀ {ds : List D} {vs : List V} {i : Nat} {d : D} {v : V}, RpL C H ds vs → Rp C H d v → RpL C H (ds.set i d) (vs.set i v)
  | [], _, _, _, _, h, _ => by unfold RpL at h; subst h; exact RpL.nil
  | d :: ds, vs, i, x, y, h, q => by
    unfold RpL at h
    obtain ⟨v, r, rfl, h1, h2⟩ := h
    cases i with
    | zero => exact RpL.cons q h2
    | succ i => exact RpL.cons h1 (RpL.set h2 q)
theorem RpL.take : ∀ {ds : List D} {vs : List V} (n : Nat), RpL C H ds vs → RpL C H (ds.take n) (vs.take n)
  | [], _, _, h => by unfold RpL at h; subst h; simp; exact RpL.nil
  | d :: ds, vs, n, h => by
    unfold RpL at h
    obtain ⟨v, r, rfl, h1, h2⟩ := h
    cases n with
    | zero => exact RpL.nil
    | succ n => exact RpL.cons h1 (RpL.take n h2)
theorem RpL.drop : ∀ {ds : List D} {vs : List V} (n : Nat), RpL C H ds vs → RpL C H (ds.drop n) (vs.drop n)
  | [], _, _, h => by unfold RpL at h; subst h; simp; exact RpL.nil
  | d :: ds, vs, n, h => by
    have h' := h
    unfold RpL at h'
    obtain ⟨v, r, rfl, h1, h2⟩ := h'
    cases n with
    | zero => exact h
    | succ n => exact RpL.drop n h2
theorem RpL.reverse : ∀ {ds : List D} {vs : List V}, RpL C H ds vs → RpL C H ds.reverse vs.reverse
  | [], _, h => by unfold RpL at h; subst h; exact RpL.nil
  | d :: ds, vs, h => by
    unfold RpL at h
    obtain ⟨v, r, rfl, h1, h2⟩ := h
    rw [List.reverse_cons, List.reverse_cons]
    exact RpL.append (RpL.reverse h2) (RpL.cons h1 RpL.nil)
theorem RpL.inv {d : D} {ds : List D} {vs : List V} (h : RpL C H (d :: ds) vs) : ∃ v r, vs = v :: r ∧ Rp C H d v ∧ RpL C H ds r := by
  unfold RpL at h; exact h
end

/-! ### objects owned by a slot: known to no one else -/
/-- at a stands d, its inner things in Hk; G, what others may rely on, does not know it -/
def OwA (C : Ct) (G Hk H : Hp) (a : Addr) : D → Prop
  | .lst xs => G a = none ∧ ∃ vs, H a = some (.lst vs) ∧ RpL C Hk xs vs
  | .ins c ns xs => G a = none ∧ ∃ dx vs, H a = some (.ins (C.cm c) dx (ns.zip vs)) ∧ H dx = some (.own a) ∧ ns.length = vs.length ∧ RpL C Hk xs vs ∧ G dx = none
  | _ => False
section
variable {C : Ct} {G Hk Hk' H H' : Hp} {a b : Addr} {d : D} {o : HO}
theorem OwA.kmono (e : Ex Hk Hk') (h : OwA C G Hk H a d) : OwA C G Hk' H a d := by
  cases d with
  | lst xs => obtain ⟨g, vs, h1, h2⟩ := h; exact ⟨g, vs, h1, h2.mono e⟩
  | ins c ns xs => obtain ⟨g, dx, vs, h1, h2, h3, h4, h5⟩ := h; exact ⟨g, dx, vs, h1, h2, h3, h4.mono e, h5⟩
  | _ => exact h.elim
theorem OwA.hmono (e : Ex H H') (h : OwA C G Hk H a d) : OwA C G Hk H' a d := by
  cases d with
  | lst xs => obtain ⟨g, vs, h1, h2⟩ := h; exact ⟨g, vs, e _ _ h1, h2⟩
  | ins c ns xs => obtain ⟨g, dx, vs, h1, h2, h3, h4, h5⟩ := h; exact ⟨g, dx, vs, e _ _ h1, e _ _ h2, h3, h4, h5⟩
  | _ => exact h.elim
theorem OwA.gmono {G' : Hp} (e : Ex G' G) (h : OwA C G Hk H a d) : OwA C G' Hk H a d := by
  cases d with
  | lst xs => obtain ⟨g, vs, h1, h2⟩ := h; exact ⟨e.back g, vs, h1, h2⟩
  | ins c ns xs => obtain ⟨g, dx, vs, h1, h2, h3, h4, h5⟩ := h; exact ⟨e.back g, dx, vs, h1, h2, h3, h4, e.back h5⟩
  | _ => exact h.elim
theorem OwA.g (h : OwA C G Hk H a d) : G a = none := by
  cases d with
  | lst xs => exact h.1
  | ins c ns xs => exact h.1
  | _ => exact h.elim
/-- an owned object is a list or an instance -/
def isOw : HO → Prop
  | .lst _ => True
  | .ins _ _ _ => True
  | _ => False
theorem OwA.at (h : OwA C G Hk H a d) : ∃ o, H a = some o ∧ isOw o := by
  cases d with
  | lst xs => obtain ⟨g, vs, h1, h2⟩ := h; exact ⟨_, h1, trivial⟩
  | ins c ns xs => obtain ⟨g, dx, vs, h1, h2, h3, h4, h5⟩ := h; exact ⟨_, h1, trivial⟩
  | _ => exact h.elim
/-- another owned object changes -/
theorem OwA.other (h : OwA C G Hk H a d) (hb : ∃ u, H b = some u ∧ isOw u) (ne : a ≠ b) : OwA C G Hk (upd H b o) a d := by
  cases d with
  | lst xs => obtain ⟨g, vs, h1, h2⟩ := h; exact ⟨g, vs, by rw [upd_ne ne]; exact h1, h2⟩
  | ins c ns xs =>
    obtain ⟨g, dx, vs, h1, h2, h3, h4, h5⟩ := h
    refine ⟨g, dx, vs, by rw [upd_ne ne]; exact h1, ?_, h3, h4, h5⟩
    obtain ⟨u, hu, iu⟩ := hb
    have : dx ≠ b := fun e => by subst e; rw [h2] at hu; cases hu; exact iu
    rw [upd_ne this]; exact h2
  | _ => exact h.elim
end

/-- v stands for d, its inner things in Hk, itself in H: shared or owned -/
def Pk (C : Ct) (Hk H : Hp) (d : D) (v : V) : Prop := Rp C Hk d v ∨ ∃ a G, v = .ref a ∧ OwA C G Hk H a d
section
variable {C : Ct} {Hk H : Hp}
theorem Pk.lst {xs : List D} {v : V} (e : Ex Hk H) (h : Pk C Hk H (.lst xs) v) : ∃ a vs, v = .ref a ∧ H a = some (.lst vs) ∧ RpL C Hk xs vs := by
  rcases h with h | ⟨a, G, rfl, g, vs, h1, h2⟩
  · unfold Rp at h
    obtain ⟨a, vs, rfl, h1, h2⟩ := h
    exact ⟨a, vs, rfl, e _ _ h1, h2⟩
  · exact ⟨a, vs, rfl, h1, h2⟩
theorem Pk.tup {xs : List D} {v : V} (e : Ex Hk H) (h : Pk C Hk H (.tup xs) v) : ∃ a vs, v = .ref a ∧ H a = some (.tup vs) ∧ RpL C Hk xs vs ∧ Rp C Hk (.tup xs) v := by
  rcases h with h | ⟨a, G, rfl, h⟩
  · have h' := h
    unfold Rp at h
    obtain ⟨a, vs, rfl, h1, h2⟩ := h
    exact ⟨a, vs, rfl, e _ _ h1, h2, h'⟩
  · exact h.elim
theorem Pk.ins {c : Nat} {ns : List Str} {xs : List D} {v : V} (e : Ex Hk H) (h : Pk C Hk H (.ins c ns xs) v) :
    ∃ a dx vs, v = .ref a ∧ H a = some (.ins (C.cm c) dx (ns.zip vs)) ∧ H dx = some (.own a) ∧ ns.length = vs.length ∧ RpL C Hk xs vs := by
  rcases h with h | ⟨a, G, rfl, g, dx, vs, h1, h2, h3, h4, h5⟩
  · unfold Rp at h
    obtain ⟨a, dx, vs, rfl, h1, h2, h3, h4⟩ := h
    exact ⟨a, dx, vs, rfl, e _ _ h1, e _ _ h2, h3, h4⟩
  · exact ⟨a, dx, vs, rfl, h1, h2, h3, h4⟩
theorem Pk.scr {ns : List Int} {v : V} (e : Ex Hk H) (h : Pk C Hk H (.scr ns) v) : ∃ a, v = .ref a ∧ SqL C.K H a (ns.map V.int) := by
  rcases h with h | ⟨a, G, rfl, h⟩
  · unfold Rp at h
    obtain ⟨a, rfl, h⟩ := h
    exact ⟨a, rfl, ex_l e h⟩
  · exact h.elim
theorem Pk.int {i : Int} {v : V} (h : Pk C Hk H (.int i) v) : v = .int i := by
  rcases h with h | ⟨a, G, rfl, h⟩
  · unfold Rp at h; exact h
  · exact h.elim
theorem Pk.bl {b : Bool} {v : V} (h : Pk C Hk H (.bl b) v) : v = .bl b := by
  rcases h with h | ⟨a, G, rfl, h⟩
  · unfold Rp at h; exact h
  · exact h.elim
theorem Pk.non {v : V} (h : Pk C Hk H .non v) : v = .non := by
  rcases h with h | ⟨a, G, rfl, h⟩
  · unfold Rp at h; exact h
  · exact h.elim
theorem Pk.str {s : Str} {v : V} (h : Pk C Hk H (.str s) v) : v = .str s := by
  rcases h with h | ⟨a, G, rfl, h⟩
  · unfold Rp at h; exact h
  · exact h.elim
theorem Pk.ty {n : String} {v : V} (h : Pk C Hk H (.ty n) v) : v = .ty n := by
  rcases h with h | ⟨a, G, rfl, h⟩
  · unfold Rp at h; exact h
  · exact h.elim
theorem Pk.cl {c : Nat} {v : V} (h : Pk C Hk H (.cl c) v) : v = .ref (C.cm c) := by
  rcases h with h | ⟨a, G, rfl, h⟩
  · unfold Rp at h; exact h
  · exact h.elim
/-- in all of H it is known -/
theorem Pk.all {d : D} {v : V} (e : Ex Hk H) (h : Pk C Hk H d v) : Rp C H d v := by
  rcases h with h | ⟨a, G, rfl, h⟩
  · exact h.mono e
  · cases d with
    | lst xs => obtain ⟨g, vs, h1, h2⟩ := h; unfold Rp; exact ⟨a, vs, rfl, h1, h2.mono e⟩
    | ins c ns xs => obtain ⟨g, dx, vs, h1, h2, h3, h4, h5⟩ := h; unfold Rp; exact ⟨a, dx, vs, rfl, h1, h2, h3, h4.mono e⟩
    | _ => exact h.elim
end
theorem rp_int {C : Ct} {H : Hp} {i : Int} : Rp C H (.int i) (.int i) := by unfold Rp; rfl
theorem rp_bl {C : Ct} {H : Hp} {b : Bool} : Rp C H (.bl b) (.bl b) := by unfold Rp; rfl
theorem rp_non {C : Ct} {H : Hp} : Rp C H .non .non := by unfold Rp; rfl
theorem rp_str {C : Ct} {H : Hp} {s : Str} : Rp C H (.str s) (.str s) := by unfold Rp; rfl
theorem rp_flat {C : Ct} {H H' : Hp} {d : D} {v : V} (f : d.flat = true) (h : Rp C H d v) : Rp C H' d v := by
  cases d <;> first | (simp [D.flat] at f; done) | (unfold Rp at h ⊢; exact h)

/-! ### environments -/
inductive S where
  | no | sh (d : D) | ow (d : D) | xv (c : Nat) (ns : List Str) (ds : List D)
instance : Inhabited S := ⟨.no⟩
abbrev Env := List S

/-- an exception: its class and attributes -/
def RpX (C : Ct) (Hk H : Hp) (c : Nat) (ns : List Str) (ds : List D) (cls : Value) (dd : Option Addr) : Prop :=
  cls = .ref (C.cm c) ∧ ((ns = [] ∧ ds = []) ∨ ∃ d vs, dd = some d ∧ H d = some (.xd (ns.zip vs)) ∧ ns.length = vs.length ∧ RpL C Hk ds vs)
theorem RpX.kmono {C : Ct} {Hk Hk' H : Hp} {c : Nat} {ns : List Str} {ds : List D} {cls : Value} {dd : Option Addr} (e : Ex Hk Hk') (h : RpX C Hk H c ns ds cls dd) : RpX C Hk' H c ns ds cls dd := by
  obtain ⟨h1, h | ⟨d, vs, h2, h3, h4, h5⟩⟩ := h
  · exact ⟨h1, .inl h⟩
  · exact ⟨h1, .inr ⟨d, vs, h2, h3, h4, h5.mono e⟩⟩
theorem RpX.hmono {C : Ct} {Hk H H' : Hp} {c : Nat} {ns : List Str} {ds : List D} {cls : Value} {dd : Option Addr} (e : Ex H H') (h : RpX C Hk H c ns ds cls dd) : RpX C Hk H' c ns ds cls dd := by
  obtain ⟨h1, h | ⟨d, vs, h2, h3, h4, h5⟩⟩ := h
  · exact ⟨h1, .inl h⟩
  · exact ⟨h1, .inr ⟨d, vs, h2, e _ _ h3, h4, h5⟩⟩
theorem RpX.other {C : Ct} {Hk H : Hp} {c : Nat} {ns : List Str} {ds : List D} {cls : Value} {dd : Option Addr} {b : Addr} {o : HO} (hb : ∃ u, H b = some u ∧ isOw u) (h : RpX C Hk H c ns ds cls dd) : RpX C Hk (upd H b o) c ns ds cls dd := by
  obtain ⟨h1, h | ⟨d, vs, h2, h3, h4, h5⟩⟩ := h
  · exact ⟨h1, .inl h⟩
  · refine ⟨h1, .inr ⟨d, vs, h2, ?_, h4, h5⟩⟩
    obtain ⟨u, hu, iu⟩ := hb
    have : d ≠ b := fun e => by subst e; rw [h3] at hu; cases hu; exact iu
    rw [upd_ne this]; exact h3

/-- more is known than before; what is new was not there for others -/
structure Kx (G Hk Hk' : Hp) : Prop where
  ex : Ex Hk Hk'
  new : ∀ b o, Hk' b = some o → Hk b = none → G b = none
theorem Kx.refl (G H : Hp) : Kx G H H := ⟨Ex.refl H, fun b o h n => by rw [n] at h; cases h⟩
theorem Kx.trans {G H H1 H2 : Hp} (a : Kx G H H1) (b : Kx G H1 H2) : Kx G H H2 := ⟨a.ex.trans b.ex, fun x o h n => by
  cases q : H1 x with
  | none => exact b.new x o h q
  | some u => exact a.new x u q n⟩

/-- the exception at hand; the address that slot 0 owns, if it is the caller's -/
structure Xa where
  x : Option (Addr × Value × Option Addr)
  p : Option Addr
structure RE (C : Ct) (xa : Xa) (G : Hp) (env : Env) (σ : L2.St) (Hk H : Hp) : Prop where
  len : env.length = σ.length
  hk : Ex Hk H
  g : Ex G H
  sh : ∀ (i : Nat) (d : D), env[i]? = some (.sh d) → ∃ v, σ[i]? = some (some v) ∧ Rp C Hk d v
  ow : ∀ (i : Nat) (d : D), env[i]? = some (.ow d) → ∃ a, σ[i]? = some (some (.ref a)) ∧ Hk a = none ∧ OwA C G Hk H a d
  inj : ∀ (i j : Nat) (d d' : D) (a : Addr), env[i]? = some (.ow d) → env[j]? = some (.ow d') → σ[i]? = some (some (.ref a)) → σ[j]? = some (some (.ref a)) → i = j
  xv : ∀ (i : Nat) (c : Nat) (ns : List Str) (ds : List D), env[i]? = some (.xv c ns ds) → ∃ a cls dd, xa.x = some (a, cls, dd) ∧ σ[i]? = some (some (.ref a)) ∧ RpX C Hk H c ns ds cls dd
  pn : ∀ (a : Addr) (d : D), xa.p = some a → env[0]? = some (.ow d) → σ[0]? = some (some (.ref a))

theorem set_get {α : Type} {l : List α} {i j : Nat} {x y : α} (h : (l.set i x)[j]? = some y) : (i = j ∧ i < l.length ∧ y = x) ∨ (i ≠ j ∧ l[j]? = some y) := by
  by_cases e : i = j
  · subst e
    by_cases hl : i < l.length
    · rw [List.getElem?_set_self hl] at h
      cases h
      exact .inl ⟨rfl, hl, rfl⟩
    · rw [List.getElem?_eq_none (by simpa using hl)] at h
      cases h
  · rw [List.getElem?_set_ne e] at h
    exact .inr ⟨e, h⟩
theorem set_id {α : Type} {l : List α} {k : Nat} {x : α} (h : l[k]? = some x) : l.set k x = l := by
  apply List.ext_getElem?
  intro j
  by_cases q : k = j
  · subst q
    obtain ⟨hl, _⟩ := List.getElem?_eq_some_iff.mp h
    rw [List.getElem?_set_self hl, h]
  · rw [List.getElem?_set_ne q]
section
variable {C : Ct} {xa : Xa} {G : Hp} {env : Env} {σ : L2.St} {Hk H H' : Hp}
/-- the heap grows -/
theorem RE.ext (r : RE C xa G env σ Hk H) (e : Ex H H') : RE C xa G env σ Hk H' :=
  ⟨r.len, r.hk.trans e, r.g.trans e, r.sh, fun i d h => by
    obtain ⟨a, h1, h2, h3⟩ := r.ow i d h
    exact ⟨a, h1, h2, h3.hmono e⟩, r.inj, fun i c ns ds h => by
    obtain ⟨a, cls, dd, h1, h2, h3⟩ := r.xv i c ns ds h
    exact ⟨a, cls, dd, h1, h2, h3.hmono e⟩, r.pn⟩
/-- more is known, of nothing that is owned -/
theorem RE.know {Hk' : Hp} (r : RE C xa G env σ Hk H) (e : Ex Hk Hk') (e2 : Ex Hk' H) (hn : ∀ (i : Nat) (d : D) (a : Addr), env[i]? = some (.ow d) → σ[i]? = some (some (.ref a)) → Hk' a = none) : RE C xa G env σ Hk' H :=
  ⟨r.len, e2, r.g, fun i d h => by
    obtain ⟨v, h1, h2⟩ := r.sh i d h
    exact ⟨v, h1, h2.mono e⟩, fun i d h => by
    obtain ⟨a, h1, h2, h3⟩ := r.ow i d h
    exact ⟨a, h1, hn i d a h h1, h3.kmono e⟩, r.inj, fun i c ns ds h => by
    obtain ⟨a, cls, dd, h1, h2, h3⟩ := r.xv i c ns ds h
    exact ⟨a, cls, dd, h1, h2, h3.kmono e⟩, r.pn⟩
/-- an owned address is in H -/
theorem RE.owAt (r : RE C xa G env σ Hk H) {i : Nat} {d : D} {a : Addr} (h : env[i]? = some (.ow d)) (hs : σ[i]? = some (some (.ref a))) : Hk a = none ∧ OwA C G Hk H a d := by
  obtain ⟨b, h1, h2, h3⟩ := r.ow i d h
  rw [hs] at h1
  cases h1
  exact ⟨h2, h3⟩
/-- a slot is forgotten -/
theorem RE.drop (r : RE C xa G env σ Hk H) (k : Nat) : RE C xa G (env.set k .no) σ Hk H :=
  ⟨by rw [List.length_set]; exact r.len, r.hk, r.g,
   fun i d h => by
    rcases set_get h with ⟨_, _, e⟩ | ⟨_, h⟩
    · cases e
    · exact r.sh i d h,
   fun i d h => by
    rcases set_get h with ⟨_, _, e⟩ | ⟨_, h⟩
    · cases e
    · exact r.ow i d h,
   fun i j d d' a h1 h2 s1 s2 => by
    rcases set_get h1 with ⟨_, _, e⟩ | ⟨_, h1⟩
    · cases e
    · rcases set_get h2 with ⟨_, _, e⟩ | ⟨_, h2⟩
      · cases e
      · exact r.inj i j d d' a h1 h2 s1 s2,
   fun i c ns ds h => by
    rcases set_get h with ⟨_, _, e⟩ | ⟨_, h⟩
    · cases e
    · exact r.xv i c ns ds h,
   fun a d hp h => by
    rcases set_get h with ⟨_, _, e⟩ | ⟨_, h⟩
    · cases e
    · exact r.pn a d hp h⟩
/-- the slot's value itself may then be anything -/
theorem RE.dropSet (r : RE C xa G env σ Hk H) (k : Nat) (o : Option V) : RE C xa G (env.set k .no) (σ.set k o) Hk H := by
  have r := r.drop k
  have ne : ∀ {i : Nat} {x : S}, (env.set k .no)[i]? = some x → x ≠ .no → k ≠ i := fun {i x} h hx e => by
    rcases set_get h with ⟨_, _, e2⟩ | ⟨e2, _⟩
    · exact hx e2
    · exact e2 e
  refine ⟨by rw [List.length_set]; simpa using r.len, r.hk, r.g, fun i d h => ?_, fun i d h => ?_, fun i j d d' a h1 h2 s1 s2 => ?_, fun i c ns ds h => ?_, fun a d hp h => ?_⟩
  · rw [List.getElem?_set_ne (ne h (fun e => by cases e))]; exact r.sh i d h
  · rw [List.getElem?_set_ne (ne h (fun e => by cases e))]; exact r.ow i d h
  · rw [List.getElem?_set_ne (ne h1 (fun e => by cases e))] at s1
    rw [List.getElem?_set_ne (ne h2 (fun e => by cases e))] at s2
    exact r.inj i j d d' a h1 h2 s1 s2
  · rw [List.getElem?_set_ne (ne h (fun e => by cases e))]; exact r.xv i c ns ds h
  · rw [List.getElem?_set_ne (ne h (fun e => by cases e))]; exact r.pn a d hp h
/-- a slot's value is another, shared -/
theorem RE.setSh (r : RE C xa G env σ Hk H) {k : Nat} {d : D} {v : V} (q : Rp C Hk d v) : RE C xa G (env.set k (.sh d)) (σ.set k (some v)) Hk H := by
  have r0 := r.dropSet k (some v)
  have el : (env.set k (.sh d)) = (env.set k .no).set k (.sh d) := by rw [List.set_set]
  rw [el]
  refine ⟨by simpa using r.len, r.hk, r.g, fun i x h => ?_, fun i x h => ?_, fun i j x x' a h1 h2 s1 s2 => ?_, fun i c ns ds h => ?_, fun a x hp h => ?_⟩
  · rcases set_get h with ⟨e, hl, e2⟩ | ⟨e, h⟩
    · subst e
      cases e2
      refine ⟨v, ?_, q⟩
      rw [List.getElem?_set_self]
      rw [← r.len]
      simpa using hl
    · exact r0.sh i x h
  · rcases set_get h with ⟨_, _, e⟩ | ⟨e, h⟩
    · cases e
    · exact r0.ow i x h
  · rcases set_get h1 with ⟨_, _, e⟩ | ⟨e1, h1⟩
    · cases e
    · rcases set_get h2 with ⟨_, _, e⟩ | ⟨e2, h2⟩
      · cases e
      · exact r0.inj i j x x' a h1 h2 s1 s2
  · rcases set_get h with ⟨_, _, e⟩ | ⟨e, h⟩
    · cases e
    · exact r0.xv i c ns ds h
  · rcases set_get h with ⟨_, _, e⟩ | ⟨e, h⟩
    · cases e
    · exact r0.pn a x hp h
/-- .. owned, at an address that no slot owns -/
theorem RE.setOw (r : RE C xa G env σ Hk H) {k : Nat} {d : D} {a : Addr} (h0 : k ≠ 0 ∨ xa.p = none) (hk : Hk a = none) (q : OwA C G Hk H a d) (hn : ∀ (i : Nat) (d' : D), env[i]? = some (.ow d') → σ[i]? ≠ some (some (.ref a))) : RE C xa G (env.set k (.ow d)) (σ.set k (some (.ref a))) Hk H := by
  have r0 := r.dropSet k (some (.ref a))
  have el : (env.set k (.ow d)) = (env.set k .no).set k (.ow d) := by rw [List.set_set]
  have hn0 : ∀ (i : Nat) (d' : D), (env.set k .no)[i]? = some (.ow d') → (σ.set k (some (.ref a)))[i]? ≠ some (some (.ref a)) := fun i d' h => by
    rcases set_get h with ⟨_, _, e⟩ | ⟨e, h⟩
    · cases e
    · rw [List.getElem?_set_ne e]; exact hn i d' h
  rw [el]
  refine ⟨by simpa using r.len, r.hk, r.g, fun i x h => ?_, fun i x h => ?_, fun i j x x' b h1 h2 s1 s2 => ?_, fun i c ns ds h => ?_, fun b x hp h => ?_⟩
  · rcases set_get h with ⟨_, _, e⟩ | ⟨e, h⟩
    · cases e
    · exact r0.sh i x h
  · rcases set_get h with ⟨e, hl, e2⟩ | ⟨e, h⟩
    · subst e
      cases e2
      refine ⟨a, ?_, hk, q⟩
      rw [List.getElem?_set_self]
      rw [← r.len]
      simpa using hl
    · exact r0.ow i x h
  · rcases set_get h1 with ⟨e1, l1, _⟩ | ⟨e1, h1⟩
    · rcases set_get h2 with ⟨e2, _, _⟩ | ⟨e2, h2⟩
      · exact e1.symm.trans e2
      · subst e1
        rw [List.getElem?_set_self (by rw [← r.len]; simpa using l1)] at s1
        cases s1
        exact absurd s2 (hn0 j x' h2)
    · rcases set_get h2 with ⟨e2, l2, _⟩ | ⟨e2, h2⟩
      · subst e2
        rw [List.getElem?_set_self (by rw [← r.len]; simpa using l2)] at s2
        cases s2
        exact absurd s1 (hn0 i x h1)
      · exact r0.inj i j x x' b h1 h2 s1 s2
  · rcases set_get h with ⟨_, _, e⟩ | ⟨e, h⟩
    · cases e
    · exact r0.xv i c ns ds h
  · rcases set_get h with ⟨e, _, _⟩ | ⟨e, h⟩
    · rcases h0 with h0 | h0
      · exact absurd e h0
      · rw [h0] at hp; cases hp
    · exact r0.pn b x hp h
/-- what is owned at a becomes known -/
theorem own_known {a : Addr} {d : D} (e : Ex Hk H) (h : OwA C G Hk H a d) : ∃ Hk', Kx G Hk Hk' ∧ Ex Hk' H ∧ Rp C Hk' d (.ref a) ∧ ∀ b o, Hk' b = some o → Hk b = none → b = a ∨ o = .own a := by
  cases d with
  | lst xs =>
    obtain ⟨g, vs, h1, h2⟩ := h
    have e1 : Ex Hk (upd Hk a (.lst vs)) := fun b o hb => by
      by_cases q : b = a
      · subst q; rw [upd_same]; have := e _ _ hb; rw [h1] at this; exact this
      · rw [upd_ne q]; exact hb
    have nw : ∀ b o, upd Hk a (.lst vs) b = some o → Hk b = none → b = a := fun b o hb hn => by
      by_cases q : b = a
      · exact q
      · rw [upd_ne q, hn] at hb; cases hb
    refine ⟨upd Hk a (.lst vs), ⟨e1, fun b o hb hn => by rw [nw b o hb hn]; exact g⟩, Ex.updB e h1, ?_, fun b o hb hn => .inl (nw b o hb hn)⟩
    unfold Rp
    exact ⟨a, vs, rfl, upd_same, h2.mono e1⟩
  | ins c ns xs =>
    obtain ⟨g, dx, vs, h1, h2, h3, h4, h5⟩ := h
    have ne : dx ≠ a := fun q => by subst q; rw [h1] at h2; cases h2
    have e1 : Ex Hk (upd (upd Hk dx (.own a)) a (.ins (C.cm c) dx (ns.zip vs))) := fun b o hb => by
      by_cases q : b = a
      · subst q; rw [upd_same]; have := e _ _ hb; rw [h1] at this; exact this
      · rw [upd_ne q]
        by_cases q2 : b = dx
        · subst q2; rw [upd_same]; have := e _ _ hb; rw [h2] at this; exact this
        · rw [upd_ne q2]; exact hb
    have nw : ∀ b o, upd (upd Hk dx (.own a)) a (.ins (C.cm c) dx (ns.zip vs)) b = some o → Hk b = none → b = a ∨ (b = dx ∧ o = .own a) := fun b o hb hn => by
      by_cases q : b = a
      · exact .inl q
      · rw [upd_ne q] at hb
        by_cases q2 : b = dx
        · subst q2; rw [upd_same] at hb; cases hb; exact .inr ⟨rfl, rfl⟩
        · rw [upd_ne q2, hn] at hb; cases hb
    refine ⟨_, ⟨e1, fun b o hb hn => ?_⟩, Ex.updB (Ex.updB e h2) h1, ?_, fun b o hb hn => ?_⟩
    · rcases nw b o hb hn with q | ⟨q, _⟩
      · rw [q]; exact g
      · rw [q]; exact h5
    · unfold Rp
      exact ⟨a, dx, vs, rfl, upd_same, by rw [upd_ne ne]; exact upd_same, h3, h4.mono e1⟩
    · rcases nw b o hb hn with q | ⟨_, q⟩
      · exact .inl q
      · exact .inr q
  | _ => exact h.elim
/-- an object that no slot owns, owned at a, becomes shared -/
theorem RE.settle (r : RE C xa G env σ Hk H) {a : Addr} {d : D} (q : OwA C G Hk H a d) (hn : ∀ (i : Nat) (d' : D), env[i]? = some (.ow d') → σ[i]? ≠ some (some (.ref a))) : ∃ Hk', Kx G Hk Hk' ∧ RE C xa G env σ Hk' H ∧ Rp C Hk' d (.ref a) := by
  obtain ⟨Hk', e1, e2, hr, nw⟩ := own_known r.hk q
  refine ⟨Hk', e1, r.know e1.ex e2 fun i x b hi hb => ?_, hr⟩
  obtain ⟨g1, g2⟩ := r.owAt hi hb
  cases z : Hk' b with
  | none => rfl
  | some o =>
    rcases nw b o z g1 with y | y
    · subst y; exact absurd hb (hn i x hi)
    · obtain ⟨u, hu, iu⟩ := g2.at
      rw [e2 b o z] at hu
      subst y
      cases hu
      exact iu.elim
/-- a slot's object becomes shared -/
theorem RE.freeze (r : RE C xa G env σ Hk H) {k : Nat} {d : D} (h : env[k]? = some (.ow d)) : ∃ Hk', Kx G Hk Hk' ∧ RE C xa G (env.set k (.sh d)) σ Hk' H ∧ ∃ v, σ[k]? = some (some v) ∧ Rp C Hk' d v := by
  obtain ⟨a, h1, h2, h3⟩ := r.ow k d h
  have r1 := r.drop k
  obtain ⟨Hk', e1, r2, hr⟩ := r1.settle (a := a) (d := d) h3 fun i d' hi hs => by
    rcases set_get hi with ⟨_, _, e⟩ | ⟨ne, hi⟩
    · cases e
    · exact ne (r.inj k i d d' a h hi h1 hs)
  refine ⟨Hk', e1, ?_, _, h1, hr⟩
  have hs := r2.setSh (k := k) hr
  rw [List.set_set, set_id h1] at hs
  exact hs
/-- the object that slot k owns changes -/
theorem RE.mut (r : RE C xa G env σ Hk H) {k : Nat} {d d' : D} {a : Addr} {o : HO} (h : env[k]? = some (.ow d)) (hs : σ[k]? = some (some (.ref a))) (q : OwA C G Hk (upd H a o) a d') : RE C xa G (env.set k (.ow d')) σ Hk (upd H a o) := by
  obtain ⟨h2, h4⟩ := r.owAt h hs
  have at4 := h4.at
  refine ⟨by rw [List.length_set]; exact r.len, r.hk.mut h2, r.g.mut h4.g, fun i x hi => ?_, fun i x hi => ?_, fun i j x x' b h1 h2 s1 s2 => ?_, fun i c ns ds hi => ?_, fun b x hp hi => ?_⟩
  · rcases set_get hi with ⟨_, _, e⟩ | ⟨_, hi⟩
    · cases e
    · exact r.sh i x hi
  · rcases set_get hi with ⟨e, _, e2⟩ | ⟨ne, hi⟩
    · subst e
      cases e2
      exact ⟨a, hs, h2, q⟩
    · obtain ⟨b, g1, g2, g4⟩ := r.ow i x hi
      refine ⟨b, g1, g2, g4.other at4 fun e => ?_⟩
      subst e
      exact ne (r.inj k i d x b h hi hs g1)
  · have f : ∀ {m : Nat} {y : D}, (env.set k (.ow d'))[m]? = some (.ow y) → ∃ y', env[m]? = some (.ow y') := fun {m y} hm => by
      rcases set_get hm with ⟨e, _, _⟩ | ⟨_, hm⟩
      · subst e; exact ⟨d, h⟩
      · exact ⟨y, hm⟩
    obtain ⟨y1, k1⟩ := f h1
    obtain ⟨y2, k2⟩ := f h2
    exact r.inj i j y1 y2 b k1 k2 s1 s2
  · rcases set_get hi with ⟨_, _, e⟩ | ⟨_, hi⟩
    · cases e
    · obtain ⟨b, cls, dd, g1, g2, g3⟩ := r.xv i c ns ds hi
      exact ⟨b, cls, dd, g1, g2, g3.other at4⟩
  · rcases set_get hi with ⟨e, _, _⟩ | ⟨_, hi⟩
    · subst e
      exact r.pn b d hp h
    · exact r.pn b x hp hi
end
end VM

set_option Elab.async false
set_option linter.all false
set_option maxRecDepth 100000
set_option maxHeartbeats 1000000
/-! VM 2: what an expression, a test, a statement computes; names, constants, operators -/
namespace VM
open PySem PySem.Spec PyProof.Rows L2

inductive Tk where
  | val (d : D) | slot (k : Nat) | new (d : D)
inductive Rs (α : Type) where
  | ok (a : α) (e : Env) | ex (c : Nat) (ns : List Str) (ds : List D) (e : Env) | bad
abbrev M (α : Type) := Env → Rs α
def mBind {α β : Type} (m : M α) (f : α → M β) : M β := fun env => match m env with
  | .ok a e => f a e
  | .ex c ns ds e => .ex c ns ds e
  | .bad => .bad
def mOf {α : Type} (o : Option α) : M α := fun env => match o with
  | some a => .ok a env
  | none => .bad
/-- a new object is shared from now on -/
def Tk.settle : Tk → Tk
  | .new d => .val d
  | t => t
def look (t : Tk) (env : Env) : Option D := match t with
  | .val d => some d
  | .new d => some d
  | .slot k => match env[k]? with
    | some (.sh d) => some d
    | some (.ow d) => some d
    | _ => none
/-- the value, shared from now on -/
def force (t : Tk) : M D := fun env => match t with
  | .val d => .ok d env
  | .new d => .ok d env
  | .slot k => match env[k]? with
    | some (.sh d) => .ok d env
    | some (.ow d) => .ok d (env.set k (.sh d))
    | _ => .bad

/-- what stands besides: the classes' addresses, the exception at hand, what is wished of exceptions -/
structure Y where
  cm : Nat → Addr
  xa : Xa
  W : WX
abbrev Y.ct (y : Y) (X : Cx) : Ct := ⟨X.K, y.cm⟩

/-- a token's value -/
def RT (C : Ct) (G : Hp) (env : Env) (σ : L2.St) (Hk H : Hp) (t : Tk) (v : V) : Prop := match t with
  | .val d => Rp C Hk d v
  | .slot k => σ[k]? = some (some v)
  | .new d => ∃ a, v = .ref a ∧ Hk a = none ∧ OwA C G Hk H a d ∧ ∀ (i : Nat) (d' : D), env[i]? = some (.ow d') → σ[i]? ≠ some (some (.ref a))
/-- a settled token -/
def RV (C : Ct) (σ : L2.St) (Hk : Hp) (t : Tk) (v : V) : Prop := match t with
  | .val d => Rp C Hk d v
  | .slot k => σ[k]? = some (some v)
  | .new d => False

section
variable (C : Ct) (xa : Xa) (W : WX) (G : Hp) (σ : L2.St) (Hk : Hp)
/-- an end by an exception -/
def PoX (c : Nat) (ns : List Str) (ds : List D) (e : Env) : Prop := ∀ cls dd Hk' H', Kx G Hk Hk' → RE C xa G e σ Hk' H' → RpX C Hk' H' c ns ds cls dd → W cls dd σ H'
def PoE (r : Rs Tk) (Q : VK) : Prop := match r with
  | .ok t e => ∀ v Hk' H', Kx G Hk Hk' → RE C xa G e σ Hk' H' → RT C G e σ Hk' H' t v → Q v H'
  | .ex c ns ds e => PoX C xa W G σ Hk c ns ds e
  | .bad => False
def PoB (r : Rs Bool) (Q : Bool → Hp → Prop) : Prop := match r with
  | .ok b e => ∀ Hk' H', Kx G Hk Hk' → RE C xa G e σ Hk' H' → Q b H'
  | .ex c ns ds e => PoX C xa W G σ Hk c ns ds e
  | .bad => False
inductive RVs (C : Ct) (σ : L2.St) (Hk : Hp) : List Tk → List V → Prop
  | nil : RVs C σ Hk [] []
  | cons {t : Tk} {v : V} {ts : List Tk} {vs : List V} (h : RV C σ Hk t v) (r : RVs C σ Hk ts vs) : RVs C σ Hk (t :: ts) (v :: vs)
def PoA (r : Rs (List Tk)) (Q : List V → Hp → Prop) : Prop := match r with
  | .ok ts e => ∀ vs Hk' H', Kx G Hk Hk' → RE C xa G e σ Hk' H' → RVs C σ Hk' ts vs → Q vs H'
  | .ex c ns ds e => PoX C xa W G σ Hk c ns ds e
  | .bad => False
end
section
variable (X : Cx) (y : Y)
def tE (m : M Tk) : TE := fun σ H Q => ∃ env Hk G, RE (y.ct X) y.xa G env σ Hk H ∧ PoE (y.ct X) y.xa y.W G σ Hk (m env) Q
def tB (m : M Bool) : TT := fun σ H Q => ∃ env Hk G, RE (y.ct X) y.xa G env σ Hk H ∧ PoB (y.ct X) y.xa y.W G σ Hk (m env) Q
def tA (m : M (List Tk)) : TA := fun σ H Q => ∃ env Hk G, RE (y.ct X) y.xa G env σ Hk H ∧ PoA (y.ct X) y.xa y.W G σ Hk (m env) Q
structure PX (e : Expr) (m : M Tk) : Prop where
  pe : PE X e (tE X y m)
structure PB (e : Expr) (m : M Bool) : Prop where
  pt : PT X e (tB X y m)
structure PAs (es : List Expr) (m : M (List Tk)) : Prop where
  pa : PA X es (tA X y m)
end
theorem PE_imp {X : Cx} {e : Expr} {t t' : TE} (h : PE X e t) (f : ∀ σ H Q, t' σ H Q → t σ H Q) : PE X e t' := ⟨fun pins s σ H Q I q => h.run pins s σ H Q I (f σ H Q q)⟩
theorem PT_imp {X : Cx} {e : Expr} {t t' : TT} (h : PT X e t) (f : ∀ σ H Q, t' σ H Q → t σ H Q) : PT X e t' := ⟨fun pins s σ H Q I q => h.run pins s σ H Q I (f σ H Q q)⟩
theorem PA_imp {X : Cx} {es : List Expr} {t t' : TA} (h : PA X es t) (f : ∀ σ H Q, t' σ H Q → t σ H Q) : PA X es t' := ⟨fun pos pins s σ H Q I q => h.run pos pins s σ H Q I (f σ H Q q)⟩
theorem PS_imp {X : Cx} {st : Stmt} {t t' : TS} (h : PS X st t) (f : ∀ D σ H, t' D σ H → t D σ H) : PS X st t' := ⟨fun pins s σ H D I q => h.run pins s σ H D I (f D σ H q)⟩
theorem PSs_imp {X : Cx} {st : List Stmt} {t t' : TS} (h : PSs X st t) (f : ∀ D σ H, t' D σ H → t D σ H) : PSs X st t' := ⟨fun pins s σ H D I q => h.run pins s σ H D I (f D σ H q)⟩

/-! ### from one state to the next -/
section
variable {C : Ct} {xa : Xa} {W : WX} {G : Hp} {env : Env} {σ : L2.St} {Hk Hk' H H' : Hp} {t : Tk} {v : V}
theorem PoX.kx {c : Nat} {ns : List Str} {ds : List D} {e : Env} (k : Kx G Hk Hk') (h : PoX C xa W G σ Hk c ns ds e) : PoX C xa W G σ Hk' c ns ds e :=
  fun cls dd H2 H' k2 => h cls dd H2 H' (k.trans k2)
theorem PoE.kx {r : Rs Tk} {Q : VK} (k : Kx G Hk Hk') (h : PoE C xa W G σ Hk r Q) : PoE C xa W G σ Hk' r Q := by
  cases r with
  | ok t e => exact fun v H2 H' k2 => h v H2 H' (k.trans k2)
  | ex c ns ds e => exact PoX.kx k h
  | bad => exact h
theorem PoB.kx {r : Rs Bool} {Q : Bool → Hp → Prop} (k : Kx G Hk Hk') (h : PoB C xa W G σ Hk r Q) : PoB C xa W G σ Hk' r Q := by
  cases r with
  | ok t e => exact fun H2 H' k2 => h H2 H' (k.trans k2)
  | ex c ns ds e => exact PoX.kx k h
  | bad => exact h
theorem PoA.kx {r : Rs (List Tk)} {Q : List V → Hp → Prop} (k : Kx G Hk Hk') (h : PoA C xa W G σ Hk r Q) : PoA C xa W G σ Hk' r Q := by
  cases r with
  | ok t e => exact fun v H2 H' k2 => h v H2 H' (k.trans k2)
  | ex c ns ds e => exact PoX.kx k h
  | bad => exact h
theorem RV.kx (k : Kx G Hk Hk') (h : RV C σ Hk t v) : RV C σ Hk' t v := by
  cases t with
  | val d => exact Rp.mono k.ex h
  | slot i => exact h
  | new d => exact h.elim
theorem RVs.kx (k : Kx G Hk Hk') {ts : List Tk} {vs : List V} (h : RVs C σ Hk ts vs) : RVs C σ Hk' ts vs := by
  induction h with
  | nil => exact .nil
  | cons h _ ih => exact .cons (h.kx k) ih
/-- settled -/
theorem RT.settle (r : RE C xa G env σ Hk H) (h : RT C G env σ Hk H t v) : ∃ Hk', Kx G Hk Hk' ∧ RE C xa G env σ Hk' H ∧ RV C σ Hk' t.settle v := by
  cases t with
  | val d => exact ⟨Hk, Kx.refl _ _, r, h⟩
  | slot k => exact ⟨Hk, Kx.refl _ _, r, h⟩
  | new d =>
    obtain ⟨a, rfl, h1, h2, h3⟩ := h
    exact r.settle h2 h3
/-- what a token shows -/
theorem RT.look (r : RE C xa G env σ Hk H) (h : RT C G env σ Hk H t v) {d : D} (e : look t env = some d) : Pk C Hk H d v := by
  cases t with
  | val x => cases e; exact .inl h
  | new x =>
    cases e
    obtain ⟨a, rfl, h1, h2, h3⟩ := h
    exact .inr ⟨a, G, rfl, h2⟩
  | slot k =>
    have h : σ[k]? = some (some v) := h
    unfold VM.look at e
    dsimp only at e
    split at e
    · next x hx =>
      cases e
      obtain ⟨v', h1, h2⟩ := r.sh k _ hx
      rw [h] at h1
      cases h1
      exact .inl h2
    · next x hx =>
      cases e
      obtain ⟨a, h1, h2, h3⟩ := r.ow k _ hx
      rw [h] at h1
      cases h1
      exact .inr ⟨a, G, rfl, h3⟩
    · cases e
theorem RV.rt (h : RV C σ Hk t v) : RT C G env σ Hk H t v := by
  cases t with
  | val d => exact h
  | slot i => exact h
  | new d => exact h.elim
/-- forced -/
theorem RT.force (r : RE C xa G env σ Hk H) (h : RT C G env σ Hk H t v) {d : D} {e : Env} (q : force t env = .ok d e) : ∃ Hk', Kx G Hk Hk' ∧ RE C xa G e σ Hk' H ∧ Rp C Hk' d v := by
  cases t with
  | val x => cases q; exact ⟨Hk, Kx.refl _ _, r, h⟩
  | new x =>
    cases q
    obtain ⟨a, rfl, h1, h2, h3⟩ := h
    exact r.settle h2 h3
  | slot k =>
    have h : σ[k]? = some (some v) := h
    unfold VM.force at q
    dsimp only at q
    split at q
    · next x hx =>
      cases q
      obtain ⟨v', h1, h2⟩ := r.sh k _ hx
      rw [h] at h1
      cases h1
      exact ⟨Hk, Kx.refl _ _, r, h2⟩
    · next x hx =>
      cases q
      obtain ⟨Hk', k1, r1, v', h1, h2⟩ := r.freeze hx
      rw [h] at h1
      cases h1
      exact ⟨Hk', k1, r1, h2⟩
    · cases q
theorem force_cases (t : Tk) (env : Env) : (∃ d e, force t env = .ok d e) ∨ force t env = .bad := by
  cases t with
  | val x => exact .inl ⟨_, _, rfl⟩
  | new x => exact .inl ⟨_, _, rfl⟩
  | slot k =>
    unfold force
    dsimp only
    split
    · exact .inl ⟨_, _, rfl⟩
    · exact .inl ⟨_, _, rfl⟩
    · exact .inr rfl
end

/-- what an operation gives: a value (known, or of new objects), or a new object -/
def Res (C : Ct) (Hk H : Hp) (t : Tk) (v : V) (H' : Hp) : Prop := Ex H H' ∧ match t with
  | .val d => ∃ Hk', Kx H Hk Hk' ∧ Ex Hk' H' ∧ Rp C Hk' d v
  | .new d => ∃ a, v = .ref a ∧ H a = none ∧ OwA C H Hk H' a d
  | .slot _ => False
section
variable {C : Ct} {xa : Xa} {W : WX} {G : Hp} {env : Env} {σ : L2.St} {Hk Hk' H H' : Hp} {t : Tk} {v : V}
theorem RE.res (r : RE C xa G env σ Hk H) (h : Res C Hk H t v H') : ∃ Hk', Kx G Hk Hk' ∧ RE C xa G env σ Hk' H' ∧ RT C G env σ Hk' H' t v := by
  obtain ⟨e, h⟩ := h
  cases t with
  | val d =>
    obtain ⟨Hk', k, e2, h⟩ := h
    refine ⟨Hk', ⟨k.ex, fun b o h1 h2 => r.g.back (k.new b o h1 h2)⟩, (r.ext e).know k.ex e2 fun i d a hi hs => ?_, h⟩
    obtain ⟨g1, g2⟩ := r.owAt hi hs
    cases z : Hk' a with
    | none => rfl
    | some o =>
      obtain ⟨u, hu, _⟩ := g2.at
      rw [k.new a o z g1] at hu
      cases hu
  | slot k => exact h.elim
  | new d =>
    obtain ⟨a, rfl, h1, h2⟩ := h
    refine ⟨Hk, Kx.refl _ _, r.ext e, a, rfl, r.hk.back h1, h2.gmono r.g, fun i d' hi hs => ?_⟩
    obtain ⟨g1, g2⟩ := r.owAt hi hs
    obtain ⟨u, hu, _⟩ := g2.at
    rw [h1] at hu
    cases hu
theorem res_flat {d : D} (f : Rp C Hk d v) (e : Ex Hk H) : Res C Hk H (.val d) v H := ⟨Ex.refl _, Hk, Kx.refl _ _, e, f⟩
theorem res_lst {xs : List D} {vs : List V} {p : Addr} (hp : H p = none) (h : RpL C Hk xs vs) : Res C Hk H (.new (.lst xs)) (.ref p) (upd H p (.lst vs)) :=
  ⟨Ex.new hp, p, rfl, hp, hp, vs, upd_same, h⟩
theorem res_tup {xs : List D} {vs : List V} {p : Addr} (e : Ex Hk H) (hp : H p = none) (h : RpL C Hk xs vs) : Res C Hk H (.val (.tup xs)) (.ref p) (upd H p (.tup vs)) := by
  have e1 : Ex Hk (upd Hk p (.tup vs)) := Ex.new (e.back hp)
  refine ⟨Ex.new hp, upd Hk p (.tup vs), ⟨e1, fun b o h1 h2 => ?_⟩, Ex.updB (e.trans (Ex.new hp)) upd_same, ?_⟩
  · by_cases q : b = p
    · rw [q]; exact hp
    · rw [upd_ne q, h2] at h1; cases h1
  · unfold Rp
    exact ⟨p, vs, rfl, upd_same, h.mono e1⟩
end

/-! ### names and constants -/
section
variable {X : Cx} {y : Y}
def mVar (k : Nat) : M Tk := fun env => match env[k]? with
  | some .no => .bad
  | none => .bad
  | some _ => .ok (.slot k) env
theorem px_var {i : Nat} {x : Str} {pos : Pos} (h : PE X (.Name x pos) (tVar i)) : PX X y (.Name x pos) (mVar i) := by
  refine ⟨PE_imp h fun σ H Q ⟨env, Hk, G, r, q⟩ => ?_⟩
  unfold mVar at q
  have fin : ∀ v, σ[i]? = some (some v) → PoE (y.ct X) y.xa y.W G σ Hk (.ok (.slot i) env) Q → tVar i σ H Q := fun v hv q => ⟨v, hv, q v Hk H (Kx.refl _ _) r hv⟩
  cases e : env[i]? with
  | none => rw [e] at q; exact q.elim
  | some s =>
    rw [e] at q
    cases s with
    | no => exact q.elim
    | sh d => obtain ⟨v, h1, _⟩ := r.sh i d e; exact fin v h1 q
    | ow d => obtain ⟨a, h1, _⟩ := r.ow i d e; exact fin _ h1 q
    | xv c ns ds => obtain ⟨a, cls, dd, _, h1, _⟩ := r.xv i c ns ds e; exact fin _ h1 q
def mC (d : D) : M Tk := fun env => .ok (.val d) env
theorem px_c {e : Expr} {d : D} {v : V} (h : PE X e (tC v)) (r0 : ∀ H, Rp (y.ct X) H d v) : PX X y e (mC d) :=
  ⟨PE_imp h fun σ H Q ⟨env, Hk, G, r, q⟩ => q v Hk H (Kx.refl _ _) r (r0 Hk)⟩
theorem px_int {i : Int} {j pos} : PX X y (.Constant (.int i) j pos) (mC (.int i)) := px_c pe_int fun _ => rp_int
theorem px_bl {b : Bool} {j pos} : PX X y (.Constant (.bool b) j pos) (mC (.bl b)) := px_c pe_bl fun _ => rp_bl
theorem px_non {j pos} : PX X y (.Constant .none j pos) (mC .non) := px_c pe_non fun _ => rp_non
theorem px_str {x : Str} {j pos} : PX X y (.Constant (.str x) j pos) (mC (.str x)) := px_c pe_str fun _ => rp_str

/-! ### operators of values -/
/-- an operation's reading serves f -/
def Op2 (X : Cx) (y : Y) (f : D → D → Option Tk) (r : R2) : Prop := ∀ (Hk H : Hp) (a b : D) (v w : V) (t : Tk) (Q : VK), Ex Hk H → f a b = some t → Pk (y.ct X) Hk H a v → Pk (y.ct X) Hk H b w → (∀ z H', Res (y.ct X) Hk H t z H' → Q z H') → r v w H Q
def Op1 (X : Cx) (y : Y) (f : D → Option Tk) (r : V → Hp → VK → Prop) : Prop := ∀ (Hk H : Hp) (a : D) (v : V) (t : Tk) (Q : VK), Ex Hk H → f a = some t → Pk (y.ct X) Hk H a v → (∀ z H', Res (y.ct X) Hk H t z H' → Q z H') → r v H Q
def OpN (X : Cx) (y : Y) (f : List D → Option Tk) (r : List V → Hp → VK → Prop) : Prop := ∀ (Hk H : Hp) (ds : List D) (vs : List V) (t : Tk) (Q : VK), Ex Hk H → f ds = some t → Paired (fun d v => Pk (y.ct X) Hk H d v) ds vs → (∀ z H', Res (y.ct X) Hk H t z H' → Q z H') → r vs H Q
def mLook2 (f : D → D → Option Tk) (t1 t2 : Tk) : M Tk := fun env => match look t1 env, look t2 env with
  | some a, some b => mOf (f a b) env
  | _, _ => .bad
def mBin (f : D → D → Option Tk) (m1 m2 : M Tk) : M Tk := mBind m1 fun t1 => mBind m2 fun t2 => mLook2 f t1.settle t2
def mLook1 (f : D → Option Tk) (t : Tk) : M Tk := fun env => match look t env with
  | some a => mOf (f a) env
  | none => .bad
def mUn (f : D → Option Tk) (m : M Tk) : M Tk := mBind m (mLook1 f)
/-- the first of two: its value, then what the second makes of it -/
theorem po_bind {m : M Tk} {f : Tk → M Tk} {env : Env} {G : Hp} {σ : L2.St} {Hk : Hp} {Q R : VK} (q : PoE (y.ct X) y.xa y.W G σ Hk (mBind m f env) Q)
    (k : ∀ t e v Hk' H1, Kx G Hk Hk' → RE (y.ct X) y.xa G e σ Hk' H1 → RT (y.ct X) G e σ Hk' H1 t v → PoE (y.ct X) y.xa y.W G σ Hk' (f t e) Q → R v H1) : PoE (y.ct X) y.xa y.W G σ Hk (m env) R := by
  unfold mBind at q
  cases e : m env with
  | ok t e1 => rw [e] at q; exact fun v Hk' H' k' r' h' => k t e1 v Hk' H' k' r' h' (q.kx k')
  | ex c ns ds e1 => rw [e] at q; exact q
  | bad => rw [e] at q; exact q
theorem mLook2_go {f : D → D → Option Tk} {r : R2} (o : Op2 X y f r) {t1 t2 : Tk} {e : Env} {σ : L2.St} {Hk G H : Hp} {v w : V} {Q : VK} (re : RE (y.ct X) y.xa G e σ Hk H) (h1 : RT (y.ct X) G e σ Hk H t1 v) (h2 : RT (y.ct X) G e σ Hk H t2 w)
    (q : PoE (y.ct X) y.xa y.W G σ Hk (mLook2 f t1 t2 e) Q) : r v w H Q := by
  unfold mLook2 at q
  cases e1 : look t1 e with
  | none => rw [e1] at q; exact q.elim
  | some a =>
    cases e2 : look t2 e with
    | none => rw [e1, e2] at q; exact q.elim
    | some b =>
      rw [e1, e2] at q
      dsimp only at q
      unfold mOf at q
      cases e3 : f a b with
      | none => rw [e3] at q; exact q.elim
      | some t =>
        rw [e3] at q
        refine o Hk H a b v w t Q re.hk e3 (h1.look re e1) (h2.look re e2) fun z H' hz => ?_
        obtain ⟨Hk', k1, r1, rt⟩ := re.res hz
        exact q z Hk' H' k1 r1 rt
theorem mLook1_go {f : D → Option Tk} {r : V → Hp → VK → Prop} (o : Op1 X y f r) {t : Tk} {e : Env} {σ : L2.St} {Hk G H : Hp} {v : V} {Q : VK} (re : RE (y.ct X) y.xa G e σ Hk H) (h : RT (y.ct X) G e σ Hk H t v)
    (q : PoE (y.ct X) y.xa y.W G σ Hk (mLook1 f t e) Q) : r v H Q := by
  unfold mLook1 at q
  cases e1 : look t e with
  | none => rw [e1] at q; exact q.elim
  | some a =>
    rw [e1] at q
    dsimp only at q
    unfold mOf at q
    cases e3 : f a with
    | none => rw [e3] at q; exact q.elim
    | some t =>
      rw [e3] at q
      refine o Hk H a v t Q re.hk e3 (h.look re e1) fun z H' hz => ?_
      obtain ⟨Hk', k1, r1, rt⟩ := re.res hz
      exact q z Hk' H' k1 r1 rt
variable {a b c : Expr} {m1 m2 m3 : M Tk} {pos : Pos}
theorem t_bin {f : D → D → Option Tk} {r : R2} (o : Op2 X y f r) {σ : L2.St} {H : Hp} {Q : VK} (h : tE X y (mBin f m1 m2) σ H Q) : tOp r (tE X y m1) (tE X y m2) σ H Q := by
  obtain ⟨env, Hk, G, re, q⟩ := h
  refine ⟨env, Hk, G, re, po_bind q fun t1 e1 v Hk1 H1 k1 r1 rt1 q1 => ?_⟩
  obtain ⟨Hk1', k1', r1, rv1⟩ := rt1.settle r1
  exact ⟨e1, Hk1', G, r1, po_bind (q1.kx k1') fun t2 e2 w Hk2 H2 k2 r2 rt2 q2 => mLook2_go o r2 (rv1.kx k2).rt rt2 q2⟩
theorem px_bin {f : D → D → Option Tk} {r : R2} {op : Operator} (ho : OpR X (binaryOp op) r) (o : Op2 X y f r) (ha : PX X y a m1) (hb : PX X y b m2) : PX X y (.BinOp a op b pos) (mBin f m1 m2) :=
  ⟨PE_imp (pe_op ho ha.pe hb.pe) fun _ _ _ h => t_bin o h⟩
theorem px_cmp {f : D → D → Option Tk} {r : R2} {op : CmpOp} (ho : OpR X (compareOp op) r) (o : Op2 X y f r) (ha : PX X y a m1) (hb : PX X y b m2) (hm : behindInMarks op b = false := by first | exact nomark _ | rfl) : PX X y (.Compare a [op] [b] pos) (mBin f m1 m2) :=
  ⟨PE_imp (pe_cmpR ho ha.pe hb.pe hm) fun _ _ _ h => t_bin o h⟩
theorem t_un {f : D → Option Tk} {r : V → Hp → VK → Prop} (o : Op1 X y f r) {σ : L2.St} {H : Hp} {Q : VK} (h : tE X y (mUn f m1) σ H Q) : tUn r (tE X y m1) σ H Q := by
  obtain ⟨env, Hk, G, re, q⟩ := h
  exact ⟨env, Hk, G, re, po_bind q fun t1 e1 v Hk1 H1 k1 r1 rt1 q1 => mLook1_go o r1 rt1 q1⟩
theorem px_un {f : D → Option Tk} {r : V → Hp → VK → Prop} {op : UnaryOp} (ho : UnR X (unaryOp op) r) (o : Op1 X y f r) (ha : PX X y a m1) : PX X y (.UnaryOp op a pos) (mUn f m1) :=
  ⟨PE_imp (pe_un ho ha.pe) fun _ _ _ h => t_un o h⟩
theorem opR_or {f : Value → Value → Sem Value} {r r' : R2} (h : OpR X f r) (h' : OpR X f r') : OpR X f (fun x y H Q => r x y H Q ∨ r' x y H Q) :=
  fun pins s σ H x y v u Q I rx ry q => q.elim (h pins s σ H x y v u Q I rx ry) (h' pins s σ H x y v u Q I rx ry)

/-! ### the operators -/
def dAdd : D → D → Option Tk
  | .int i, .int j => some (.val (.int (i + j)))
  | .str x, .str z => if x.length + z.length ≤ sizeLine then some (.val (.str (x ++ z))) else none
  | .lst xs, .lst ys => if xs.length + ys.length ≤ sizeLine then some (.new (.lst (xs ++ ys))) else none
  | .tup xs, .tup ys => if xs.length + ys.length ≤ sizeLine then some (.val (.tup (xs ++ ys))) else none
  | _, _ => none
def rAddG (K : PySem.W.Frag) : R2 := fun x y H Q => (rI0 fun i j => .int (i + j)) x y H Q ∨ (∃ i j, x = .str i ∧ y = .str j ∧ i.length + j.length ≤ sizeLine ∧ Q (.str (i ++ j)) H) ∨ rCat x y H Q ∨ rCatA K x y H Q
theorem op_addG : OpR X (binaryOp .Add) (rAddG X.K) := opR_or op_add (opR_or op_add_str (opR_or op_cat op_catA))
theorem rpl_len {C : Ct} {H : Hp} {xs : List D} {vs : List V} (h : RpL C H xs vs) : vs.length = xs.length := h.len.symm
end
end VM

set_option Elab.async false
set_option linter.all false
set_option maxRecDepth 100000
set_option maxHeartbeats 1000000
/-! VM 3: operators, tests, displays, items, built-ins -/
namespace VM
open PySem PySem.Spec PyProof.Rows L2
section
variable {X : Cx} {y : Y} {a b c : Expr} {m1 m2 m3 : M Tk} {pos : Pos}
theorem sqT {K : PySem.W.Frag} {H : Hp} {a : Addr} {vs : List V} (h : H a = some (.tup vs)) : SqT K H a vs := .inl (.inl h)
theorem sqL {K : PySem.W.Frag} {H : Hp} {a : Addr} {vs : List V} (h : H a = some (.lst vs)) : SqL K H a vs := .inl (.inl h)
theorem add_ok : Op2 X y dAdd (rAddG X.K) := by
  intro Hk H a b v w t Q e h pa pb q
  cases a <;> cases b <;> simp only [dAdd] at h <;> first
    | (cases h; done)
    | (cases h; cases pa.int; cases pb.int; exact .inl ⟨_, _, rfl, rfl, q _ _ (res_flat rp_int e)⟩)
    | (split at h
       · cases h
         cases pa.str; cases pb.str
         exact .inr (.inl ⟨_, _, rfl, rfl, by assumption, q _ _ (res_flat rp_str e)⟩)
       · cases h)
    | (rename_i xs ys
       split at h
       · rename_i hl
         cases h
         first
          | (obtain ⟨p, vs, rfl, h1, h2⟩ := pa.lst e
             obtain ⟨p', vs', rfl, h1', h2'⟩ := pb.lst e
             exact .inr (.inr (.inl ⟨p, p', vs, vs', rfl, rfl, h1, h1', by rw [← h2.len, ← h2'.len]; exact hl, fun l hl => q _ _ (res_lst hl (h2.append h2'))⟩)))
          | (obtain ⟨p, vs, rfl, h1, h2, h3⟩ := pa.tup e
             obtain ⟨p', vs', rfl, h1', h2', h3'⟩ := pb.tup e
             refine .inr (.inr (.inr ⟨p, p', vs, vs', rfl, rfl, sqT h1, sqT h1', by rw [← h2.len, ← h2'.len]; exact hl, fun z => ?_, fun _ z => ?_, fun _ _ l hl => q _ _ (res_tup e hl (h2.append h2'))⟩))
             · have : xs = [] := List.eq_nil_of_length_eq_zero (by rw [h2.len, z]; rfl)
               subst this
               exact q _ _ (res_flat h3' e)
             · have : ys = [] := List.eq_nil_of_length_eq_zero (by rw [h2'.len, z]; rfl)
               subst this
               rw [List.append_nil] at q
               exact q _ _ (res_flat h3 e))
       · cases h)
theorem px_add (ha : PX X y a m1) (hb : PX X y b m2) : PX X y (.BinOp a .Add b pos) (mBin dAdd m1 m2) := px_bin op_addG add_ok ha hb

/-- whole numbers only -/
def dI (c : Int → Int → Bool) (g : Int → Int → D) : D → D → Option Tk
  | .int i, .int j => if c i j = true then some (.val (g i j)) else none
  | _, _ => none
def toV : D → V
  | .int i => .int i
  | .bl b => .bl b
  | .str s => .str s
  | _ => .non
theorem dI_ok {c : Int → Int → Bool} {g : Int → Int → D} {g' : Int → Int → V} {c' : Int → Int → Prop} (hg : ∀ i j H, Rp (y.ct X) H (g i j) (g' i j)) (hc : ∀ i j, c i j = true → c' i j) : Op2 X y (dI c g) (rI c' g') := by
  intro Hk H a b v w t Q e h pa pb q
  cases a <;> cases b <;> simp only [dI] at h <;> first
    | (cases h; done)
    | (split at h
       · cases h; cases pa.int; cases pb.int; exact ⟨_, _, rfl, rfl, hc _ _ (by assumption), q _ _ (res_flat (hg _ _ _) e)⟩
       · cases h)
theorem dI0_ok {g : Int → Int → D} {g' : Int → Int → V} (hg : ∀ i j H, Rp (y.ct X) H (g i j) (g' i j)) : Op2 X y (dI (fun _ _ => true) g) (rI0 g') := by
  intro Hk H a b v w t Q e h pa pb q
  obtain ⟨i, j, h1, h2, _, h3⟩ := dI_ok (c' := fun _ _ => True) hg (fun _ _ _ => trivial) Hk H a b v w t Q e h pa pb q
  exact ⟨i, j, h1, h2, h3⟩
def dSub : D → D → Option Tk := dI (fun _ _ => true) fun i j => .int (i - j)
theorem px_sub (ha : PX X y a m1) (hb : PX X y b m2) : PX X y (.BinOp a .Sub b pos) (mBin dSub m1 m2) := px_bin op_sub (dI0_ok fun _ _ _ => rp_int) ha hb
/-- products of whole numbers, lists and tuples repeated -/
def mulOk (i j : Int) : Bool := decide (i.natAbs.log2 + j.natAbs.log2 < 1000000)
theorem mulOk_w {i j : Int} (h : mulOk i j = true) : CMulW i j := by
  unfold mulOk at h
  have h' := of_decide_eq_true h
  exact h'
def dMul : D → D → Option Tk
  | .int i, .int j => if mulOk i j = true then some (.val (.int (i * j))) else none
  | .lst xs, .int k => if -(2 ^ 63) ≤ k ∧ k < 2 ^ 63 ∧ xs.length * k.toNat ≤ sizeLine then some (.new (.lst (List.replicate k.toNat xs).flatten)) else none
  | .tup xs, .int k => if xs ≠ [] ∧ 2 ≤ k ∧ k ≤ 1000 ∧ xs.length ≤ 1000 then some (.val (.tup (List.replicate k.toNat xs).flatten)) else none
  | _, _ => none
def rMulG (K : PySem.W.Frag) : R2 := fun x y H Q => (rI CMulW fun i j => .int (i * j)) x y H Q ∨ rRep x y H Q ∨ rRepT K x y H Q
theorem op_mulG : OpR X (binaryOp .Mult) (rMulG X.K) := opR_or op_mulW (opR_or op_rep op_repT)
theorem RpL.rep {C : Ct} {H : Hp} {xs : List D} {vs : List V} (h : RpL C H xs vs) : ∀ n : Nat, RpL C H (List.replicate n xs).flatten (List.replicate n vs).flatten
  | 0 => RpL.nil
  | n + 1 => by
    rw [List.replicate_succ, List.replicate_succ, List.flatten_cons, List.flatten_cons]
    exact h.append (RpL.rep h n)
theorem mul_ok : Op2 X y dMul (rMulG X.K) := by
  intro Hk H a b v w t Q e h pa pb q
  cases a <;> cases b <;> simp only [dMul] at h <;> first
    | (cases h; done)
    | (split at h
       · rename_i hc
         cases h
         first
          | (cases pa.int; cases pb.int; have hm := mulOk_w hc; exact .inl ⟨_, _, rfl, rfl, hm, q _ _ (res_flat rp_int e)⟩)
          | (cases pb.int
             obtain ⟨p, vs, rfl, h1, h2⟩ := pa.lst e
             exact .inr (.inl ⟨p, _, vs, rfl, rfl, h1, hc.1, hc.2.1, by rw [← h2.len]; exact hc.2.2, fun l hl => q _ _ (res_lst hl (h2.rep _))⟩))
          | (cases pb.int
             obtain ⟨p, vs, rfl, h1, h2, h3⟩ := pa.tup e
             refine .inr (.inr ⟨p, _, vs, rfl, rfl, sqT h1, fun z => hc.1 (List.eq_nil_of_length_eq_zero (by rw [h2.len, z]; rfl)), hc.2.1, hc.2.2.1, by rw [← h2.len]; exact hc.2.2.2, fun l hl => q _ _ (res_tup e hl (h2.rep _))⟩))
       · cases h)
theorem px_mul (ha : PX X y a m1) (hb : PX X y b m2) : PX X y (.BinOp a .Mult b pos) (mBin dMul m1 m2) := px_bin op_mulG mul_ok ha hb
def divOk (j : Int) : Bool := decide (0 < j) && decide (j.natAbs.log2 < 9000)
def dDiv : D → D → Option Tk := dI (fun _ j => divOk j) fun i j => .int (i / j)
theorem px_div (ha : PX X y a m1) (hb : PX X y b m2) : PX X y (.BinOp a .FloorDiv b pos) (mBin dDiv m1 m2) := px_bin op_fdivW (dI_ok (fun _ _ _ => rp_int) fun i j h => by
  unfold divOk at h
  rw [Bool.and_eq_true] at h
  exact ⟨of_decide_eq_true h.1, of_decide_eq_true h.2⟩) ha hb
def dMod : D → D → Option Tk := dI (fun _ j => decide (0 < j)) fun i j => .int (i % j)
theorem px_mod (ha : PX X y a m1) (hb : PX X y b m2) : PX X y (.BinOp a .Mod b pos) (mBin dMod m1 m2) := px_bin op_mod (dI_ok (fun _ _ _ => rp_int) fun i j h => of_decide_eq_true h) ha hb
def dPow : D → D → Option Tk := dI (fun i j => decide (0 ≤ j ∧ j ≤ 1000000 ∧ i.natAbs < 2 ^ 64)) fun i j => .int (i ^ j.toNat)
theorem px_pow (ha : PX X y a m1) (hb : PX X y b m2) : PX X y (.BinOp a .Pow b pos) (mBin dPow m1 m2) := px_bin op_pow (dI_ok (fun _ _ _ => rp_int) fun i j h => by
  have h' : 0 ≤ j ∧ j ≤ 1000000 ∧ i.natAbs < 2 ^ 64 := of_decide_eq_true h
  exact h') ha hb
def dNeg : D → Option Tk
  | .int i => some (.val (.int (-i)))
  | _ => none
theorem px_neg (ha : PX X y a m1) : PX X y (.UnaryOp .USub a pos) (mUn dNeg m1) := px_un un_neg (by
  intro Hk H d v t Q e h pa q
  cases d <;> simp only [dNeg] at h <;> first
    | (cases h; done)
    | (cases h; cases pa.int; exact ⟨_, rfl, q _ _ (res_flat rp_int e)⟩)) ha

/-! ### comparisons -/
def lift (f : D → D → Option Bool) : D → D → Option Tk := fun a b => match f a b with
  | some k => some (.val (.bl k))
  | none => none
def cI (p : Int → Int → Bool) : D → D → Option Bool
  | .int i, .int j => some (p i j)
  | _, _ => none
abbrev cLt := cI fun i j => decide (i < j)
abbrev cLe := cI fun i j => decide (i ≤ j)
abbrev cGt := cI fun i j => decide (j < i)
abbrev cGe := cI fun i j => decide (j ≤ i)
theorem cI_ok {p : Int → Int → Bool} : Op2 X y (lift (cI p)) (rI0 fun i j => .bl (p i j)) := by
  intro Hk H a b v w t Q e h pa pb q
  cases a <;> cases b <;> simp only [lift, cI] at h <;> first
    | (cases h; done)
    | (cases h; cases pa.int; cases pb.int; exact ⟨_, _, rfl, rfl, q _ _ (res_flat rp_bl e)⟩)
mutual
def D.py : D → PyData
  | .non => .none
  | .bl b => .bool b
  | .int i => .int i
  | .str s => .str s
  | .scr ns => .list (ns.map PyData.int)
  | .lst xs => .list (pyL xs)
  | .tup xs => .tuple (pyL xs)
  | .ins _ _ _ => .none
  | .ty _ => .none
  | .cl _ => .none
def pyL : List D → List PyData
  | [] => []
  | d :: ds => d.py :: pyL ds
end
/-- plain data: no instance, no script; texts that are texts; depth n at most -/
def D.pl : Nat → D → Bool
  | _, .non | _, .bl _ | _, .int _ => true
  | _, .str s => PyData.strOk s
  | n + 1, .lst xs => xs.all (D.pl n)
  | n + 1, .tup xs => xs.all (D.pl n)
  | _, _ => false
theorem depth_le : ∀ (n : Nat) (d : D), d.pl n = true → d.py.canLay0 = true ∧ d.py.depth ≤ n
  | n, .non, _ => by simp [D.py, PyData.canLay0, PyData.depth]
  | n, .bl _, _ => by simp [D.py, PyData.canLay0, PyData.depth]
  | n, .int _, _ => by simp [D.py, PyData.canLay0, PyData.depth]
  | n, .str s, h => by
    have h' : PyData.strOk s = true := by simpa [D.pl] using h
    simp [D.py, PyData.canLay0, PyData.depth, h']
  | 0, .lst xs, h => by simp [D.pl] at h
  | 0, .tup xs, h => by simp [D.pl] at h
  | n + 1, .lst xs, h => by
    have h' : xs.all (D.pl n) = true := by simpa [D.pl] using h
    obtain ⟨h1, h2⟩ := all_le n xs h'
    simp only [D.py, PyData.canLay0, PyData.depth]
    exact ⟨h1, by omega⟩
  | n + 1, .tup xs, h => by
    have h' : xs.all (D.pl n) = true := by simpa [D.pl] using h
    obtain ⟨h1, h2⟩ := all_le n xs h'
    simp only [D.py, PyData.canLay0, PyData.depth]
    exact ⟨h1, by omega⟩
  | n, .scr _, h => by cases n <;> simp [D.pl] at h
  | n, .ins _ _ _, h => by cases n <;> simp [D.pl] at h
  | n, .ty _, h => by cases n <;> simp [D.pl] at h
  | n, .cl _, h => by cases n <;> simp [D.pl] at h
where
  all_le (n : Nat) : ∀ (xs : List D), xs.all (D.pl n) = true → PyData.canLayAll0 (pyL xs) = true ∧ PyData.depthAll (pyL xs) ≤ n
  | [], _ => by simp [pyL, PyData.canLayAll0, PyData.depthAll]
  | d :: ds, h => by
    rw [List.all_cons, Bool.and_eq_true] at h
    obtain ⟨h1, h2⟩ := depth_le n d h.1
    obtain ⟨h3, h4⟩ := all_le n ds h.2
    simp only [pyL, PyData.canLayAll0, PyData.depthAll, h1, h3]
    exact ⟨rfl, by omega⟩
theorem pl_shaped {d : D} (h : d.pl 64 = true) : SeqAt.shaped d.py = true := by
  obtain ⟨h1, h2⟩ := depth_le 64 d h
  unfold SeqAt.shaped
  rw [h1]
  exact decide_eq_true h2
theorem dp_of {C : Ct} {H : Hp} : ∀ (n : Nat) (d : D) (v : V), d.pl n = true → Rp C H d v → Dp C.K H v d.py
  | n, .non, v, _, h => by unfold Rp at h; subst h; exact .non
  | n, .bl _, v, _, h => by unfold Rp at h; subst h; exact .bl _
  | n, .int _, v, _, h => by unfold Rp at h; subst h; exact .int _
  | n, .str s, v, _, h => by unfold Rp at h; subst h; exact .str _
  | 0, .lst xs, _, h, _ => by simp [D.pl] at h
  | 0, .tup xs, _, h, _ => by simp [D.pl] at h
  | n + 1, .lst xs, v, h, r => by
    have h' : xs.all (D.pl n) = true := by simpa [D.pl] using h
    unfold Rp at r
    obtain ⟨a, vs, rfl, h1, h2⟩ := r
    exact .lst (sqL h1) (dps n xs vs h' h2)
  | n + 1, .tup xs, v, h, r => by
    have h' : xs.all (D.pl n) = true := by simpa [D.pl] using h
    unfold Rp at r
    obtain ⟨a, vs, rfl, h1, h2⟩ := r
    exact .tup (sqT h1) (dps n xs vs h' h2)
  | n, .scr _, _, h, _ => by cases n <;> simp [D.pl] at h
  | n, .ins _ _ _, _, h, _ => by cases n <;> simp [D.pl] at h
  | n, .ty _, _, h, _ => by cases n <;> simp [D.pl] at h
  | n, .cl _, _, h, _ => by cases n <;> simp [D.pl] at h
where
  dps (n : Nat) : ∀ (xs : List D) (vs : List V), xs.all (D.pl n) = true → RpL C H xs vs → DpAll C.K H vs (pyL xs)
  | [], _, _, h => by unfold RpL at h; subst h; exact .nil
  | d :: ds, vs, h, r => by
    rw [List.all_cons, Bool.and_eq_true] at h
    obtain ⟨v, r', rfl, h1, h2⟩ := r.inv
    exact .cons (dp_of n d v h.1 h1) (dps n ds r' h.2 h2)
def D.eq (a b : D) : Bool := PyData.eqv a.py b.py
def cEq (a b : D) : Option Bool := if a.pl 64 = true ∧ b.pl 64 = true then some (D.eq a b) else none
def cNe (a b : D) : Option Bool := if a.pl 64 = true ∧ b.pl 64 = true then some (!D.eq a b) else none
theorem eq_ok : Op2 X y (lift cEq) (rEqD X.K) := by
  intro Hk H a b v w t Q e h pa pb q
  unfold lift cEq at h
  split at h
  rename_i hq
  split at hq
  · rename_i hc
    cases h
    cases hq
    exact ⟨_, _, dp_of 64 a v hc.1 (pa.all e), dp_of 64 b w hc.2 (pb.all e), pl_shaped hc.1, pl_shaped hc.2, q _ _ (res_flat rp_bl e)⟩
  · cases hq
  · cases h
theorem ne_ok : Op2 X y (lift cNe) (rNeD X.K) := by
  intro Hk H a b v w t Q e h pa pb q
  unfold lift cNe at h
  split at h
  rename_i hq
  split at hq
  · rename_i hc
    cases h
    cases hq
    exact ⟨_, _, dp_of 64 a v hc.1 (pa.all e), dp_of 64 b w hc.2 (pb.all e), pl_shaped hc.1, pl_shaped hc.2, q _ _ (res_flat rp_bl e)⟩
  · cases hq
  · cases h
def D.isN : D → Bool
  | .non => true
  | _ => false
theorem isN_v {C : Ct} {Hk H : Hp} {d : D} {v : V} (e : Ex Hk H) (h : Pk C Hk H d v) : decide (v = .non) = d.isN := by
  cases d with
  | non => cases h.non; rfl
  | bl b => cases h.bl; rfl
  | int i => cases h.int; rfl
  | str s => cases h.str; rfl
  | scr ns => obtain ⟨a, rfl, _⟩ := h.scr e; rfl
  | lst xs => obtain ⟨a, vs, rfl, _⟩ := h.lst e; rfl
  | tup xs => obtain ⟨a, vs, rfl, _⟩ := h.tup e; rfl
  | ins c ns xs => obtain ⟨a, dx, vs, rfl, _⟩ := h.ins e; rfl
  | ty n => cases h.ty; rfl
  | cl c => cases h.cl; rfl
def cIs (a b : D) : Option Bool := if b.isN = true then some a.isN else none
def cIsNot (a b : D) : Option Bool := if b.isN = true then some (!a.isN) else none
theorem is_ok : Op2 X y (lift cIs) (fun x y H Q => y = .non ∧ Q (.bl (decide (x = .non))) H) := by
  intro Hk H a b v w t Q e h pa pb q
  unfold lift cIs at h
  split at h
  rename_i hq
  split at hq
  · rename_i hc
    cases h
    cases hq
    refine ⟨?_, ?_⟩
    · have := isN_v e pb
      rw [hc] at this
      exact of_decide_eq_true this
    · rw [isN_v e pa]
      exact q _ _ (res_flat rp_bl e)
  · cases hq
  · cases h
theorem isnot_ok : Op2 X y (lift cIsNot) (fun x y H Q => y = .non ∧ Q (.bl (!decide (x = .non))) H) := by
  intro Hk H a b v w t Q e h pa pb q
  unfold lift cIsNot at h
  split at h
  rename_i hq
  split at hq
  · rename_i hc
    cases h
    cases hq
    refine ⟨?_, ?_⟩
    · have := isN_v e pb
      rw [hc] at this
      exact of_decide_eq_true this
    · rw [isN_v e pa]
      exact q _ _ (res_flat rp_bl e)
  · cases hq
  · cases h
end

/-! ### tests -/
section
variable {X : Cx} {y : Y} {a b c : Expr} {m1 m2 m3 : M Tk} {pos : Pos}
def D.tru : D → Option Bool
  | .non => some false
  | .bl b => some b
  | .int i => some (i != 0)
  | .str s => if s.length ≤ sizeLine then some ((s.length : Int) != 0) else none
  | .lst xs => some !xs.isEmpty
  | .tup xs => some !xs.isEmpty
  | _ => none
theorem tru_v {C : Ct} {Hk H : Hp} {d : D} {v : V} {k : Bool} (e : Ex Hk H) (h : Pk C Hk H d v) (q : d.tru = some k) : TruV C.K v H k := by
  cases d with
  | non => cases h.non; cases q; rfl
  | bl b => cases h.bl; cases q; rfl
  | int i => cases h.int; cases q; rfl
  | str s =>
    cases h.str
    dsimp only [D.tru] at q
    split at q
    · cases q; exact ⟨by assumption, rfl⟩
    · cases q
  | scr ns => cases q
  | lst xs =>
    obtain ⟨a, vs, rfl, h1, h2⟩ := h.lst e
    cases q
    exact .inl ⟨vs, sqL h1, by cases xs <;> cases vs <;> first | rfl | (have := h2.len; simp at this)⟩
  | tup xs =>
    obtain ⟨a, vs, rfl, h1, h2, _⟩ := h.tup e
    cases q
    exact .inr (.inl ⟨vs, sqT h1, by cases xs <;> cases vs <;> first | rfl | (have := h2.len; simp at this)⟩)
  | ins c ns xs => cases q
  | ty n => cases q
  | cl c => cases q
def mTru (t : Tk) : M Bool := fun env => match look t env with
  | some d => mOf d.tru env
  | none => .bad
def mTest (m : M Tk) : M Bool := mBind m mTru
theorem tb_bind {m : M Tk} {f : Tk → M Bool} {env : Env} {G : Hp} {σ : L2.St} {Hk : Hp} {Q : Bool → Hp → Prop} {R : VK} (q : PoB (y.ct X) y.xa y.W G σ Hk (mBind m f env) Q)
    (k : ∀ t e v Hk' H1, Kx G Hk Hk' → RE (y.ct X) y.xa G e σ Hk' H1 → RT (y.ct X) G e σ Hk' H1 t v → PoB (y.ct X) y.xa y.W G σ Hk' (f t e) Q → R v H1) : PoE (y.ct X) y.xa y.W G σ Hk (m env) R := by
  unfold mBind at q
  cases e : m env with
  | ok t e1 => rw [e] at q; exact fun v Hk' H' k' r' h' => k t e1 v Hk' H' k' r' h' (q.kx k')
  | ex c ns ds e1 => rw [e] at q; exact q
  | bad => rw [e] at q; exact q
theorem mTru_go {t : Tk} {e : Env} {σ : L2.St} {Hk G H : Hp} {v : V} {Q : Bool → Hp → Prop} (re : RE (y.ct X) y.xa G e σ Hk H) (h : RT (y.ct X) G e σ Hk H t v) (q : PoB (y.ct X) y.xa y.W G σ Hk (mTru t e) Q) :
    ∃ k, TruV X.K v H k ∧ Q k H := by
  unfold mTru at q
  cases e1 : look t e with
  | none => rw [e1] at q; exact q.elim
  | some d =>
    rw [e1] at q
    dsimp only at q
    unfold mOf at q
    cases e2 : d.tru with
    | none => rw [e2] at q; exact q.elim
    | some k =>
      rw [e2] at q
      exact ⟨k, tru_v (C := y.ct X) re.hk (h.look re e1) e2, q Hk H (Kx.refl _ _) re⟩
/-- an expression as a test -/
theorem pb_x (ha : PX X y a m1) (he : ∀ whole, isTrue a X.env whole = (do let v ← whole; standAt a.pos; holding [v] (truthy v)) := by intro _; rfl) : PB X y a (mTest m1) :=
  ⟨PT_imp (pt_truth ha.pe he) fun σ H Q ⟨env, Hk, G, re, q⟩ => ⟨env, Hk, G, re, tb_bind q fun t e v Hk' H1 k r rt q => mTru_go r rt q⟩⟩
/-- a comparison as a test -/
def mCmp (f : D → D → Option Bool) (m1 m2 : M Tk) : M Bool := mBind m1 fun t1 => mBind m2 fun t2 env => match look t1.settle env, look t2 env with
  | some a, some b => mOf (f a b) env
  | _, _ => .bad
theorem pb_cmp {f : D → D → Option Bool} {r : R2} {op : CmpOp} (ho : OpR X (compareOp op) r) (o : Op2 X y (lift f) r) (ha : PX X y a m1) (hb : PX X y b m2) (hm : behindInMarks op b = false := by first | exact nomark _ | rfl) :
    PB X y (.Compare a [op] [b] pos) (mCmp f m1 m2) := by
  refine ⟨PT_imp (pt_cmpR ho ha.pe hb.pe hm) fun σ H Q ⟨env, Hk, G, re, q⟩ => ?_⟩
  refine ⟨env, Hk, G, re, tb_bind q fun t1 e1 v Hk1 H1 k1 r1 rt1 q1 => ?_⟩
  obtain ⟨Hk1', k1', r1, rv1⟩ := rt1.settle r1
  refine ⟨e1, Hk1', G, r1, tb_bind (q1.kx k1') fun t2 e2 w Hk2 H2 k2 r2 rt2 q2 => ?_⟩
  have rt1 := (rv1.kx k2).rt (G := G) (env := e2) (H := H2)
  cases z1 : look t1.settle e2 with
  | none => rw [z1] at q2; exact q2.elim
  | some d1 =>
    cases z2 : look t2 e2 with
    | none => rw [z1, z2] at q2; exact q2.elim
    | some d2 =>
      rw [z1, z2] at q2
      dsimp only at q2
      unfold mOf at q2
      cases z3 : f d1 d2 with
      | none => rw [z3] at q2; exact q2.elim
      | some k =>
        rw [z3] at q2
        refine o Hk2 H2 d1 d2 v w (.val (.bl k)) _ r2.hk (by unfold lift; rw [z3]) (rt1.look r2 z1) (rt2.look r2 z2) fun z H' hz => ?_
        obtain ⟨Hk', k', r', rz⟩ := r2.res hz
        have rz : Rp (y.ct X) Hk' (.bl k) z := rz
        unfold Rp at rz
        exact ⟨k, rz, q2 Hk' H' k' r'⟩
def mAnd (m1 m2 : M Bool) : M Bool := mBind m1 fun b => if b = true then m2 else fun env => .ok false env
def mOr (m1 m2 : M Bool) : M Bool := mBind m1 fun b => if b = true then fun env => .ok true env else m2
def mNot (m1 : M Bool) : M Bool := mBind m1 fun b env => .ok (!b) env
theorem bb_bind {m : M Bool} {f : Bool → M Bool} {env : Env} {G : Hp} {σ : L2.St} {Hk : Hp} {Q R : Bool → Hp → Prop} (q : PoB (y.ct X) y.xa y.W G σ Hk (mBind m f env) Q)
    (k : ∀ b e Hk' H1, Kx G Hk Hk' → RE (y.ct X) y.xa G e σ Hk' H1 → PoB (y.ct X) y.xa y.W G σ Hk' (f b e) Q → R b H1) : PoB (y.ct X) y.xa y.W G σ Hk (m env) R := by
  unfold mBind at q
  cases e : m env with
  | ok t e1 => rw [e] at q; exact fun Hk' H' k' r' => k t e1 Hk' H' k' r' (q.kx k')
  | ex c ns ds e1 => rw [e] at q; exact q
  | bad => rw [e] at q; exact q
theorem be_bind {m : M Bool} {f : Bool → M Tk} {env : Env} {G : Hp} {σ : L2.St} {Hk : Hp} {Q : VK} {R : Bool → Hp → Prop} (q : PoE (y.ct X) y.xa y.W G σ Hk (mBind m f env) Q)
    (k : ∀ b e Hk' H1, Kx G Hk Hk' → RE (y.ct X) y.xa G e σ Hk' H1 → PoE (y.ct X) y.xa y.W G σ Hk' (f b e) Q → R b H1) : PoB (y.ct X) y.xa y.W G σ Hk (m env) R := by
  unfold mBind at q
  cases e : m env with
  | ok t e1 => rw [e] at q; exact fun Hk' H' k' r' => k t e1 Hk' H' k' r' (q.kx k')
  | ex c ns ds e1 => rw [e] at q; exact q
  | bad => rw [e] at q; exact q
/-- and, or: any test's 'whole' -/
structure PBW (X : Cx) (y : Y) (e : Expr) (m : M Bool) : Prop where
  pw : PW X e (tB X y m)
theorem PW_imp {e : Expr} {t t' : TT} (h : PW X e t) (f : ∀ σ H Q, t' σ H Q → t σ H Q) : PW X e t' := ⟨fun w pins s σ H Q I q => h.run w pins s σ H Q I (f σ H Q q)⟩
theorem PBW.pb {e : Expr} {m : M Bool} (h : PBW X y e m) : PB X y e m := ⟨h.pw.pt⟩
variable {n1 n2 : M Bool} {rest : List Expr}
theorem pb_and1 (ha : PB X y a n1) : PBW X y (.BoolOp .And [a] pos) n1 := ⟨pw_and1 ha.pt⟩
theorem pb_or1 (ha : PB X y a n1) : PBW X y (.BoolOp .Or [a] pos) n1 := ⟨pw_or1 ha.pt⟩
theorem pb_and (ha : PB X y a n1) (hb : PBW X y (.BoolOp .And (b :: rest) pos) n2) : PBW X y (.BoolOp .And (a :: b :: rest) pos) (mAnd n1 n2) :=
  ⟨PW_imp (pw_and ha.pt hb.pw) fun σ H Q ⟨env, Hk, G, re, q⟩ => ⟨env, Hk, G, re, bb_bind q fun k e Hk' H1 k1 r1 q1 => by
    cases k with
    | true => rw [if_pos rfl]; exact ⟨e, Hk', G, r1, q1⟩
    | false => rw [if_neg Bool.false_ne_true]; exact q1 Hk' H1 (Kx.refl _ _) r1⟩⟩
theorem pb_or (ha : PB X y a n1) (hb : PBW X y (.BoolOp .Or (b :: rest) pos) n2) : PBW X y (.BoolOp .Or (a :: b :: rest) pos) (mOr n1 n2) :=
  ⟨PW_imp (pw_or ha.pt hb.pw) fun σ H Q ⟨env, Hk, G, re, q⟩ => ⟨env, Hk, G, re, bb_bind q fun k e Hk' H1 k1 r1 q1 => by
    cases k with
    | true => rw [if_pos rfl]; exact q1 Hk' H1 (Kx.refl _ _) r1
    | false => rw [if_neg Bool.false_ne_true]; exact ⟨e, Hk', G, r1, q1⟩⟩⟩
theorem pb_not (ha : PB X y a n1) : PB X y (.UnaryOp .Not a pos) (mNot n1) :=
  ⟨PT_imp (pt_not ha.pt) fun σ H Q ⟨env, Hk, G, re, q⟩ => ⟨env, Hk, G, re, bb_bind q fun k e Hk' H1 k1 r1 q1 => q1 Hk' H1 (Kx.refl _ _) r1⟩⟩
/-- a if c else b -/
def mIf (n : M Bool) (m1 m2 : M Tk) : M Tk := mBind n fun b => if b = true then m1 else m2
theorem px_if (hc : PB X y c n1) (ha : PX X y a m1) (hb : PX X y b m2) : PX X y (.IfExp c a b pos) (mIf n1 m1 m2) :=
  ⟨PE_imp (pe_ifExp hc.pt ha.pe hb.pe) fun σ H Q ⟨env, Hk, G, re, q⟩ => ⟨env, Hk, G, re, be_bind q fun k e Hk' H1 k1 r1 q1 => by
    cases k with
    | true => rw [if_pos rfl]; exact ⟨e, Hk', G, r1, q1⟩
    | false => rw [if_neg Bool.false_ne_true]; exact ⟨e, Hk', G, r1, q1⟩⟩⟩
/-- and, or, not as values: all but the last a truth -/
def mBl (t : Tk) : M Bool := fun env => match look t env with
  | some (.bl b) => .ok b env
  | _ => .bad
theorem mBl_go {t : Tk} {e : Env} {σ : L2.St} {Hk G H : Hp} {v : V} {f : Bool → M Tk} {Q : VK} (re : RE (y.ct X) y.xa G e σ Hk H) (h : RT (y.ct X) G e σ Hk H t v) (q : PoE (y.ct X) y.xa y.W G σ Hk (mBind (mBl t) f e) Q) :
    ∃ k, v = .bl k ∧ PoE (y.ct X) y.xa y.W G σ Hk (f k e) Q := by
  unfold mBind mBl at q
  cases e1 : look t e with
  | none => rw [e1] at q; exact q.elim
  | some d =>
    rw [e1] at q
    cases d with
    | bl b => exact ⟨b, (h.look re e1).bl, q⟩
    | _ => exact q.elim
def mAndV (m1 m2 : M Tk) : M Tk := mBind m1 fun t => mBind (mBl t) fun b => if b = true then m2 else mC (.bl false)
def mOrV (m1 m2 : M Tk) : M Tk := mBind m1 fun t => mBind (mBl t) fun b => if b = true then mC (.bl true) else m2
def mNotV (m1 : M Tk) : M Tk := mBind m1 fun t => mBind (mTru t) fun b => mC (.bl (!b))
theorem px_one {op} (ha : PX X y a m1) : PX X y (.BoolOp op [a] pos) m1 := ⟨pe_one ha.pe⟩
theorem px_and (ha : PX X y a m1) (hb : PX X y (.BoolOp .And (b :: rest) pos) m2) : PX X y (.BoolOp .And (a :: b :: rest) pos) (mAndV m1 m2) :=
  ⟨PE_imp (pe_and ha.pe hb.pe) fun σ H Q ⟨env, Hk, G, re, q⟩ => ⟨env, Hk, G, re, po_bind q fun t e v Hk' H1 k1 r1 rt1 q1 => by
    obtain ⟨k, ev, q2⟩ := mBl_go r1 rt1 q1
    refine ⟨k, ev, ?_⟩
    cases k with
    | true => rw [if_pos rfl]; exact ⟨e, Hk', G, r1, q2⟩
    | false => rw [if_neg Bool.false_ne_true]; exact q2 _ Hk' H1 (Kx.refl _ _) r1 (rp_bl (C := y.ct X) (H := Hk'))⟩⟩
theorem px_or (ha : PX X y a m1) (hb : PX X y (.BoolOp .Or (b :: rest) pos) m2) : PX X y (.BoolOp .Or (a :: b :: rest) pos) (mOrV m1 m2) :=
  ⟨PE_imp (pe_or ha.pe hb.pe) fun σ H Q ⟨env, Hk, G, re, q⟩ => ⟨env, Hk, G, re, po_bind q fun t e v Hk' H1 k1 r1 rt1 q1 => by
    obtain ⟨k, ev, q2⟩ := mBl_go r1 rt1 q1
    refine ⟨k, ev, ?_⟩
    cases k with
    | true => rw [if_pos rfl]; exact q2 _ Hk' H1 (Kx.refl _ _) r1 (rp_bl (C := y.ct X) (H := Hk'))
    | false => rw [if_neg Bool.false_ne_true]; exact ⟨e, Hk', G, r1, q2⟩⟩⟩
theorem px_not (ha : PX X y a m1) : PX X y (.UnaryOp .Not a pos) (mNotV m1) :=
  ⟨PE_imp (pe_notT ha.pe) fun σ H Q ⟨env, Hk, G, re, q⟩ => ⟨env, Hk, G, re, po_bind q fun t e v Hk' H1 k1 r1 rt1 q1 => by
    unfold mBind mTru at q1
    cases e1 : look t e with
    | none => rw [e1] at q1; exact q1.elim
    | some d =>
      rw [e1] at q1
      dsimp only at q1
      unfold mOf at q1
      cases e2 : d.tru with
      | none => rw [e2] at q1; exact q1.elim
      | some k =>
        rw [e2] at q1
        exact ⟨k, tru_v (C := y.ct X) r1.hk (rt1.look r1 e1) e2, q1 _ Hk' H1 (Kx.refl _ _) r1 (rp_bl (C := y.ct X) (H := Hk'))⟩⟩⟩
end
end VM

set_option Elab.async false
set_option linter.all false
set_option maxRecDepth 100000
set_option maxHeartbeats 1000000
/-! VM 4: arguments, displays, items, slices, built-ins -/
namespace VM
open PySem PySem.Spec PyProof.Rows L2
section
variable {X : Cx} {y : Y} {a b c e : Expr} {es : List Expr} {m m1 m2 m3 : M Tk} {ma : M (List Tk)} {pos p : Pos}
/-! ### argument lists -/
def mNil : M (List Tk) := fun env => .ok [] env
def mCons (m : M Tk) (ma : M (List Tk)) : M (List Tk) := mBind m fun t => mBind ma fun ts env => .ok (t.settle :: ts) env
theorem pas_nil : PAs X y [] mNil := ⟨PA_imp pa_nil fun σ H Q ⟨env, Hk, G, re, q⟩ => q [] Hk H (Kx.refl _ _) re .nil⟩
theorem pas_cons (h : PX X y e m) (hr : PAs X y es ma) (hs : starEach (e :: es) X.env = (false, eval e X.env) :: starEach es X.env := by rfl) : PAs X y (e :: es) (mCons m ma) := by
  refine ⟨PA_imp (pa_cons h.pe hr.pa hs) fun σ H Q ⟨env, Hk, G, re, q⟩ => ?_⟩
  refine ⟨env, Hk, G, re, ?_⟩
  unfold mCons mBind at q
  cases z : m env with
  | ok t e1 =>
    rw [z] at q
    intro v Hk1 H1 k1 r1 rt1
    obtain ⟨Hk1', k1', r1', rv1⟩ := rt1.settle r1
    refine ⟨e1, Hk1', G, r1', ?_⟩
    dsimp only at q
    cases z2 : ma e1 with
    | ok ts e2 =>
      rw [z2] at q
      intro vs Hk2 H2 k2 r2 rs
      exact q _ _ _ ((k1.trans k1').trans k2) r2 (.cons (rv1.kx k2) rs)
    | ex c ns ds e2 => rw [z2] at q; exact PoX.kx (k1.trans k1') q
    | bad => rw [z2] at q; exact q
  | ex c ns ds e1 => rw [z] at q; exact q
  | bad => rw [z] at q; exact q
def lookAll : List Tk → Env → Option (List D)
  | [], _ => some []
  | t :: ts, env => match look t env, lookAll ts env with
    | some d, some ds => some (d :: ds)
    | _, _ => none
def forceAll : List Tk → M (List D)
  | [] => fun env => .ok [] env
  | t :: ts => fun env => match force t env with
    | .ok d e1 => match forceAll ts e1 with
      | .ok ds e2 => .ok (d :: ds) e2
      | _ => .bad
    | _ => .bad
theorem RVs.look {C : Ct} {xa : Xa} {G : Hp} {env : Env} {σ : L2.St} {Hk H : Hp} (r : RE C xa G env σ Hk H) : ∀ {ts : List Tk} {vs : List V} {ds : List D}, RVs C σ Hk ts vs → lookAll ts env = some ds → Paired (fun d v => Pk C Hk H d v) ds vs
  | [], _, _, h, q => by cases h; cases q; exact .nil
  | t :: ts, _, ds, h, q => by
    cases h with
    | cons h1 h2 =>
      unfold lookAll at q
      cases z1 : VM.look t env with
      | none => rw [z1] at q; cases q
      | some d =>
        cases z2 : lookAll ts env with
        | none => rw [z1, z2] at q; cases q
        | some ds' =>
          rw [z1, z2] at q
          cases q
          exact .cons ((h1.rt (G := G) (env := env) (H := H)).look r z1) (RVs.look r h2 z2)
theorem RVs.force {C : Ct} {xa : Xa} {G : Hp} {σ : L2.St} {H : Hp} : ∀ {ts : List Tk} {env : Env} {Hk : Hp} {vs : List V} {ds : List D} {e : Env}, RE C xa G env σ Hk H → RVs C σ Hk ts vs → forceAll ts env = .ok ds e → ∃ Hk', Kx G Hk Hk' ∧ RE C xa G e σ Hk' H ∧ RpL C Hk' ds vs
  | [], env, Hk, _, _, _, r, h, q => by cases h; cases q; exact ⟨Hk, Kx.refl _ _, r, RpL.nil⟩
  | t :: ts, env, Hk, _, ds, e, r, h, q => by
    cases h with
    | cons h1 h2 =>
      unfold forceAll at q
      cases z1 : VM.force t env with
      | ok d e1 =>
        rw [z1] at q
        dsimp only at q
        cases z2 : forceAll ts e1 with
        | ok ds' e2 =>
          rw [z2] at q
          cases q
          obtain ⟨Hk1, k1, r1, d1⟩ := (h1.rt (G := G) (env := env) (H := H)).force r z1
          obtain ⟨Hk2, k2, r2, d2⟩ := RVs.force r1 (h2.kx k1) z2
          exact ⟨Hk2, k1.trans k2, r2, .cons (d1.mono k2.ex) d2⟩
        | ex c ns ds e2 => rw [z2] at q; cases q
        | bad => rw [z2] at q; cases q
      | ex c ns ds e1 => rw [z1] at q; cases q
      | bad => rw [z1] at q; cases q
theorem forceAll_cases : ∀ (ts : List Tk) (env : Env), (∃ ds e, forceAll ts env = .ok ds e) ∨ forceAll ts env = .bad
  | [], env => .inl ⟨_, _, rfl⟩
  | t :: ts, env => by
    unfold forceAll
    rcases force_cases t env with ⟨d, e1, z⟩ | z
    · rw [z]
      dsimp only
      rcases forceAll_cases ts e1 with ⟨ds, e2, z2⟩ | z2
      · rw [z2]; exact .inl ⟨_, _, rfl⟩
      · rw [z2]; exact .inr rfl
    · rw [z]; exact .inr rfl
theorem pa_bind {f : List Tk → M Tk} {env : Env} {G : Hp} {σ : L2.St} {Hk : Hp} {Q : VK} {R : List V → Hp → Prop} (q : PoE (y.ct X) y.xa y.W G σ Hk (mBind ma f env) Q)
    (k : ∀ ts e vs Hk' H1, Kx G Hk Hk' → RE (y.ct X) y.xa G e σ Hk' H1 → RVs (y.ct X) σ Hk' ts vs → PoE (y.ct X) y.xa y.W G σ Hk' (f ts e) Q → R vs H1) : PoA (y.ct X) y.xa y.W G σ Hk (ma env) R := by
  unfold mBind at q
  cases e : ma env with
  | ok t e1 => rw [e] at q; exact fun v Hk' H' k' r' h' => k t e1 v Hk' H' k' r' h' (q.kx k')
  | ex c ns ds e1 => rw [e] at q; exact q
  | bad => rw [e] at q; exact q
/-! ### displays -/
def mTup (ma : M (List Tk)) : M Tk := mBind ma fun ts => mBind (forceAll ts) fun ds => if ds.length ≤ 1000 then mC (.tup ds) else fun _ => .bad
def mLst (ma : M (List Tk)) : M Tk := mBind ma fun ts => mBind (forceAll ts) fun ds => if ds.length ≤ 1000 then fun env => .ok (.new (.lst ds)) env else fun _ => .bad
theorem le_line {n : Nat} (h : n ≤ 1000) : n ≤ sizeLine := Nat.le_trans h (by decide)
theorem px_tup {x1} (h : PAs X y es ma) : PX X y (.Tuple es x1 pos) (mTup ma) :=
  ⟨PE_imp (pe_tup h.pa) fun σ H Q ⟨env, Hk, G, re, q⟩ => ⟨env, Hk, G, re, pa_bind q fun ts e vs Hk' H1 k1 r1 rs q1 => by
    unfold mBind at q1
    rcases forceAll_cases ts e with ⟨ds, e2, z⟩ | z
    · rw [z] at q1
      dsimp only at q1
      obtain ⟨Hk2, k2, r2, hl⟩ := RVs.force r1 rs z
      split at q1
      · rename_i hz
        refine ⟨by rw [← hl.len]; exact le_line hz, fun p hp => ?_⟩
        obtain ⟨Hk3, k3, r3, rt⟩ := r2.res (res_tup r2.hk hp hl)
        exact q1 _ _ _ (k2.trans k3) r3 rt
      · exact q1.elim
    · rw [z] at q1; exact q1.elim⟩⟩
theorem px_lst (h : PAs X y es ma) : PX X y (.List es pos) (mLst ma) :=
  ⟨PE_imp (pe_lst h.pa) fun σ H Q ⟨env, Hk, G, re, q⟩ => ⟨env, Hk, G, re, pa_bind q fun ts e vs Hk' H1 k1 r1 rs q1 => by
    unfold mBind at q1
    rcases forceAll_cases ts e with ⟨ds, e2, z⟩ | z
    · rw [z] at q1
      dsimp only at q1
      obtain ⟨Hk2, k2, r2, hl⟩ := RVs.force r1 rs z
      split at q1
      · rename_i hz
        refine ⟨by rw [← hl.len]; exact le_line hz, fun p hp => ?_⟩
        obtain ⟨Hk3, k3, r3, rt⟩ := r2.res (res_lst hp hl)
        exact q1 _ _ _ (k2.trans k3) r3 rt
      · exact q1.elim
    · rw [z] at q1; exact q1.elim⟩⟩

/-! ### built-ins, called -/
def mCall (f : List D → Option Tk) (ma : M (List Tk)) : M Tk := mBind ma fun ts env => match lookAll ts env with
  | some ds => mOf (f ds) env
  | none => .bad
theorem t_call {f : List D → Option Tk} {r : List V → Hp → VK → Prop} (o : OpN X y f r) {σ : L2.St} {H : Hp} {Q : VK} (h : tE X y (mCall f ma) σ H Q) : tCB r (tA X y ma) σ H Q := by
  obtain ⟨env, Hk, G, re, q⟩ := h
  refine ⟨env, Hk, G, re, pa_bind q fun ts e1 vs Hk1 H1 k1 r1 rs q1 => ?_⟩
  cases z : lookAll ts e1 with
  | none => rw [z] at q1; exact q1.elim
  | some ds =>
    rw [z] at q1
    dsimp only at q1
    unfold mOf at q1
    cases z2 : f ds with
    | none => rw [z2] at q1; exact q1.elim
    | some t =>
      rw [z2] at q1
      refine o Hk1 H1 ds vs t Q r1.hk z2 (RVs.look r1 rs z) fun z H' hz => ?_
      obtain ⟨Hk', k', r', rt⟩ := r1.res hz
      exact q1 z Hk' H' k' r' rt
theorem px_blt {x : Str} {id : String} {f : List D → Option Tk} {r : List V → Hp → VK → Prop} (hc : CallR X (.builtin id) r) (o : OpN X y f r) (hg : Gl X x) (hm : X.mg x = none) (hv : bootBuiltins x = some (.builtin id)) (ha : PAs X y (e :: es) ma)
    (hn : x ≠ "__name__" := by decide) (hdb : (x == ("__debug__" : Str)) = false := by decide) (he : starEach (e :: es) X.env = (false, eval e X.env) :: starEach es X.env := by rfl) (hpl : (backTo pos (starEach es X.env)).any (·.1) = false := by rfl) :
    PX X y (.Call (.Name x p) (e :: es) [] pos) (mCall f ma) :=
  ⟨PE_imp (pe_callB hc hg hm hv ha.pa hn hdb he hpl) fun _ _ _ h => t_call o h⟩
theorem px_typ {x : Str} {T : String} {f : List D → Option Tk} {r : List V → Hp → VK → Prop} (hc : CallR X (.type T) r) (o : OpN X y f r) (hg : Gl X x) (hm : X.mg x = none) (hv : bootBuiltins x = some (.type T)) (ha : PAs X y (e :: es) ma)
    (hn : x ≠ "__name__" := by decide) (hdb : (x == ("__debug__" : Str)) = false := by decide) (he : starEach (e :: es) X.env = (false, eval e X.env) :: starEach es X.env := by rfl) (hpl : (backTo pos (starEach es X.env)).any (·.1) = false := by rfl) :
    PX X y (.Call (.Name x p) (e :: es) [] pos) (mCall f ma) :=
  ⟨PE_imp (pe_callTy hc hg hm hv ha.pa hn hdb he hpl) fun _ _ _ h => t_call o h⟩
/-- the functions of one argument -/
def fn1 (f : D → Option Tk) : List D → Option Tk
  | [d] => f d
  | _ => none
def fn2 (f : D → D → Option Tk) : List D → Option Tk
  | [d, d'] => f d d'
  | _ => none
theorem op1N {f : D → Option Tk} {r : List V → Hp → VK → Prop} (h : Op1 X y f (fun v H Q => r [v] H Q)) : OpN X y (fn1 f) r := by
  intro Hk H ds vs t Q e hf hp q
  cases hp with
  | nil => cases hf
  | cons h1 h2 =>
    cases h2 with
    | nil => exact h Hk H _ _ t Q e hf h1 q
    | cons => cases hf
theorem op2N {f : D → D → Option Tk} {r : List V → Hp → VK → Prop} (h : Op2 X y f (fun v w H Q => r [v, w] H Q)) : OpN X y (fn2 f) r := by
  intro Hk H ds vs t Q e hf hp q
  cases hp with
  | nil => cases hf
  | cons h1 h2 =>
    cases h2 with
    | nil => cases hf
    | cons h2 h3 =>
      cases h3 with
      | nil => exact h Hk H _ _ _ _ t Q e hf h1 h2 q
      | cons => cases hf
theorem callR_or {f : Value} {r r' : List V → Hp → VK → Prop} (h : CallR X f r) (h' : CallR X f r') : CallR X f (fun xs H Q => r xs H Q ∨ r' xs H Q) :=
  fun pins s σ H xs us Q I rx q => q.elim (h pins s σ H xs us Q I rx) (h' pins s σ H xs us Q I rx)
def dLen : D → Option Tk
  | .lst xs => some (.val (.int xs.length))
  | .tup xs => some (.val (.int xs.length))
  | .scr xs => some (.val (.int xs.length))
  | .str s => if s.length ≤ sizeLine then some (.val (.int s.length)) else none
  | _ => none
theorem len_ok : OpN X y (fn1 dLen) (fun xs H Q => ∃ x n, xs = [x] ∧ LenV X.K x H n ∧ Q (.int n) H) := op1N (by
  intro Hk H d v t Q e h pa q
  cases d <;> simp only [dLen] at h <;> first
    | (cases h; done)
    | (cases h
       first
        | (obtain ⟨a, vs, rfl, h1, h2⟩ := pa.lst e
           exact ⟨_, _, rfl, .inl ⟨vs, sqL h1, h2.len⟩, q _ _ (res_flat rp_int e)⟩)
        | (obtain ⟨a, vs, rfl, h1, h2, _⟩ := pa.tup e
           exact ⟨_, _, rfl, .inr ⟨vs, sqT h1, h2.len⟩, q _ _ (res_flat rp_int e)⟩)
        | (obtain ⟨a, rfl, h1⟩ := pa.scr e
           exact ⟨_, _, rfl, .inl ⟨_, h1, by rw [List.length_map]⟩, q _ _ (res_flat rp_int e)⟩))
    | (split at h
       · rename_i hl
         cases h
         cases pa.str
         exact ⟨_, _, rfl, ⟨hl, rfl⟩, q _ _ (res_flat rp_int e)⟩
       · cases h))
theorem px_len (hm : X.mg "len" = none) (ha : PAs X y [e] ma) (hg : Gl X "len" := by rfl) (hs : starEach [e] X.env = (false, eval e X.env) :: starEach [] X.env := by rfl) : PX X y (.Call (.Name "len" p) [e] [] pos) (mCall (fn1 dLen) ma) :=
  px_blt call_len len_ok hg hm PySem.boot_len ha (he := hs) (hpl := by rfl)
def dInt : D → Option Tk
  | .int i => some (.val (.int i))
  | .bl b => some (.val (.int (if b then 1 else 0)))
  | _ => none
theorem int_ok : OpN X y (fn1 dInt) (fun xs H Q => (∃ i, xs = [.int i] ∧ Q (.int i) H) ∨ ∃ k, xs = [.bl k] ∧ Q (.int (if k then 1 else 0)) H) := op1N (by
  intro Hk H d v t Q e h pa q
  cases d <;> simp only [dInt] at h <;> first
    | (cases h; done)
    | (cases h; cases pa.int; exact .inl ⟨_, rfl, q _ _ (res_flat rp_int e)⟩)
    | (cases h; cases pa.bl; exact .inr ⟨_, rfl, q _ _ (res_flat rp_int e)⟩))
def dAbs : D → Option Tk
  | .int i => some (.val (.int (if i < 0 then -i else i)))
  | _ => none
theorem abs_ok : OpN X y (fn1 dAbs) (fun xs H Q => ∃ i, xs = [.int i] ∧ Q (.int (if i < 0 then -i else i)) H) := op1N (by
  intro Hk H d v t Q e h pa q
  cases d <;> simp only [dAbs] at h <;> first
    | (cases h; done)
    | (cases h; cases pa.int; exact ⟨_, rfl, q _ _ (res_flat rp_int e)⟩))
def dMax : D → D → Option Tk := dI (fun _ _ => true) fun i j => .int (if j > i then j else i)
def dMin : D → D → Option Tk := dI (fun _ _ => true) fun i j => .int (if j < i then j else i)
theorem max_ok : OpN X y (fn2 dMax) (fun xs H Q => ∃ i j, xs = [.int i, .int j] ∧ Q (.int (if j > i then j else i)) H) := op2N (by
  intro Hk H a b v w t Q e h pa pb q
  obtain ⟨i, j, rfl, rfl, h3⟩ := dI0_ok (y := y) (X := X) (g' := fun i j => .int (if j > i then j else i)) (fun _ _ _ => rp_int) Hk H a b v w t Q e h pa pb q
  exact ⟨i, j, rfl, h3⟩)
theorem min_ok : OpN X y (fn2 dMin) (fun xs H Q => ∃ i j, xs = [.int i, .int j] ∧ Q (.int (if j < i then j else i)) H) := op2N (by
  intro Hk H a b v w t Q e h pa pb q
  obtain ⟨i, j, rfl, rfl, h3⟩ := dI0_ok (y := y) (X := X) (g' := fun i j => .int (if j < i then j else i)) (fun _ _ _ => rp_int) Hk H a b v w t Q e h pa pb q
  exact ⟨i, j, rfl, h3⟩)
theorem rpl_ints {C : Ct} {H : Hp} : ∀ {ns : List Int} {vs : List V}, RpL C H (ns.map D.int) vs → vs = ns.map V.int
  | [], _, h => by unfold RpL at h; exact h
  | n :: ns, _, h => by
    obtain ⟨v, r, rfl, h1, h2⟩ := h.inv
    unfold Rp at h1
    subst h1
    rw [rpl_ints h2]
    rfl
theorem ints_rpl {C : Ct} {H : Hp} : ∀ {ns : List Int}, RpL C H (ns.map D.int) (ns.map V.int)
  | [] => RpL.nil
  | n :: ns => .cons rp_int ints_rpl
theorem rpl_bls {C : Ct} {H : Hp} : ∀ {ns : List Bool} {vs : List V}, RpL C H (ns.map D.bl) vs → vs = ns.map V.bl
  | [], _, h => by unfold RpL at h; exact h
  | n :: ns, _, h => by
    obtain ⟨v, r, rfl, h1, h2⟩ := h.inv
    unfold Rp at h1
    subst h1
    rw [rpl_bls h2]
    rfl
/-- a list of ints, of truths -/
def toInts : List D → Option (List Int)
  | [] => some []
  | .int i :: r => (toInts r).map (i :: ·)
  | _ :: _ => none
def toBls : List D → Option (List Bool)
  | [] => some []
  | .bl i :: r => (toBls r).map (i :: ·)
  | _ :: _ => none
theorem toInts_eq : ∀ {xs : List D} {ns : List Int}, toInts xs = some ns → xs = ns.map D.int
  | [], _, h => by cases h; rfl
  | d :: ds, ns, h => by
    cases d <;> simp only [toInts] at h <;> first
      | (cases h; done)
      | (cases z : toInts ds with
         | none => rw [z] at h; cases h
         | some ms => rw [z] at h; cases h; rw [toInts_eq z]; rfl)
theorem toBls_eq : ∀ {xs : List D} {ns : List Bool}, toBls xs = some ns → xs = ns.map D.bl
  | [], _, h => by cases h; rfl
  | d :: ds, ns, h => by
    cases d <;> simp only [toBls] at h <;> first
      | (cases h; done)
      | (cases z : toBls ds with
         | none => rw [z] at h; cases h
         | some ms => rw [z] at h; cases h; rw [toBls_eq z]; rfl)
theorem toInts_map (ns : List Int) : toInts (ns.map D.int) = some ns := by
  induction ns with
  | nil => rfl
  | cons n ns ih => show (toInts (ns.map D.int)).map (n :: ·) = _; rw [ih]; rfl
theorem toBls_map (ns : List Bool) : toBls (ns.map D.bl) = some ns := by
  induction ns with
  | nil => rfl
  | cons n ns ih => show (toBls (ns.map D.bl)).map (n :: ·) = _; rw [ih]; rfl
def dSum : D → Option Tk
  | .lst xs => (toInts xs).map fun ns => .val (.int ns.sum)
  | _ => none
theorem sum_ok : OpN X y (fn1 dSum) (rSum X.K) := op1N (by
  intro Hk H d v t Q e h pa q
  cases d <;> simp only [dSum] at h <;> first
    | (cases h; done)
    | (rename_i xs
       cases z : toInts xs with
       | none => rw [z] at h; cases h
       | some ns =>
         rw [z] at h
         cases h
         obtain ⟨a, vs, rfl, h1, h2⟩ := pa.lst e
         rw [toInts_eq z] at h2
         rw [rpl_ints h2] at h1
         exact ⟨a, ns, rfl, sqL h1, q _ _ (res_flat rp_int e)⟩))
def dAny : D → Option Tk
  | .lst xs => (toBls xs).map fun ns => .val (.bl (ns.any id))
  | _ => none
def dAll : D → Option Tk
  | .lst xs => (toBls xs).map fun ns => .val (.bl (ns.all id))
  | _ => none
theorem any_ok : OpN X y (fn1 dAny) (rAny X.K) := op1N (by
  intro Hk H d v t Q e h pa q
  cases d <;> simp only [dAny] at h <;> first
    | (cases h; done)
    | (rename_i xs
       cases z : toBls xs with
       | none => rw [z] at h; cases h
       | some ns =>
         rw [z] at h
         cases h
         obtain ⟨a, vs, rfl, h1, h2⟩ := pa.lst e
         rw [toBls_eq z] at h2
         rw [rpl_bls h2] at h1
         exact ⟨a, ns, rfl, sqL h1, q _ _ (res_flat rp_bl e)⟩))
theorem all_ok : OpN X y (fn1 dAll) (rAll X.K) := op1N (by
  intro Hk H d v t Q e h pa q
  cases d <;> simp only [dAll] at h <;> first
    | (cases h; done)
    | (rename_i xs
       cases z : toBls xs with
       | none => rw [z] at h; cases h
       | some ns =>
         rw [z] at h
         cases h
         obtain ⟨a, vs, rfl, h1, h2⟩ := pa.lst e
         rw [toBls_eq z] at h2
         rw [rpl_bls h2] at h1
         exact ⟨a, ns, rfl, sqL h1, q _ _ (res_flat rp_bl e)⟩))
def dTuple : D → Option Tk
  | .lst xs => some (.val (.tup xs))
  | .tup xs => some (.val (.tup xs))
  | _ => none
theorem tuple_ok : OpN X y (fn1 dTuple) (fun xs H Q => ∃ p ys, xs = [.ref p] ∧ ((SqL X.K H p ys ∧ ∀ l, H l = none → Q (.ref l) (upd H l (.tup ys))) ∨ (SqT X.K H p ys ∧ Q (.ref p) H))) := op1N (by
  intro Hk H d v t Q e h pa q
  cases d <;> simp only [dTuple] at h <;> first
    | (cases h; done)
    | (cases h
       first
        | (obtain ⟨a, vs, rfl, h1, h2⟩ := pa.lst e
           exact ⟨a, vs, rfl, .inl ⟨sqL h1, fun l hl => q _ _ (res_tup e hl h2)⟩⟩)
        | (obtain ⟨a, vs, rfl, h1, h2, h3⟩ := pa.tup e
           exact ⟨a, vs, rfl, .inr ⟨sqT h1, q _ _ (res_flat h3 e)⟩⟩)))
def dList : D → Option Tk
  | .lst xs => some (.new (.lst xs))
  | .tup xs => some (.new (.lst xs))
  | .scr ns => some (.new (.lst (ns.map .int)))
  | _ => none
theorem list_ok : OpN X y (fn1 dList) (fun xs H Q => ∃ p ys, xs = [.ref p] ∧ (SqL X.K H p ys ∨ SqT X.K H p ys) ∧ ∀ l, H l = none → Q (.ref l) (upd H l (.lst ys))) := op1N (by
  intro Hk H d v t Q e h pa q
  cases d <;> simp only [dList] at h <;> first
    | (cases h; done)
    | (cases h
       first
        | (obtain ⟨a, vs, rfl, h1, h2⟩ := pa.lst e
           exact ⟨a, vs, rfl, .inl (sqL h1), fun l hl => q _ _ (res_lst hl h2)⟩)
        | (obtain ⟨a, vs, rfl, h1, h2, h3⟩ := pa.tup e
           exact ⟨a, vs, rfl, .inr (sqT h1), fun l hl => q _ _ (res_lst hl h2)⟩)
        | (obtain ⟨a, rfl, h1⟩ := pa.scr e
           exact ⟨a, _, rfl, .inl h1, fun l hl => q _ _ (res_lst hl ints_rpl)⟩)))
end

/-! ### items and slices -/
section
variable {X : Cx} {y : Y} {a b c e : Expr} {m m1 m2 m3 : M Tk} {pos p p2 : Pos}
def dIx : D → D → Option Tk
  | .lst xs, .int i => (atI xs i).map .val
  | .tup xs, .int i => (atI xs i).map .val
  | .scr ns, .int i => (atI ns i).map fun n => .val (.int n)
  | .str s, .int i => if s.length ≤ sizeLine then (atI s.cps.toList i).map fun c => .val (.str ⟨#[c]⟩) else none
  | _, _ => none
theorem atI_rpl {C : Ct} {H : Hp} {xs : List D} {vs : List V} {i : Int} {d : D} (h : RpL C H xs vs) (e : atI xs i = some d) : ∃ v, atI vs i = some v ∧ Rp C H d v := by
  unfold atI at e ⊢
  rw [← h.len]
  cases z : ixN xs.length i with
  | none => rw [z] at e; cases e
  | some j => rw [z] at e; exact h.get e
theorem atI_map {α β : Type} (f : α → β) (xs : List α) (i : Int) : atI (xs.map f) i = (atI xs i).map f := by
  unfold atI
  rw [List.length_map]
  cases ixN xs.length i with
  | none => rfl
  | some j => simp
theorem ix_ok : Op2 X y dIx (rIx X.K) := by
  intro Hk H a b v w t Q e h pa pb q
  cases a <;> cases b <;> simp only [dIx] at h <;> first
    | (cases h; done)
    | (cases pb.int
       first
        | (obtain ⟨p, vs, rfl, h1, h2⟩ := pa.lst e
           rename_i xs i
           cases z : atI xs i with
           | none => rw [z] at h; cases h
           | some d =>
             rw [z] at h
             cases h
             obtain ⟨x, hx, rx⟩ := atI_rpl h2 z
             exact .inl ⟨p, vs, _, x, rfl, rfl, sqL h1, hx, q _ _ (res_flat rx e)⟩)
        | (obtain ⟨p, vs, rfl, h1, h2, h3⟩ := pa.tup e
           rename_i xs i
           cases z : atI xs i with
           | none => rw [z] at h; cases h
           | some d =>
             rw [z] at h
             cases h
             obtain ⟨x, hx, rx⟩ := atI_rpl h2 z
             exact .inr (.inl ⟨p, vs, _, x, rfl, rfl, sqT h1, hx, q _ _ (res_flat rx e)⟩))
        | (obtain ⟨p, rfl, h1⟩ := pa.scr e
           rename_i xs i
           cases z : atI xs i with
           | none => rw [z] at h; cases h
           | some d =>
             rw [z] at h
             cases h
             exact .inl ⟨p, _, _, _, rfl, rfl, h1, by rw [atI_map, z]; rfl, q _ _ (res_flat rp_int e)⟩)
        | (cases pa.str
           rename_i s i
           split at h
           · rename_i hl
             cases z : atI s.cps.toList i with
             | none => rw [z] at h; cases h
             | some d =>
               rw [z] at h
               cases h
               exact .inr (.inr ⟨s, i, d, rfl, rfl, hl, z, q _ _ (res_flat rp_str e)⟩)
           · cases h))
theorem px_ix (ha : PX X y a m1) (hb : PX X y b m2) (hs : PlainIx b := by exact fun _ _ => rfl) : PX X y (.Subscript a b pos) (mBin dIx m1 m2) :=
  ⟨PE_imp (pe_ix ix_seq ha.pe hb.pe hs) fun _ _ _ h => t_bin ix_ok h⟩
/-- a bound of a slice -/
def mPart (m : Option (M Tk)) : M (Option Int) := match m with
  | none => fun env => .ok none env
  | some m => mBind m fun t env => match look t env with
    | some (.int i) => .ok (some i) env
    | _ => .bad
def PoO (C : Ct) (xa : Xa) (W : WX) (G : Hp) (σ : L2.St) (Hk : Hp) (r : Rs (Option Int)) (Q : Option Int → Hp → Prop) : Prop := match r with
  | .ok o e => ∀ Hk' H', Kx G Hk Hk' → RE C xa G e σ Hk' H' → Q o H'
  | .ex c ns ds e => PoX C xa W G σ Hk c ns ds e
  | .bad => False
theorem PoO.kx {C : Ct} {xa : Xa} {W : WX} {G : Hp} {σ : L2.St} {Hk Hk' : Hp} {r : Rs (Option Int)} {Q : Option Int → Hp → Prop} (k : Kx G Hk Hk') (h : PoO C xa W G σ Hk r Q) : PoO C xa W G σ Hk' r Q := by
  cases r with
  | ok t e => exact fun H2 H' k2 => h H2 H' (k.trans k2)
  | ex c ns ds e => exact PoX.kx k h
  | bad => exact h
def tP (X : Cx) (y : Y) (m : M (Option Int)) : TO := fun σ H Q => ∃ env Hk G, RE (y.ct X) y.xa G env σ Hk H ∧ PoO (y.ct X) y.xa y.W G σ Hk (m env) Q
structure PPt (X : Cx) (y : Y) (e : Option Expr) (m : M (Option Int)) : Prop where
  po : PO X e (tP X y m)
theorem PO_imp {e : Option Expr} {t t' : TO} (h : PO X e t) (f : ∀ σ H Q, t' σ H Q → t σ H Q) : PO X e t' := ⟨fun pins s σ H Q I q => h.run pins s σ H Q I (f σ H Q q)⟩
theorem pp_none : PPt X y none (mPart none) := ⟨PO_imp po_none fun σ H Q ⟨env, Hk, G, re, q⟩ => q Hk H (Kx.refl _ _) re⟩
theorem pp_some (h : PX X y e m) : PPt X y (some e) (mPart (some m)) := ⟨PO_imp (po_some h.pe) fun σ H Q ⟨env, Hk, G, re, q⟩ => by
  refine ⟨env, Hk, G, re, ?_⟩
  unfold mPart mBind at q
  dsimp only at q
  cases z : m env with
  | ok t e1 =>
    rw [z] at q
    dsimp only at q
    intro v Hk' H' k' r' rt
    cases z2 : look t e1 with
    | none => rw [z2] at q; exact q.elim
    | some d =>
      rw [z2] at q
      cases d with
      | int i => exact ⟨i, (rt.look r' z2).int, q Hk' H' k' r'⟩
      | _ => exact q.elim
  | ex c ns ds e1 => rw [z] at q; exact q
  | bad => rw [z] at q; exact q⟩
def cutD (xs : List D) (lo hi : Option Int) : List D := (xs.drop (HT.sIx xs.length 0 lo)).take (HT.sIx xs.length xs.length hi - HT.sIx xs.length 0 lo)
theorem cut_rpl {C : Ct} {H : Hp} {xs : List D} {vs : List V} (h : RpL C H xs vs) (lo hi : Option Int) : RpL C H (cutD xs lo hi) (cutV vs lo hi) := by
  unfold cutD cutV
  rw [← h.len]
  exact (h.drop _).take _
def dSl (d : D) (lo hi : Option Int) : Option Tk := match d with
  | .lst xs => some (.new (.lst (cutD xs lo hi)))
  | .tup xs => some (.val (.tup (cutD xs lo hi)))
  | _ => none
def mSlice (m : M Tk) (ml mh : M (Option Int)) : M Tk := mBind m fun t => mBind ml fun lo => mBind mh fun hi env => match look t.settle env with
  | some d => mOf (dSl d lo hi) env
  | none => .bad
theorem sIx_whole {α : Type} (xs : List α) (lo hi : Option Int) (h : HT.sIx xs.length 0 lo = 0 ∧ HT.sIx xs.length xs.length hi = xs.length) : (xs.drop (HT.sIx xs.length 0 lo)).take (HT.sIx xs.length xs.length hi - HT.sIx xs.length 0 lo) = xs := by
  rw [h.1, h.2]
  simp
theorem sl_ok (Hk H : Hp) (d : D) (v : V) (lo hi : Option Int) (t : Tk) (Q : VK) (e : Ex Hk H) (h : dSl d lo hi = some t) (pa : Pk (y.ct X) Hk H d v) (q : ∀ z H', Res (y.ct X) Hk H t z H' → Q z H') : rSlL X.K v lo hi H Q ∨ rSlA X.K v lo hi H Q := by
  cases d <;> simp only [dSl] at h <;> first
    | (cases h; done)
    | (cases h
       first
        | (obtain ⟨p, vs, rfl, h1, h2⟩ := pa.lst e
           exact .inl ⟨p, vs, rfl, sqL h1, fun l hl => q _ _ (res_lst hl (cut_rpl h2 lo hi))⟩)
        | (obtain ⟨p, vs, rfl, h1, h2, h3⟩ := pa.tup e
           refine .inr ⟨p, vs, rfl, sqT h1, fun z => ?_, fun _ l hl => q _ _ (res_tup e hl (cut_rpl h2 lo hi))⟩
           have z' := sIx_whole _ lo hi (by rw [h2.len]; exact z)
           unfold cutD at q
           rw [z'] at q
           exact q _ _ (res_flat h3 e)))
theorem px_slice {lo hi : Option Expr} {ml mh : M (Option Int)} (ha : PX X y a m) (hl : PPt X y lo ml) (hh : PPt X y hi mh) : PX X y (.Subscript a (.Slice lo hi none p2) pos) (mSlice m ml mh) :=
  ⟨PE_imp (pe_slice (sl_list.or sl_tupA) ha.pe hl.po hh.po) fun σ H Q ⟨env, Hk, G, re, q⟩ => ⟨env, Hk, G, re, po_bind q fun t e1 v Hk1 H1 k1 r1 rt1 q1 => by
    obtain ⟨Hk1', k1', r1', rv1⟩ := rt1.settle r1
    have q1 := q1.kx k1'
    refine ⟨e1, Hk1', G, r1', ?_⟩
    unfold mBind at q1
    cases z : ml e1 with
    | ok lo e2 =>
      rw [z] at q1
      intro Hk2 H2 k2 r2
      refine ⟨e2, Hk2, G, r2, ?_⟩
      dsimp only at q1
      cases z2 : mh e2 with
      | ok hi e3 =>
        rw [z2] at q1
        intro Hk3 H3 k3 r3
        dsimp only at q1
        have rt := ((rv1.kx (k2.trans k3)).rt (G := G) (env := e3) (H := H3))
        cases z3 : look t.settle e3 with
        | none => rw [z3] at q1; exact q1.elim
        | some d =>
          rw [z3] at q1
          dsimp only at q1
          unfold mOf at q1
          cases z4 : dSl d lo hi with
          | none => rw [z4] at q1; exact q1.elim
          | some tk =>
            rw [z4] at q1
            refine sl_ok (y := y) Hk3 H3 d v lo hi tk Q r3.hk z4 (rt.look r3 z3) fun z H' hz => ?_
            obtain ⟨Hk', k', r', rz⟩ := r3.res hz
            exact q1 z Hk' H' ((k2.trans k3).trans k') r' rz
      | ex c ns ds e3 => rw [z2] at q1; exact PoX.kx k2 q1
      | bad => rw [z2] at q1; exact q1
    | ex c ns ds e2 => rw [z] at q1; exact q1
    | bad => rw [z] at q1; exact q1⟩⟩
/-! ### in -/
def D.inD (x : D) : List D → Bool
  | [] => false
  | d :: ds => D.eq d x || D.inD x ds
def isFlat : D → Bool
  | .non | .bl _ | .int _ => true
  | .str _ => true
  | _ => false
end
end VM

set_option Elab.async false
set_option linter.all false
set_option maxRecDepth 100000
set_option maxHeartbeats 1000000
/-! VM 5: in, chains, isinstance; calls of the text's own defs -/
namespace VM
open PySem PySem.Spec PyProof.Rows L2
section
variable {X : Cx} {y : Y} {a b c e : Expr} {es : List Expr} {m m1 m2 m3 : M Tk} {ma : M (List Tk)} {pos p p2 : Pos}
/-! ### in -/
def fl : D → Bool
  | .non | .bl _ | .int _ | .str _ => true
  | _ => false
def flEq : D → D → Bool
  | .non, .non => true
  | .bl a, .bl b => a == b
  | .bl a, .int b => (if a then 1 else 0) == b
  | .int a, .bl b => a == (if b then 1 else 0)
  | .int a, .int b => a == b
  | .str a, .str b => a == b
  | _, _ => false
theorem fl_v {C : Ct} {H : Hp} {d : D} {v : V} (f : fl d = true) (h : Rp C H d v) : flatV v = true := by
  cases d <;> first | (cases f; done) | (unfold Rp at h; subst h; rfl)
theorem flEq_v {C : Ct} {H : Hp} {d d' : D} {v v' : V} (f : fl d = true) (f' : fl d' = true) (h : Rp C H d v) (h' : Rp C H d' v') : eqV v v' = flEq d d' := by
  cases d <;> cases d' <;> first | (cases f; done) | (cases f'; done) | (unfold Rp at h h'; subst h h'; rfl)
theorem fl_all {C : Ct} {H : Hp} : ∀ {ds : List D} {vs : List V}, ds.all fl = true → RpL C H ds vs → vs.all flatV = true
  | [], _, _, h => by unfold RpL at h; subst h; rfl
  | d :: ds, _, f, h => by
    obtain ⟨v, r, rfl, h1, h2⟩ := h.inv
    rw [List.all_cons, Bool.and_eq_true] at f
    rw [List.all_cons, fl_v f.1 h1, fl_all f.2 h2]
    rfl
theorem in_v {C : Ct} {H : Hp} {x : D} {v : V} (fx : fl x = true) (hx : Rp C H x v) : ∀ {ds : List D} {vs : List V}, ds.all fl = true → RpL C H ds vs → inV v vs = ds.any fun d => flEq d x
  | [], _, _, h => by unfold RpL at h; subst h; rfl
  | d :: ds, _, f, h => by
    obtain ⟨w, r, rfl, h1, h2⟩ := h.inv
    rw [List.all_cons, Bool.and_eq_true] at f
    have ih := in_v fx hx f.2 h2
    unfold inV at ih ⊢
    rw [List.any_cons, List.any_cons, flEq_v f.1 fx h1 hx, ih]
def cInS (x : D) (xs : List D) : Option Bool := if fl x = true ∧ xs.all fl = true then some (xs.any fun d => flEq d x) else none
/-- in a list or tuple of flat things; in a list of any plain data -/
def cIn : D → D → Option Bool
  | x, .tup xs => cInS x xs
  | x, .lst xs => if fl x = true ∧ xs.all fl = true then some (xs.any fun d => flEq d x) else if x.pl 64 = true ∧ (D.lst xs).pl 64 = true then some (xs.any fun d => D.eq d x) else none
  | _, _ => none
def cNotIn (x y : D) : Option Bool := (cIn x y).map (!·)
theorem py_any (x : D) : ∀ xs : List D, ((pyL xs).any fun z => PyData.eqv z x.py) = xs.any fun d => D.eq d x
  | [] => rfl
  | d :: ds => by
    show (PyData.eqv d.py x.py || (pyL ds).any _) = _
    rw [py_any x ds]
    rfl
def rInG (K : PySem.W.Frag) : R2 := fun x y H Q => rIn K false x y H Q ∨ rInD K x y H Q
def rNotInG (K : PySem.W.Frag) : R2 := fun x y H Q => rIn K true x y H Q ∨ rNotInD K x y H Q
theorem cIn_go {Hk H : Hp} {x z : D} {v w : V} {k : Bool} (e : Ex Hk H) (px : Pk (y.ct X) Hk H x v) (pz : Pk (y.ct X) Hk H z w) (h : cIn x z = some k) (neg : Bool) (Q : VK) (q : Q (.bl (if neg then !k else k)) H) :
    rIn X.K neg v w H Q ∨ ∃ d ds, Dp X.K H v d ∧ Dp X.K H w (.list ds) ∧ SeqAt.shaped d = true ∧ SeqAt.shaped (.list ds) = true ∧ (ds.any fun z => PyData.eqv z d) = k := by
  have flat : ∀ xs : List D, ∀ vs : List V, fl x = true ∧ xs.all fl = true → RpL (y.ct X) Hk xs vs → k = (xs.any fun d => flEq d x) → ∀ p, (SqL X.K H p vs ∨ SqT X.K H p vs) → w = .ref p → rIn X.K neg v w H Q := fun xs vs hc h2 hk p hs hw => by
    have rx := px.all e
    have r2 := h2.mono e
    refine ⟨p, vs, hw, hs, fl_v hc.1 rx, fl_all hc.2 r2, ?_⟩
    rw [in_v hc.1 rx hc.2 r2, ← hk]
    exact q
  cases z with
  | tup xs =>
    have h : cInS x xs = some k := h
    unfold cInS at h
    split at h
    · rename_i hc
      cases h
      obtain ⟨p, vs, rfl, h1, h2, _⟩ := pz.tup e
      exact .inl (flat xs vs hc h2 rfl p (.inr (sqT h1)) rfl)
    · cases h
  | lst xs =>
    simp only [cIn] at h
    split at h
    · rename_i hc
      cases h
      obtain ⟨p, vs, rfl, h1, h2⟩ := pz.lst e
      exact .inl (flat xs vs hc h2 rfl p (.inl (sqL h1)) rfl)
    · split at h
      · rename_i hc
        cases h
        exact .inr ⟨x.py, pyL xs, dp_of 64 x v hc.1 (px.all e), dp_of 64 (.lst xs) w hc.2 (pz.all e), pl_shaped hc.1, pl_shaped hc.2, py_any x xs⟩
      · cases h
  | _ => cases h
theorem in_ok : Op2 X y (lift cIn) (rInG X.K) := by
  intro Hk H a b v w t Q e h pa pb q
  unfold lift at h
  cases z : cIn a b with
  | none => rw [z] at h; cases h
  | some k =>
    rw [z] at h
    cases h
    rcases cIn_go e pa pb z false Q (q _ _ (res_flat rp_bl e)) with h | ⟨d, ds, h1, h2, h3, h4, h5⟩
    · exact .inl h
    · exact .inr ⟨d, ds, h1, h2, h3, h4, by rw [h5]; exact q _ _ (res_flat rp_bl e)⟩
theorem notin_ok : Op2 X y (lift cNotIn) (rNotInG X.K) := by
  intro Hk H a b v w t Q e h pa pb q
  unfold lift cNotIn at h
  cases z : cIn a b with
  | none => rw [z] at h; cases h
  | some k =>
    rw [z] at h
    cases h
    rcases cIn_go e pa pb z true Q (q _ _ (res_flat rp_bl e)) with h | ⟨d, ds, h1, h2, h3, h4, h5⟩
    · exact .inl h
    · exact .inr ⟨d, ds, h1, h2, h3, h4, by rw [h5]; exact q _ _ (res_flat rp_bl e)⟩

/-! ### calls of the text's own defs -/
inductive Rf where
  | ok (nw : Bool) (d p : D) | ex (c : Nat) (ns : List Str) (ds : List D) (p : D) | bad
/-- what is handed back: known, or a new object -/
def Bk (C : Ct) (G Hk' H' : Hp) (nw : Bool) (d : D) (v : V) : Prop := if nw = true then ∃ a, v = .ref a ∧ Hk' a = none ∧ OwA C G Hk' H' a d else Rp C Hk' d v
def spF (C : Ct) (np : Nat) (F : List D → Rf) : Sp := fun vs H Q E => vs.length = np ∧ ∃ ds Hk, Ex Hk H ∧ RpL C Hk ds vs ∧ match F ds with
  | .ok nw d _ => ∀ v Hk' H', Kx H Hk Hk' → Ex Hk' H' → Ex H H' → Bk C H Hk' H' nw d v → Q v H'
  | .ex c ns xs _ => ∀ cls dd Hk' H', Kx H Hk Hk' → Ex Hk' H' → Ex H H' → RpX C Hk' H' c ns xs cls dd → E cls dd H'
  | .bad => False
/-- the first argument's object may change: it is the caller's own -/
def spIO (C : Ct) (np : Nat) (F : List D → Rf) : Sp := fun vs H Q E => vs.length = np ∧ ∃ a vs' d0 ds Hk G, vs = .ref a :: vs' ∧ Ex G H ∧ Ex Hk H ∧ Hk a = none ∧ OwA C G Hk H a d0 ∧ RpL C Hk ds vs' ∧ match F (d0 :: ds) with
  | .ok nw d p => ∀ v Hk' H', Kx G Hk Hk' → Ex Hk' H' → Ex G H' → Hk' a = none → OwA C G Hk' H' a p → (nw = true → v ≠ .ref a) → Bk C G Hk' H' nw d v → Q v H'
  | .ex c ns xs p => ∀ cls dd Hk' H', Kx G Hk Hk' → Ex Hk' H' → Ex G H' → Hk' a = none → OwA C G Hk' H' a p → RpX C Hk' H' c ns xs cls dd → E cls dd H'
  | .bad => False

def tkOf (nw : Bool) (d : D) : Tk := if nw = true then .new d else .val d
/-- nothing of the arguments can be in it -/
def apart (nw : Bool) (d : D) : Bool := d.flat || (nw && match d with
  | .lst xs => xs.all D.flat
  | _ => false)
def mCallF (F : List D → Rf) (ma : M (List Tk)) : M Tk := mBind ma fun ts env => match lookAll ts env with
  | none => .bad
  | some ds => match F ds with
    | .ok nw d _ => if apart nw d = true then .ok (tkOf nw d) env else match forceAll ts env with
      | .ok _ e => .ok (tkOf nw d) e
      | _ => .bad
    | .ex c ns xs _ => if xs.all D.flat = true then .ex c ns xs env else match forceAll ts env with
      | .ok _ e => .ex c ns xs e
      | _ => .bad
    | .bad => .bad
theorem look_set {t : Tk} {env : Env} {k : Nat} {d : D} (h : env[k]? = some (.ow d)) : look t (env.set k (.sh d)) = look t env := by
  cases t with
  | val _ => rfl
  | new _ => rfl
  | slot j =>
    unfold look
    dsimp only
    by_cases q : k = j
    · subst q
      obtain ⟨hl, _⟩ := List.getElem?_eq_some_iff.mp h
      rw [List.getElem?_set_self hl, h]
    · rw [List.getElem?_set_ne q]
theorem look_force {t : Tk} {env : Env} {d : D} (h : look t env = some d) : ∃ e, force t env = .ok d e ∧ ∀ u, look u e = look u env := by
  cases t with
  | val x => cases h; exact ⟨env, rfl, fun _ => rfl⟩
  | new x => cases h; exact ⟨env, rfl, fun _ => rfl⟩
  | slot k =>
    unfold look at h
    unfold force
    dsimp only at h ⊢
    split at h
    · next x hx => cases h; exact ⟨env, rfl, fun _ => rfl⟩
    · next x hx => cases h; exact ⟨_, rfl, fun u => look_set hx⟩
    · cases h
theorem lookAll_force : ∀ {ts : List Tk} {env : Env} {ds : List D}, lookAll ts env = some ds → ∃ e, forceAll ts env = .ok ds e
  | [], env, ds, h => by cases h; exact ⟨env, rfl⟩
  | t :: ts, env, ds, h => by
    unfold lookAll at h
    cases z1 : look t env with
    | none => rw [z1] at h; cases h
    | some d =>
      cases z2 : lookAll ts env with
      | none => rw [z1, z2] at h; cases h
      | some ds' =>
        rw [z1, z2] at h
        cases h
        obtain ⟨e1, f1, l1⟩ := look_force z1
        have same : ∀ us : List Tk, lookAll us e1 = lookAll us env := by
          intro us
          induction us with
          | nil => rfl
          | cons u us ih => unfold lookAll; rw [l1, ih]
        obtain ⟨e2, f2⟩ := lookAll_force (env := e1) ((same ts).trans z2)
        exact ⟨e2, by unfold forceAll; rw [f1]; dsimp only; rw [f2]⟩
theorem rpl_flat {C : Ct} {H H' : Hp} : ∀ {ds : List D} {vs : List V}, ds.all D.flat = true → RpL C H ds vs → RpL C H' ds vs
  | [], _, _, h => by unfold RpL at h ⊢; exact h
  | d :: ds, _, f, h => by
    obtain ⟨v, r, rfl, h1, h2⟩ := h.inv
    rw [List.all_cons, Bool.and_eq_true] at f
    exact .cons (rp_flat f.1 h1) (rpl_flat f.2 h2)
/-- behind a call: what it handed back, seen by the caller -/
theorem RE.back {C : Ct} {xa : Xa} {G : Hp} {env : Env} {σ : L2.St} {Hk Hk' H H' : Hp} (r : RE C xa G env σ Hk H) (k : Kx H Hk Hk') (e1 : Ex Hk' H') (e2 : Ex H H') : RE C xa G env σ Hk' H' ∧ Kx G Hk Hk' := by
  refine ⟨(r.ext e2).know k.ex e1 fun i d a hi hs => ?_, k.ex, fun b o h1 h2 => r.g.back (k.new b o h1 h2)⟩
  obtain ⟨g1, g2⟩ := r.owAt hi hs
  cases z : Hk' a with
  | none => rfl
  | some o =>
    obtain ⟨u, hu, _⟩ := g2.at
    rw [k.new a o z g1] at hu
    cases hu
theorem bk_rt {C : Ct} {xa : Xa} {G : Hp} {env : Env} {σ : L2.St} {Hk Hk' H H' : Hp} {nw : Bool} {d : D} {v : V} (r : RE C xa G env σ Hk H) (b : Bk C H Hk' H' nw d v) : RT C G env σ Hk' H' (tkOf nw d) v := by
  cases nw with
  | false => exact b
  | true =>
    obtain ⟨a, rfl, h1, h2⟩ := b
    refine ⟨a, rfl, h1, h2.gmono r.g, fun i d' hi hs => ?_⟩
    obtain ⟨g1, g2⟩ := r.owAt hi hs
    obtain ⟨u, hu, _⟩ := g2.at
    rw [h2.g] at hu
    cases hu
theorem bk_apart {C : Ct} {xa : Xa} {G : Hp} {env : Env} {σ : L2.St} {Hk Hk' H H' : Hp} {nw : Bool} {d : D} {v : V} (r : RE C xa G env σ Hk H) (ap : apart nw d = true) (b : Bk C H Hk' H' nw d v) : RT C G env σ Hk H' (tkOf nw d) v := by
  unfold apart at ap
  rw [Bool.or_eq_true] at ap
  cases nw with
  | false =>
    have f : d.flat = true := by
      rcases ap with f | f
      · exact f
      · simp at f
    exact rp_flat f b
  | true =>
    obtain ⟨a, rfl, h1, h2⟩ := b
    have hn : Hk a = none := r.hk.back h2.g
    refine ⟨a, rfl, hn, ?_, fun i d' hi hs => ?_⟩
    · cases d with
      | lst xs =>
        have f : xs.all D.flat = true := by
          rcases ap with f | f
          · cases f
          · simpa using f
        obtain ⟨g, vs, z1, z2⟩ := h2
        exact ⟨r.g.back g, vs, z1, rpl_flat f z2⟩
      | ins c ns xs =>
        rcases ap with f | f
        · cases f
        · simp at f
      | _ => exact h2.elim
    · obtain ⟨g1, g2⟩ := r.owAt hi hs
      obtain ⟨u, hu, _⟩ := g2.at
      rw [h2.g] at hu
      cases hu
theorem rpx_flat {C : Ct} {Hk Hk' H : Hp} {c : Nat} {ns : List Str} {ds : List D} {cls : Value} {dd : Option Addr} (f : ds.all D.flat = true) (h : RpX C Hk H c ns ds cls dd) : RpX C Hk' H c ns ds cls dd := by
  obtain ⟨h1, h | ⟨d, vs, h2, h3, h4, h5⟩⟩ := h
  · exact ⟨h1, .inl h⟩
  · exact ⟨h1, .inr ⟨d, vs, h2, h3, h4, rpl_flat f h5⟩⟩
/-- the callee's promise serves the call -/
theorem callF_go {F : List D → Rf} {np : Nat} {ts : List Tk} {e : Env} {σ : L2.St} {Hk G H : Hp} {vs : List V} {Q : VK} (re : RE (y.ct X) y.xa G e σ Hk H) (rs : RVs (y.ct X) σ Hk ts vs) (hn : vs.length = np)
    (q : PoE (y.ct X) y.xa y.W G σ Hk (match lookAll ts e with
      | none => .bad
      | some ds => match F ds with
        | .ok nw d _ => if apart nw d = true then .ok (tkOf nw d) e else match forceAll ts e with
          | .ok _ e => .ok (tkOf nw d) e
          | _ => .bad
        | .ex c ns xs _ => if xs.all D.flat = true then .ex c ns xs e else match forceAll ts e with
          | .ok _ e => .ex c ns xs e
          | _ => .bad
        | .bad => .bad) Q) : spF (y.ct X) np F vs H Q (WE y.W σ) := by
  cases z : lookAll ts e with
  | none => rw [z] at q; exact q.elim
  | some ds =>
    rw [z] at q
    dsimp only at q
    obtain ⟨e2, z2⟩ := lookAll_force z
    obtain ⟨Hk2, k2, r2, hl⟩ := RVs.force re rs z2
    refine ⟨hn, ds, Hk2, r2.hk, hl, ?_⟩
    cases z3 : F ds with
    | ok nw d p =>
      rw [z3] at q
      dsimp only at q ⊢
      intro v Hk' H' k1 x1 x2 b
      by_cases ap : apart nw d = true
      · rw [if_pos ap] at q
        exact q v Hk H' (Kx.refl _ _) (re.ext x2) (bk_apart re ap b)
      · rw [if_neg ap, z2] at q
        obtain ⟨r3, k3⟩ := r2.back k1 x1 x2
        exact q v Hk' H' (k2.trans k3) r3 (bk_rt r2 b)
    | ex c ns xs p =>
      rw [z3] at q
      dsimp only at q ⊢
      intro cls dd Hk' H' k1 x1 x2 b
      by_cases ap : xs.all D.flat = true
      · rw [if_pos ap] at q
        exact q cls dd Hk H' (Kx.refl _ _) (re.ext x2) (rpx_flat ap b)
      · rw [if_neg ap, z2] at q
        obtain ⟨r3, k3⟩ := r2.back k1 x1 x2
        exact q cls dd Hk' H' (k2.trans k3) r3 b
    | bad => rw [z3] at q; exact q.elim
variable {F : List D → Rf} {k : Nat} {f : Addr} {fd : FuncData} {ps : List Str} {x : Str}
theorem RVs.len {C : Ct} {σ : L2.St} {Hk : Hp} {ts : List Tk} {vs : List V} (h : RVs C σ Hk ts vs) : ts.length = vs.length := by
  induction h with
  | nil => rfl
  | cons _ _ ih => simp [ih]
/-- how many tokens an argument list makes -/
def Many (ma : M (List Tk)) (n : Nat) : Prop := ∀ env ts e, ma env = .ok ts e → ts.length = n
theorem many_nil : Many mNil 0 := fun env ts e h => by cases h; rfl
theorem many_cons {n : Nat} (h : Many ma n) : Many (mCons m ma) (n + 1) := fun env ts e z => by
  unfold mCons mBind at z
  cases z1 : m env with
  | ok t e1 =>
    rw [z1] at z
    dsimp only at z
    cases z2 : ma e1 with
    | ok ts' e2 => rw [z2] at z; cases z; simp [h _ _ _ z2]
    | ex c ns ds e2 => rw [z2] at z; cases z
    | bad => rw [z2] at z; cases z
  | ex c ns ds e1 => rw [z1] at z; cases z
  | bad => rw [z1] at z; cases z
/-- as pa_bind, with the number of tokens -/
theorem pa_bindN {n : Nat} (hm : Many ma n) {f : List Tk → M Tk} {env : Env} {G : Hp} {σ : L2.St} {Hk : Hp} {Q : VK} {R : List V → Hp → Prop} (q : PoE (y.ct X) y.xa y.W G σ Hk (mBind ma f env) Q)
    (k : ∀ ts e vs Hk' H1, Kx G Hk Hk' → RE (y.ct X) y.xa G e σ Hk' H1 → RVs (y.ct X) σ Hk' ts vs → ts.length = n → PoE (y.ct X) y.xa y.W G σ Hk' (f ts e) Q → R vs H1) : PoA (y.ct X) y.xa y.W G σ Hk (ma env) R := by
  unfold mBind at q
  cases e : ma env with
  | ok t e1 => rw [e] at q; exact fun v Hk' H' k' r' h' => k t e1 v Hk' H' k' r' h' (hm _ _ _ e) (q.kx k')
  | ex c ns ds e1 => rw [e] at q; exact q
  | bad => rw [e] at q; exact q
theorem px_call (FO : FnOk X.prog X.w X.K X.mg X.base (L2.CX X.prog X.w) k f fd ps (spF (y.ct X) ps.length F)) (hr : Room k X.A) (hm : X.mg x = some (.ref f)) (hk : PySem.W.keepIn X.K (.ref f) = true) (hb : Binds X.K fd ps []) (tk : Takes X y.W)
    (hn : Many ma ps.length) (ha : PAs X y (e :: es) ma) (hg : Gl X x := by rfl) (hdb : (x == ("__debug__" : Str)) = false := by decide) (he : starEach (e :: es) X.env = (false, eval e X.env) :: starEach es X.env := by rfl) (hpl : (backTo pos (starEach es X.env)).any (·.1) = false := by rfl) :
    PX X y (.Call (.Name x p) (e :: es) [] pos) (mCallF F ma) :=
  ⟨PE_imp (pe_callSD FO hr hg hm hk hb .nil (fun σ => passAt tk σ) ha.pa hdb he hpl) fun σ H Q ⟨env, Hk, G, re, q⟩ => ⟨env, Hk, G, re, pa_bindN hn q fun ts e vs Hk' H1 k1 r1 rs hl q1 => by
    rw [List.append_nil]
    exact callF_go r1 rs (by rw [← rs.len]; exact hl) q1⟩⟩
end
end VM

set_option Elab.async false
set_option linter.all false
set_option maxRecDepth 100000
set_option maxHeartbeats 1000000
/-! VM 6: statements, loops -/
namespace VM
open PySem PySem.Spec PyProof.Rows L2
inductive Fl where
  | nx | bk | ct | rt (t : Tk)
section
variable (C : Ct) (xa : Xa) (W : WX) (G : Hp) (Hk : Hp)
def PoXS (c : Nat) (ns : List Str) (ds : List D) (e : Env) : Prop := ∀ cls dd σ' Hk' H', Kx G Hk Hk' → RE C xa G e σ' Hk' H' → RpX C Hk' H' c ns ds cls dd → W cls dd σ' H'
def PoS (r : Rs Fl) (D : Ends) : Prop := match r with
  | .ok .nx e => ∀ σ' Hk' H', Kx G Hk Hk' → RE C xa G e σ' Hk' H' → D.nx σ' H'
  | .ok .bk e => ∀ σ' Hk' H', Kx G Hk Hk' → RE C xa G e σ' Hk' H' → D.bk σ' H'
  | .ok .ct e => ∀ σ' Hk' H', Kx G Hk Hk' → RE C xa G e σ' Hk' H' → D.ct σ' H'
  | .ok (.rt t) e => ∀ v σ' Hk' H', Kx G Hk Hk' → RE C xa G e σ' Hk' H' → RT C G e σ' Hk' H' t v → D.rt v H'
  | .ex c ns ds e => PoXS C xa W G Hk c ns ds e
  | .bad => False
end
theorem PoXS.kx {C : Ct} {xa : Xa} {W : WX} {G Hk Hk' : Hp} {c : Nat} {ns : List Str} {ds : List D} {e : Env} (k : Kx G Hk Hk') (h : PoXS C xa W G Hk c ns ds e) : PoXS C xa W G Hk' c ns ds e :=
  fun cls dd σ' H2 H' k2 => h cls dd σ' H2 H' (k.trans k2)
theorem PoXS.at {C : Ct} {xa : Xa} {W : WX} {G Hk : Hp} {c : Nat} {ns : List Str} {ds : List D} {e : Env} {σ : L2.St} (h : PoXS C xa W G Hk c ns ds e) : PoX C xa W G σ Hk c ns ds e :=
  fun cls dd Hk' H' => h cls dd σ Hk' H'
theorem PoS.kx {C : Ct} {xa : Xa} {W : WX} {G Hk Hk' : Hp} {r : Rs Fl} {D : Ends} (k : Kx G Hk Hk') (h : PoS C xa W G Hk r D) : PoS C xa W G Hk' r D := by
  cases r with
  | ok f e =>
    cases f with
    | nx => exact fun σ' H2 H' k2 => h σ' H2 H' (k.trans k2)
    | bk => exact fun σ' H2 H' k2 => h σ' H2 H' (k.trans k2)
    | ct => exact fun σ' H2 H' k2 => h σ' H2 H' (k.trans k2)
    | rt t => exact fun v σ' H2 H' k2 => h v σ' H2 H' (k.trans k2)
  | ex c ns ds e => exact PoXS.kx k h
  | bad => exact h
section
variable (X : Cx) (y : Y)
def tS (m : M Fl) : TS := fun D σ H => ∃ env Hk G, RE (y.ct X) y.xa G env σ Hk H ∧ PoS (y.ct X) y.xa y.W G Hk (m env) D
structure PSx (st : Stmt) (m : M Fl) : Prop where
  ps : PS X st (tS X y m)
structure PSSx (st : List Stmt) (m : M Fl) : Prop where
  pss : PSs X st (tS X y m)
end
section
variable {X : Cx} {y : Y} {a b c e : Expr} {st : Stmt} {sts sts2 : List Stmt} {m m1 m2 : M Tk} {n : M Bool} {f f1 f2 : M Fl} {pos p p2 : Pos}
/-- an expression, then a statement's rest -/
theorem ps_bind {g : Tk → M Fl} {env : Env} {G : Hp} {σ : L2.St} {Hk : Hp} {D : Ends} {R : VK} (q : PoS (y.ct X) y.xa y.W G Hk (mBind m g env) D)
    (k : ∀ t e v Hk' H1, Kx G Hk Hk' → RE (y.ct X) y.xa G e σ Hk' H1 → RT (y.ct X) G e σ Hk' H1 t v → PoS (y.ct X) y.xa y.W G Hk' (g t e) D → R v H1) : PoE (y.ct X) y.xa y.W G σ Hk (m env) R := by
  unfold mBind at q
  cases e : m env with
  | ok t e1 => rw [e] at q; exact fun v Hk' H' k' r' h' => k t e1 v Hk' H' k' r' h' (q.kx k')
  | ex c ns ds e1 => rw [e] at q; exact PoXS.at q
  | bad => rw [e] at q; exact q
theorem bs_bind {g : Bool → M Fl} {env : Env} {G : Hp} {σ : L2.St} {Hk : Hp} {D : Ends} {R : Bool → Hp → Prop} (q : PoS (y.ct X) y.xa y.W G Hk (mBind n g env) D)
    (k : ∀ t e Hk' H1, Kx G Hk Hk' → RE (y.ct X) y.xa G e σ Hk' H1 → PoS (y.ct X) y.xa y.W G Hk' (g t e) D → R t H1) : PoB (y.ct X) y.xa y.W G σ Hk (n env) R := by
  unfold mBind at q
  cases e : n env with
  | ok t e1 => rw [e] at q; exact fun Hk' H' k' r' => k t e1 Hk' H' k' r' (q.kx k')
  | ex c ns ds e1 => rw [e] at q; exact PoXS.at q
  | bad => rw [e] at q; exact q
def mNext : M Fl := fun env => .ok .nx env
def mSeq (f1 f2 : M Fl) : M Fl := fun env => match f1 env with
  | .ok .nx e => f2 e
  | r => r
theorem pssx_nil : PSSx X y [] mNext := ⟨PSs_imp pss_nil fun D σ H ⟨env, Hk, G, re, q⟩ => q σ Hk H (Kx.refl _ _) re⟩
theorem pssx_one (h : PSx X y st f) : PSSx X y [st] f := ⟨pss_one h.ps⟩
theorem pssx_cons (h : PSx X y st f1) (r : PSSx X y sts f2) : PSSx X y (st :: sts) (mSeq f1 f2) := by
  refine ⟨PSs_imp (pss_cons h.ps r.pss) fun D σ H ⟨env, Hk, G, re, q⟩ => ⟨env, Hk, G, re, ?_⟩⟩
  unfold mSeq at q
  cases z : f1 env with
  | ok fl e1 =>
    rw [z] at q
    cases fl with
    | nx => exact fun σ' Hk' H' k' r' => ⟨e1, Hk', G, r', q.kx k'⟩
    | bk => exact q
    | ct => exact q
    | rt t => exact q
  | ex c ns ds e1 => rw [z] at q; exact q
  | bad => rw [z] at q; exact q
theorem psx_pass : PSx X y (.Pass pos) mNext := ⟨PS_imp ps_pass fun D σ H ⟨env, Hk, G, re, q⟩ => q σ Hk H (Kx.refl _ _) re⟩
def mBreak : M Fl := fun env => .ok .bk env
def mCont : M Fl := fun env => .ok .ct env
theorem psx_break : PSx X y (.Break pos) mBreak := ⟨PS_imp ps_break fun D σ H ⟨env, Hk, G, re, q⟩ => q σ Hk H (Kx.refl _ _) re⟩
theorem psx_cont : PSx X y (.Continue pos) mCont := ⟨PS_imp ps_continue fun D σ H ⟨env, Hk, G, re, q⟩ => q σ Hk H (Kx.refl _ _) re⟩
theorem psx_doc {s : Str} {j : Nat} : PSx X y (.Expr (.Constant (.str s) j p) pos) mNext := ⟨PS_imp ps_doc fun D σ H ⟨env, Hk, G, re, q⟩ => q σ Hk H (Kx.refl _ _) re⟩
def mRet (m : M Tk) : M Fl := mBind m fun t env => .ok (.rt t) env
theorem psx_ret (h : PX X y e m) : PSx X y (.Return (some e) pos) (mRet m) :=
  ⟨PS_imp (ps_ret h.pe) fun D σ H ⟨env, Hk, G, re, q⟩ => ⟨env, Hk, G, re, ps_bind q fun t e v Hk' H1 k1 r1 rt1 q1 => q1 v σ Hk' H1 (Kx.refl _ _) r1 rt1⟩⟩
def mRetN : M Fl := fun env => .ok (.rt (.val .non)) env
theorem psx_retN : PSx X y (.Return none pos) mRetN := ⟨PS_imp ps_retN fun D σ H ⟨env, Hk, G, re, q⟩ => q .non σ Hk H (Kx.refl _ _) re (rp_non (C := y.ct X) (H := Hk))⟩
def mDrop (m : M Tk) : M Fl := mBind m fun _ env => .ok .nx env
theorem psx_expr (h : PX X y e m) (hs : swapsWith e none pos.line X.env = pure false := by rfl) : PSx X y (.Expr e pos) (mDrop m) :=
  ⟨PS_imp (ps_expr h.pe hs) fun D σ H ⟨env, Hk, G, re, q⟩ => ⟨env, Hk, G, re, ps_bind q fun t e v Hk' H1 k1 r1 rt1 q1 => q1 σ Hk' H1 (Kx.refl _ _) r1⟩⟩
def mIfS (n : M Bool) (f1 f2 : M Fl) : M Fl := mBind n fun b => if b = true then f1 else f2
theorem psx_if (hc : PB X y c n) (ha : PSSx X y sts f1) (hb : PSSx X y sts2 f2) : PSx X y (.If c sts sts2 pos) (mIfS n f1 f2) :=
  ⟨PS_imp (ps_if hc.pt ha.pss hb.pss) fun D σ H ⟨env, Hk, G, re, q⟩ => ⟨env, Hk, G, re, bs_bind q fun b e Hk' H1 k1 r1 q1 => by
    cases b with
    | true => rw [if_pos rfl] at q1; rw [if_pos rfl]; exact ⟨e, Hk', G, r1, q1⟩
    | false => rw [if_neg Bool.false_ne_true] at q1; rw [if_neg Bool.false_ne_true]; exact ⟨e, Hk', G, r1, q1⟩⟩⟩
/-! ### stores -/
def store (i : Nat) (t : Tk) : M Fl := fun env => match t with
  | .new d => .ok .nx (env.set i (.ow d))
  | t => match force t env with
    | .ok d e => .ok .nx (e.set i (.sh d))
    | _ => .bad
def mAsg (i : Nat) (m : M Tk) : M Fl := mBind m (store i)
theorem store_go {i : Nat} {t : Tk} {e : Env} {σ : L2.St} {Hk G H : Hp} {v : V} {D : Ends} (h0 : i ≠ 0 ∨ y.xa.p = none) (re : RE (y.ct X) y.xa G e σ Hk H) (rt : RT (y.ct X) G e σ Hk H t v) (q : PoS (y.ct X) y.xa y.W G Hk (store i t e) D) : D.nx (σ.set i (some v)) H := by
  have other : ∀ t : Tk, RT (y.ct X) G e σ Hk H t v → PoS (y.ct X) y.xa y.W G Hk (match force t e with
    | .ok d e => .ok .nx (e.set i (.sh d))
    | _ => .bad) D → D.nx (σ.set i (some v)) H := fun t rt q => by
    rcases force_cases t e with ⟨d, e1, z⟩ | z
    · rw [z] at q
      obtain ⟨Hk', k', r', rd⟩ := rt.force re z
      exact q _ Hk' H k' (r'.setSh rd)
    · rw [z] at q; exact q.elim
  cases t with
  | val d => exact other (.val d) rt q
  | slot k => exact other (.slot k) rt q
  | new d =>
    obtain ⟨a, rfl, h1, h2, h3⟩ := rt
    exact q _ Hk H (Kx.refl _ _) (re.setOw h0 h1 h2 h3)
theorem psx_set {i : Nat} {x : Str} (hN : X.N.Nodup) (h : PX X y e m) (h0 : i ≠ 0 ∨ y.xa.p = none := by first | exact .inl (by decide) | exact .inr rfl) (hi : X.N[i]? = some x := by rfl) (hx : Loc X.env.scope x := by first | exact Or.inl rfl | exact Or.inr rfl) (hs : swapsWith e (some (.Name x p)) pos.line X.env = pure false := by rfl)
    (hf : X.fn x = true ∨ X.env.scope.names.lookup x = some .local := by first | exact .inl rfl | exact .inr rfl) : PSx X y (.Assign [.Name x p] e pos) (mAsg i m) :=
  ⟨PS_imp (ps_set hN hi hx h.pe hs hf) fun D σ H ⟨env, Hk, G, re, q⟩ => ⟨env, Hk, G, re, ps_bind q fun t e v Hk' H1 k1 r1 rt1 q1 => store_go h0 r1 rt1 q1⟩⟩
/-! ### targets: what they store of known data; sl: the slots that may change -/
def tG (X : Cx) (y : Y) (sl : List Nat) (g : D → Env → Option Env) : TG := fun v σ H Q => ∃ env Hk G d, RE (y.ct X) y.xa G env σ Hk H ∧ Rp (y.ct X) Hk d v ∧ match g d env with
  | some e => ∀ σ', RE (y.ct X) y.xa G e σ' Hk H → σ'.length = σ.length → (∀ i, i ∉ sl → σ'[i]? = σ[i]?) → Q σ' H
  | none => False
def tGs (X : Cx) (y : Y) (sl : List Nat) (g : List D → Env → Option Env) : TGs := fun vs σ H Q => ∃ env Hk G ds, RE (y.ct X) y.xa G env σ Hk H ∧ RpL (y.ct X) Hk ds vs ∧ match g ds env with
  | some e => ∀ σ', RE (y.ct X) y.xa G e σ' Hk H → σ'.length = σ.length → (∀ i, i ∉ sl → σ'[i]? = σ[i]?) → Q σ' H
  | none => False
structure PGx (X : Cx) (y : Y) (e : Expr) (sl : List Nat) (g : D → Env → Option Env) : Prop where
  pg : PG X e (tG X y sl g)
structure PGsx (X : Cx) (y : Y) (es : List Expr) (sl : List Nat) (g : List D → Env → Option Env) : Prop where
  pgs : PGs X es (tGs X y sl g)
theorem PG_imp {e : Expr} {t t' : TG} (h : PG X e t) (f : ∀ v σ H Q, t' v σ H Q → t v σ H Q) : PG X e t' := ⟨fun pins s σ H v u Q I r q => h.run pins s σ H v u Q I r (f v σ H Q q)⟩
theorem PGs_imp {es : List Expr} {t t' : TGs} (h : PGs X es t) (f : ∀ v σ H Q, t' v σ H Q → t v σ H Q) : PGs X es t' := ⟨fun pins s σ H v u Q I r q => h.run pins s σ H v u Q I r (f v σ H Q q)⟩
def gN (i : Nat) : D → Env → Option Env := fun d env => some (env.set i (.sh d))
theorem pgx_name {i : Nat} {x : Str} (hN : X.N.Nodup) (hi : X.N[i]? = some x := by rfl) (hx : Loc X.env.scope x := by first | exact Or.inl rfl | exact Or.inr rfl) (hf : X.fn x = true ∨ X.env.scope.names.lookup x = some .local := by first | exact .inl rfl | exact .inr rfl) : PGx X y (.Name x p) [i] (gN i) :=
  ⟨PG_imp (pg_name hN hi hx hf) fun v σ H Q ⟨env, Hk, G, d, re, rd, q⟩ => q _ (re.setSh rd) (by simp) fun j hj => by
    rw [List.getElem?_set_ne]
    intro h
    exact hj (by simp [h])⟩
def gs0 : List D → Env → Option Env := fun ds env => match ds with
  | [] => some env
  | _ => none
def gs1 (g : D → Env → Option Env) (gs : List D → Env → Option Env) : List D → Env → Option Env := fun ds env => match ds with
  | d :: r => match g d env with
    | some e => gs r e
    | none => none
  | [] => none
theorem pgsx_nil : PGsx X y [] [] gs0 := ⟨PGs_imp pgs_nil fun vs σ H Q ⟨env, Hk, G, ds, re, rd, q⟩ => by
  unfold gs0 at q
  cases ds with
  | nil => unfold RpL at rd; exact ⟨rd, q σ re rfl fun _ _ => rfl⟩
  | cons => exact q.elim⟩
theorem pgsx_cons {es : List Expr} {sl sl' : List Nat} {g : D → Env → Option Env} {gs : List D → Env → Option Env} (h : PGx X y e sl g) (hr : PGsx X y es sl' gs)
    (hs : (assignEach (e :: es) X.env).map (·.2) = assign e X.env :: (assignEach es X.env).map (·.2) := by rfl) : PGsx X y (e :: es) (sl ++ sl') (gs1 g gs) :=
  ⟨PGs_imp (pgs_cons h.pg hr.pgs hs) fun vs σ H Q ⟨env, Hk, G, ds, re, rd, q⟩ => by
    unfold gs1 at q
    cases ds with
    | nil => exact q.elim
    | cons d ds =>
      obtain ⟨v, r, rfl, h1, h2⟩ := rd.inv
      refine ⟨v, r, rfl, env, Hk, G, d, re, h1, ?_⟩
      dsimp only at q
      cases z : g d env with
      | none => rw [z] at q; exact q.elim
      | some e1 =>
        rw [z] at q
        dsimp only at q ⊢
        intro σ1 r1 l1 s1
        refine ⟨e1, Hk, G, ds, r1, h2, ?_⟩
        cases z2 : gs ds e1 with
        | none => rw [z2] at q; exact q.elim
        | some e2 =>
          rw [z2] at q
          dsimp only at q ⊢
          intro σ2 r2 l2 s2
          refine q σ2 r2 (l2.trans l1) fun i hi => ?_
          rw [List.mem_append, not_or] at hi
          rw [s2 i hi.2, s1 i hi.1]⟩
def gT (n : Nat) (gs : List D → Env → Option Env) : D → Env → Option Env := fun d env => match d with
  | .tup ds => if ds.length = n then gs ds env else none
  | _ => none
theorem pgx_tup {es : List Expr} {k : Nat} {sl : List Nat} {gs : List D → Env → Option Env} {n : Nat} (hc : X.calm = true) (h : PGsx X y es sl gs)
    (hn : (assignEach es X.env).length = n := by rfl) (hst : (assignEach es X.env).findIdx? (·.1) = none := by rfl) : PGx X y (.Tuple es k pos) sl (gT n gs) :=
  ⟨PG_imp (pg_tup hc h.pgs hn hst) fun v σ H Q ⟨env, Hk, G, d, re, rd, q⟩ => by
    unfold gT at q
    cases d with
    | tup ds =>
      dsimp only at q
      unfold Rp at rd
      obtain ⟨a, vs, rfl, h1, h2⟩ := rd
      by_cases hl : ds.length = n
      · rw [if_pos hl] at q
        refine ⟨a, vs, rfl, sqT (re.hk _ _ h1), by rw [← h2.len]; exact hl, env, Hk, G, ds, re, h2, ?_⟩
        cases z2 : gs ds env with
        | none => rw [z2] at q; exact q.elim
        | some e => rw [z2] at q; exact q
      · rw [if_neg hl] at q; exact q.elim
    | _ => exact q.elim⟩
def mAsgG (g : D → Env → Option Env) (m : M Tk) : M Fl := mBind m fun t env => match force t env with
  | .ok d e => match g d e with
    | some e2 => .ok .nx e2
    | none => .bad
  | _ => .bad
theorem psx_asg {tg : Expr} {sl : List Nat} {g : D → Env → Option Env} (h : PX X y e m) (hg : PGx X y tg sl g) (hs : swapsWithSole [tg] e pos.line X.env = pure false := by rfl) (hw : swappedStores [tg] e X.env = pure none := by rfl)
    (h1 : (assignEach [tg] X.env).map (·.2) = [assign tg X.env] := by rfl) : PSx X y (.Assign [tg] e pos) (mAsgG g m) :=
  ⟨PS_imp (ps_asg h.pe hg.pg hs hw h1) fun D σ H ⟨env, Hk, G, re, q⟩ => ⟨env, Hk, G, re, ps_bind q fun t e v Hk' H1 k1 r1 rt1 q1 => by
    rcases force_cases t e with ⟨d, e1, z⟩ | z
    · rw [z] at q1
      dsimp only at q1
      obtain ⟨Hk2, k2, r2, rd⟩ := rt1.force r1 z
      refine ⟨e1, Hk2, G, d, r2, rd, ?_⟩
      cases z2 : g d e1 with
      | none => rw [z2] at q1; exact q1.elim
      | some e2 => rw [z2] at q1; exact fun σ' r' _ _ => q1 σ' Hk2 H1 k2 r'
    · rw [z] at q1; exact q1.elim⟩⟩
end
end VM

set_option Elab.async false
set_option linter.all false
set_option maxRecDepth 100000
set_option maxHeartbeats 1000000
/-! VM 7: lists that change, what is walked, for, while, comprehensions -/
namespace VM
open PySem PySem.Spec PyProof.Rows L2
section
variable {X : Cx} {y : Y} {a b c e : Expr} {es : List Expr} {st : Stmt} {sts sts2 : List Stmt} {m m1 m2 mi : M Tk} {ma : M (List Tk)} {n : M Bool} {f f1 f2 : M Fl} {pos p p2 p3 : Pos}
def lim : Nat := 1000000
theorem lim_line {k : Nat} (h : k < lim) : k < sizeLine := Nat.lt_of_lt_of_le h (by decide)
/-- the list that slot k owns -/
def owL (k : Nat) (env : Env) : Option (List D) := match env[k]? with
  | some (.ow (.lst xs)) => some xs
  | _ => none
theorem owL_at {k : Nat} {env : Env} {xs : List D} (h : owL k env = some xs) : env[k]? = some (.ow (.lst xs)) := by
  unfold owL at h
  split at h
  · rename_i z; cases h; exact z
  · cases h
/-- x.append(e) -/
def mApp (k : Nat) (m : M Tk) : M Tk := fun env => match owL k env with
  | none => .bad
  | some _ => mBind m (fun t env => match force t env with
    | .ok d e => match owL k e with
      | some xs => if xs.length < lim then .ok (.val .non) (e.set k (.ow (.lst (xs ++ [d])))) else .bad
      | none => .bad
    | _ => .bad) env
theorem px_app {k : Nat} {o : Expr} (ho : PE X o (tVar k)) (h : PX X y e m) (hs : PE X (.Call (.Attribute o "append" p) [e] [] pos) (tBM X.K "list" rAppend (tVar k) (tCons (tE X y m) tNil))) : PX X y (.Call (.Attribute o "append" p) [e] [] pos) (mApp k m) := by
  refine ⟨PE_imp hs fun σ H Q ⟨env, Hk, G, re, q⟩ => ?_⟩
  unfold mApp at q
  cases z : owL k env with
  | none => rw [z] at q; exact q.elim
  | some xs0 =>
    rw [z] at q
    obtain ⟨l, hl, _, _, vs0, g1, _⟩ := re.ow k _ (owL_at z)
    refine ⟨.ref l, hl, .inl ⟨rfl, vs0, sqL g1⟩, env, Hk, G, re, po_bind q fun t e v Hk' H1 k1 r1 rt1 q1 => ?_⟩
    rcases force_cases t e with ⟨d, e1, z1⟩ | z1
    · rw [z1] at q1
      dsimp only at q1
      obtain ⟨Hk2, k2, r2, rd⟩ := rt1.force r1 z1
      cases z2 : owL k e1 with
      | none => rw [z2] at q1; exact q1.elim
      | some xs =>
        rw [z2] at q1
        dsimp only at q1
        split at q1
        · rename_i hlen
          obtain ⟨l', hl', w1, w2, vs, w3, w4⟩ := r2.ow k _ (owL_at z2)
          rw [hl] at hl'
          cases hl'
          refine ⟨l, vs, v, rfl, rfl, w3, by rw [← w4.len]; exact lim_line hlen, ?_⟩
          exact q1 .non Hk2 _ k2 (r2.mut (owL_at z2) hl ⟨w2, _, upd_same, w4.append (.cons rd .nil)⟩) (rp_non (C := y.ct X) (H := Hk2))
        · exact q1.elim
    · rw [z1] at q1; exact q1.elim
/-- x[i] = e -/
def mSetI (k : Nat) (mi m : M Tk) : M Fl := mBind m fun t env => match force t env with
  | .ok d e1 => match owL k e1 with
    | none => .bad
    | some _ => mBind mi (fun ti e2 => match look ti e2, owL k e2 with
      | some (.int i), some xs => match ixN xs.length i with
        | some j => .ok .nx (e2.set k (.ow (.lst (xs.set j d))))
        | none => .bad
      | _, _ => .bad) e1
  | _ => .bad
theorem psx_setI {k : Nat} {o i : Expr} (h : PX X y e m) (hi : PX X y i mi) (hs : PS X (.Assign [.Subscript o i p] e pos) (tAsg (tE X y m) (gSub (tVar k) (tE X y mi) rSetL))) : PSx X y (.Assign [.Subscript o i p] e pos) (mSetI k mi m) := by
  refine ⟨PS_imp hs fun D σ H ⟨env, Hk, G, re, q⟩ => ⟨env, Hk, G, re, ps_bind q fun t e v Hk' H1 k1 r1 rt1 q1 => ?_⟩⟩
  rcases force_cases t e with ⟨d, e1, z1⟩ | z1
  · rw [z1] at q1
    dsimp only at q1
    obtain ⟨Hk2, k2, r2, rd⟩ := rt1.force r1 z1
    have q1 := q1.kx k2
    cases z : owL k e1 with
    | none => rw [z] at q1; exact q1.elim
    | some xs0 =>
      rw [z] at q1
      dsimp only at q1
      obtain ⟨l, hl, _, _, vs0, g1, _⟩ := r2.ow k _ (owL_at z)
      refine ⟨.ref l, hl, e1, Hk2, G, r2, ps_bind q1 fun ti e2 w Hk3 H3 k3 r3 rt3 q3 => ?_⟩
      cases z2 : look ti e2 with
      | none => rw [z2] at q3; exact q3.elim
      | some di =>
        rw [z2] at q3
        cases di with
        | int i =>
          cases z3 : owL k e2 with
          | none => rw [z3] at q3; exact q3.elim
          | some xs =>
            rw [z3] at q3
            dsimp only at q3
            cases z4 : ixN xs.length i with
            | none => rw [z4] at q3; exact q3.elim
            | some j =>
              rw [z4] at q3
              obtain ⟨l', hl', w1, w2, vs, w3, w4⟩ := r3.ow k _ (owL_at z3)
              rw [hl] at hl'
              cases hl'
              refine ⟨l, vs, i, j, rfl, (rt3.look r3 z2).int, w3, by rw [← w4.len]; exact z4, ?_⟩
              exact q3 σ Hk3 _ (Kx.refl _ _) (r3.mut (owL_at z3) hl ⟨w2, _, upd_same, w4.set (rd.mono k3.ex)⟩)
        | _ => exact q3.elim
  · rw [z1] at q1; exact q1.elim

/-! ### what is walked -/
/-- the iterator J gives ds, one after another -/
def Serv (C : Ct) (J : It) (Hk : Hp) (ds : List D) : Prop := ∀ (i : Nat) (Hk1 H : Hp), Ex Hk Hk1 → Ex Hk1 H → (∀ d, ds[i]? = some d → J.go i H ∧ ∀ x H', J.yld i H x H' → Res C Hk1 H (.val d) x H') ∧ (ds.length ≤ i → J.stop i H)
def PoI (C : Ct) (xa : Xa) (W : WX) (G : Hp) (σ : L2.St) (Hk : Hp) (r : Rs (List D)) (R : It → Hp → Prop) : Prop := match r with
  | .ok ds e => ∀ J Hk' H', Kx G Hk Hk' → RE C xa G e σ Hk' H' → Serv C J Hk' ds → R J H'
  | .ex c ns ds e => PoX C xa W G σ Hk c ns ds e
  | .bad => False
def tI (X : Cx) (y : Y) (m : M (List D)) : TI := fun σ H R => ∃ env Hk G, RE (y.ct X) y.xa G env σ Hk H ∧ PoI (y.ct X) y.xa y.W G σ Hk (m env) R
structure PIx (X : Cx) (y : Y) (tg e : Expr) (m : M (List D)) : Prop where
  pi : PI X tg e (tI X y m)
theorem PI_imp {tg e : Expr} {t t' : TI} (h : PI X tg e t) (f : ∀ σ H Q, t' σ H Q → t σ H Q) : PI X tg e t' := ⟨fun pins s σ H R I q => h.run pins s σ H R I (f σ H R q)⟩
theorem PI_or {tg e : Expr} {t t' : TI} (h : PI X tg e t) (h' : PI X tg e t') : PI X tg e (fun σ H R => t σ H R ∨ t' σ H R) := ⟨fun pins s σ H R I q => q.elim (h.run pins s σ H R I) (h'.run pins s σ H R I)⟩
variable {tg : Expr}
/-- a list, a tuple, the script -/
def mIter (m : M Tk) : M (List D) := mBind m fun t env => match force t env with
  | .ok (.lst xs) e => .ok xs e
  | .ok (.tup xs) e => .ok xs e
  | .ok (.scr ns) e => .ok (ns.map .int) e
  | _ => .bad
theorem serv_lst {C : Ct} {Hk : Hp} {a : Addr} {xs : List D} {vs : List V} (h : SqL C.K Hk a vs) (r : RpL C Hk xs vs) : Serv C (Itl C.K a) Hk xs := by
  intro i Hk1 H e1 e2
  have h1 : SqL C.K H a vs := ex_l (e1.trans e2) h
  refine ⟨fun d hd => ?_, fun hi => ⟨vs, h1, by rw [← r.len]; exact hi⟩⟩
  obtain ⟨v, hv, rv⟩ := r.get hd
  exact ⟨⟨vs, v, h1, hv⟩, fun x H' hy => by
    obtain ⟨rfl, hx⟩ := hy
    have := hx vs h1
    rw [hv] at this
    cases this
    exact res_flat (rv.mono e1) e2⟩
theorem serv_tup {C : Ct} {Hk : Hp} {a : Addr} {xs : List D} {vs : List V} (h : Hk a = some (.tup vs)) (r : RpL C Hk xs vs) : Serv C (Itt C.K a) Hk xs := by
  intro i Hk1 H e1 e2
  have h1 : SqT C.K H a vs := sqT (e2 _ _ (e1 _ _ h))
  refine ⟨fun d hd => ?_, fun hi => ⟨vs, h1, by rw [← r.len]; exact hi⟩⟩
  obtain ⟨v, hv, rv⟩ := r.get hd
  exact ⟨⟨vs, v, h1, hv⟩, fun x H' hy => by
    obtain ⟨rfl, hx⟩ := hy
    have := hx vs h1
    rw [hv] at this
    cases this
    exact res_flat (rv.mono e1) e2⟩
theorem pix_seq (h : PX X y e m) : PIx X y tg e (mIter m) := by
  refine ⟨PI_imp (PI_or (pi_list h.pe) (pi_tup h.pe)) fun σ H R ⟨env, Hk, G, re, q⟩ => ?_⟩
  unfold mIter mBind at q
  have key : ∀ t e1, m env = .ok t e1 → (∃ xs e2, force t e1 = .ok (.tup xs) e2) ∨ ¬ (∃ xs e2, force t e1 = .ok (.tup xs) e2) := fun t e1 _ => Classical.em _
  cases z : m env with
  | ok t e1 =>
    rw [z] at q
    dsimp only at q
    rcases key t e1 z with ⟨xs, e2, z2⟩ | nt
    · refine .inr ⟨env, Hk, G, re, ?_⟩
      rw [z]
      intro v Hk1 H1 k1 r1 rt1
      rw [z2] at q
      obtain ⟨Hk2, k2, r2, rd⟩ := rt1.force r1 z2
      unfold Rp at rd
      obtain ⟨a, vs, rfl, h1, h2⟩ := rd
      exact ⟨a, rfl, ⟨vs, sqT (r2.hk _ _ h1)⟩, q _ Hk2 H1 (k1.trans k2) r2 (serv_tup (C := y.ct X) h1 h2)⟩
    · refine .inl ⟨env, Hk, G, re, ?_⟩
      rw [z]
      intro v Hk1 H1 k1 r1 rt1
      rcases force_cases t e1 with ⟨d, e2, z2⟩ | z2
      · rw [z2] at q
        obtain ⟨Hk2, k2, r2, rd⟩ := rt1.force r1 z2
        cases d with
        | lst xs =>
          unfold Rp at rd
          obtain ⟨a, vs, rfl, h1, h2⟩ := rd
          exact ⟨a, rfl, ⟨vs, sqL (r2.hk _ _ h1)⟩, q _ Hk2 H1 (k1.trans k2) r2 (serv_lst (C := y.ct X) (sqL h1) h2)⟩
        | scr ns =>
          unfold Rp at rd
          obtain ⟨a, rfl, h1⟩ := rd
          exact ⟨a, rfl, ⟨_, ex_l r2.hk h1⟩, q _ Hk2 H1 (k1.trans k2) r2 (serv_lst (C := y.ct X) h1 ints_rpl)⟩
        | tup xs => exact absurd ⟨xs, e2, z2⟩ nt
        | _ => exact q.elim
      · rw [z2] at q; exact q.elim
  | ex c ns ds e1 =>
    rw [z] at q
    exact .inl ⟨env, Hk, G, re, by rw [z]; exact q⟩
  | bad => rw [z] at q; exact q.elim
/-- range(n), range(lo, n) -/
def rngD (lo : Int) (n : Nat) : List D := (List.range n).map fun i => .int (lo + (i : Nat))
theorem serv_rng {C : Ct} {Hk : Hp} {lo : Int} {n : Nat} : Serv C (Itr lo n) Hk (rngD lo n) := by
  intro i Hk1 H e1 e2
  refine ⟨fun d hd => ?_, fun hi => ?_⟩
  · unfold rngD at hd
    rw [List.getElem?_map] at hd
    cases z : (List.range n)[i]? with
    | none => rw [z] at hd; cases hd
    | some j =>
      rw [z] at hd
      cases hd
      obtain ⟨hl, hj⟩ := List.getElem?_eq_some_iff.mp z
      rw [List.getElem_range] at hj
      subst hj
      have hl' : i < n := by simpa using hl
      exact ⟨hl', fun x H' hy => by
        obtain ⟨rfl, rfl⟩ := hy
        exact res_flat rp_int e2⟩
  · unfold rngD at hi
    have hi' : n ≤ i := by simpa using hi
    exact hi'
def okR (i : Int) : Bool := decide (-(2 ^ 62) ≤ i ∧ i < 2 ^ 62)
def mRng (ma : M (List Tk)) : M (List D) := mBind ma fun ts env => match lookAll ts env with
  | some [.int n] => if okR n = true then .ok (rngD 0 n.toNat) env else .bad
  | some [.int lo, .int n] => if okR lo = true ∧ okR n = true then .ok (rngD lo (n - lo).toNat) env else .bad
  | _ => .bad
theorem ai_bind {g : List Tk → M (List D)} {env : Env} {G : Hp} {σ : L2.St} {Hk : Hp} {Q : It → Hp → Prop} {R : List V → Hp → Prop} (q : PoI (y.ct X) y.xa y.W G σ Hk (mBind ma g env) Q)
    (k : ∀ ts e vs Hk' H1, Kx G Hk Hk' → RE (y.ct X) y.xa G e σ Hk' H1 → RVs (y.ct X) σ Hk' ts vs → PoI (y.ct X) y.xa y.W G σ Hk' (g ts e) Q → R vs H1) : PoA (y.ct X) y.xa y.W G σ Hk (ma env) R := by
  unfold mBind at q
  cases e : ma env with
  | ok t e1 =>
    rw [e] at q
    refine fun v Hk' H' k' r' h' => k t e1 v Hk' H' k' r' h' ?_
    dsimp only at q
    cases z : g t e1 with
    | ok ds e2 => rw [z] at q; exact fun J H2 H3 k2 => q J H2 H3 (k'.trans k2)
    | ex c ns ds e2 => rw [z] at q; exact PoX.kx k' q
    | bad => rw [z] at q; exact q
  | ex c ns ds e1 => rw [e] at q; exact q
  | bad => rw [e] at q; exact q
theorem paired1 {C : Ct} {Hk H : Hp} {n : Int} {vs : List V} (h : Paired (fun d v => Pk C Hk H d v) [D.int n] vs) : vs = [.int n] := by
  cases h with
  | cons h1 h2 => cases h2; rw [h1.int]
theorem paired2 {C : Ct} {Hk H : Hp} {n k : Int} {vs : List V} (h : Paired (fun d v => Pk C Hk H d v) [D.int n, D.int k] vs) : vs = [.int n, .int k] := by
  cases h with
  | cons h1 h2 =>
    cases h2 with
    | cons h2 h3 => cases h3; rw [h1.int, h2.int]
theorem okR_at {i : Int} (h : okR i = true) : -(2 ^ 62) ≤ i ∧ i < 2 ^ 62 := of_decide_eq_true h
theorem pix_rng1 (hm : X.mg "range" = none) (ha : PAs X y [a] ma) (hn : Many ma 1) (hg : Gl X "range" := by rfl) (hs : starEach [a] X.env = [(false, eval a X.env)] := by rfl) : PIx X y tg (.Call (.Name "range" p) [a] [] pos) (mRng ma) := by
  refine ⟨PI_imp (pi_range1 hg hm ha.pa hs) fun σ H R ⟨env, Hk, G, re, q⟩ => ⟨env, Hk, G, re, ?_⟩⟩
  have hl : ∀ ts e, ma env = .ok ts e → ts.length = 1 := fun ts e z => hn _ _ _ z
  unfold mRng at q
  cases z0 : ma env with
  | ok ts e1 =>
    have q' := q
    unfold mBind at q'
    rw [z0] at q'
    dsimp only at q'
    intro vs Hk1 H1 k1 r1 rs
    cases z : lookAll ts e1 with
    | none => rw [z] at q'; exact q'.elim
    | some ds =>
      rw [z] at q'
      have hp := RVs.look r1 rs z
      have hlen : ds.length = 1 := by
        have h1 := hl ts e1 z0
        have h2 := rs.len
        have h3 : ds.length = vs.length := Paired.length hp
        omega
      match ds, hp, hlen, q' with
      | [.int n], hp, _, q' =>
        dsimp only at q'
        split at q'
        · rename_i ok
          have o := okR_at ok
          exact ⟨n, paired1 hp, o.1, o.2, q' _ Hk1 H1 k1 r1 serv_rng⟩
        · exact q'.elim
  | ex c ns ds e1 => unfold mBind at q; rw [z0] at q; exact q
  | bad => unfold mBind at q; rw [z0] at q; exact q
theorem pix_rng2 (hm : X.mg "range" = none) (ha : PAs X y [a, b] ma) (hn : Many ma 2) (hg : Gl X "range" := by rfl) (hs : starEach [a, b] X.env = [(false, eval a X.env), (false, eval b X.env)] := by rfl) (hs2 : starEach [b] X.env = [(false, eval b X.env)] := by rfl) :
    PIx X y tg (.Call (.Name "range" p) [a, b] [] pos) (mRng ma) := by
  refine ⟨PI_imp (pi_range2 hg hm ha.pa hs hs2) fun σ H R ⟨env, Hk, G, re, q⟩ => ⟨env, Hk, G, re, ?_⟩⟩
  have hl : ∀ ts e, ma env = .ok ts e → ts.length = 2 := fun ts e z => hn _ _ _ z
  unfold mRng at q
  cases z0 : ma env with
  | ok ts e1 =>
    have q' := q
    unfold mBind at q'
    rw [z0] at q'
    dsimp only at q'
    intro vs Hk1 H1 k1 r1 rs
    cases z : lookAll ts e1 with
    | none => rw [z] at q'; exact q'.elim
    | some ds =>
      rw [z] at q'
      have hp := RVs.look r1 rs z
      have hlen : ds.length = 2 := by
        have h1 := hl ts e1 z0
        have h2 := rs.len
        have h3 : ds.length = vs.length := Paired.length hp
        omega
      match ds, hp, hlen, q' with
      | [.int lo, .int n], hp, _, q' =>
        dsimp only at q'
        split at q'
        · rename_i ok
          have o := okR_at ok.1
          have o2 := okR_at ok.2
          exact ⟨lo, n, paired2 hp, ⟨o.1, o.2, o2.1, o2.2⟩, q' _ Hk1 H1 k1 r1 serv_rng⟩
        · exact q'.elim
  | ex c ns ds e1 => unfold mBind at q; rw [z0] at q; exact q
  | bad => unfold mBind at q; rw [z0] at q; exact q
end
end VM

set_option Elab.async false
set_option linter.all false
set_option maxRecDepth 100000
set_option maxHeartbeats 1000000
/-! VM 8: for, while, comprehensions -/
namespace VM
open PySem PySem.Spec PyProof.Rows L2
def forget (l : List Nat) (env : Env) : Env := l.foldl (fun e i => e.set i .no) env
theorem RE.forget {C : Ct} {xa : Xa} {G : Hp} {σ : L2.St} {Hk H : Hp} : ∀ (l : List Nat) {env : Env}, RE C xa G env σ Hk H → RE C xa G (VM.forget l env) σ Hk H
  | [], _, r => r
  | i :: l, _, r => RE.forget l (r.drop i)
section
variable {X : Cx} {y : Y} {a b c e : Expr} {es : List Expr} {st : Stmt} {sts sts2 : List Stmt} {m m1 m2 mi : M Tk} {ma : M (List Tk)} {n : M Bool} {f f1 f2 : M Fl} {pos p p2 p3 : Pos} {tg : Expr}
def mLoop (g : D → Env → Option Env) (junk : List Nat) (body : M Fl) : List D → M Fl
  | [] => fun env => .ok .nx env
  | d :: ds => fun env => match g d env with
    | none => .bad
    | some e1 => match body e1 with
      | .ok .nx e2 => mLoop g junk body ds (forget junk e2)
      | .ok .ct e2 => mLoop g junk body ds (forget junk e2)
      | .ok .bk e2 => .ok .nx (forget junk e2)
      | .ok (.rt t) e2 => .ok (.rt t) e2
      | .ex c ns xs e2 => .ex c ns xs e2
      | .bad => .bad
def mFor (mi : M (List D)) (g : D → Env → Option Env) (junk : List Nat) (body : M Fl) : M Fl := mBind mi (mLoop g junk body)
theorem psx_for {mi : M (List D)} {g : D → Env → Option Env} {sl : List Nat} (junk : List Nat) (hp : PassesOwn (model X.prog X.w) X.A X.env X.xe) (hc : X.calm = true) (hi : PIx X y tg e mi) (hg : PGx X y tg sl g) (hb : PSSx X y sts f)
    (hs : ∀ x, foldedSetIterable e X.env x = pure x := by intro _; rfl) : PSx X y (.For tg e sts [] pos) (mFor mi g junk f) := by
  refine ⟨PS_imp (ps_for hp hc hi.pi hg.pg hb.pss hs) fun D σ H ⟨env, Hk, G, re, q⟩ => ⟨env, Hk, G, re, ?_⟩⟩
  unfold mFor mBind at q
  cases z : mi env with
  | bad => rw [z] at q; exact q
  | ex c ns ds e1 => rw [z] at q; exact PoXS.at q
  | ok ds e1 =>
    rw [z] at q
    dsimp only at q
    intro J Hk0 H0 k0 r0 sv
    refine ⟨fun i m σ H => m = ds.length - i ∧ i ≤ ds.length ∧ ∃ env Hk, RE (y.ct X) y.xa G env σ Hk H ∧ Kx G Hk0 Hk ∧ PoS (y.ct X) y.xa y.W G Hk (mLoop g junk f (ds.drop i) env) D,
      ⟨ds.length, by simp, Nat.zero_le _, e1, Hk0, r0, Kx.refl _ _, q.kx k0⟩, ?_⟩
    rintro i m σ1 H1 ⟨rfl, hi, env1, Hk1, r1, k1, q1⟩
    obtain ⟨s1, s2⟩ := sv i Hk1 H1 k1.ex r1.hk
    by_cases hlt : i < ds.length
    · right
      have hd : ds[i]? = some ds[i] := List.getElem?_eq_getElem hlt
      obtain ⟨go, yl⟩ := s1 _ hd
      refine ⟨go, fun σ' H' => ∃ env' Hk', RE (y.ct X) y.xa G env' σ' Hk' H' ∧ Kx G Hk0 Hk' ∧ PoS (y.ct X) y.xa y.W G Hk' (mLoop g junk f (ds.drop (i + 1)) env') D,
        fun σ' H' ⟨env', Hk', r', k', q'⟩ => ⟨ds.length - (i + 1), by omega, rfl, by omega, env', Hk', r', k', q'⟩, fun x H' hy => ?_⟩
      obtain ⟨Hk2, k2, r2, rx⟩ := r1.res (yl x H' hy)
      rw [List.drop_eq_getElem_cons hlt] at q1
      unfold mLoop at q1
      refine ⟨env1, Hk2, G, ds[i], r2, rx, ?_⟩
      cases z1 : g ds[i] env1 with
      | none => rw [z1] at q1; exact q1.elim
      | some e2 =>
        rw [z1] at q1
        dsimp only at q1
        intro σ2 r3 _ _
        refine ⟨e2, Hk2, G, r3, ?_⟩
        have q1 := q1.kx k2
        cases z2 : f e2 with
        | bad => rw [z2] at q1; exact q1.elim
        | ex c ns xs e3 => rw [z2] at q1; exact q1
        | ok fl e3 =>
          rw [z2] at q1
          cases fl with
          | nx => exact fun σ' Hk' H' k' r' => ⟨_, Hk', r'.forget junk, (k1.trans k2).trans k', q1.kx k'⟩
          | ct => exact fun σ' Hk' H' k' r' => ⟨_, Hk', r'.forget junk, (k1.trans k2).trans k', q1.kx k'⟩
          | bk => exact fun σ' Hk' H' k' r' => q1 σ' Hk' H' k' (r'.forget junk)
          | rt t => exact q1
    · left
      have hl : ds.length ≤ i := by omega
      refine ⟨s2 hl, ?_⟩
      rw [List.drop_eq_nil_of_le hl] at q1
      exact q1 σ1 Hk1 H1 (Kx.refl _ _) r1
def mWhile (n : M Bool) (junk : List Nat) (body : M Fl) : Nat → M Fl
  | 0 => fun _ => .bad
  | k + 1 => mBind n fun b => if b = true then fun e1 => match body e1 with
      | .ok .nx e2 => mWhile n junk body k (forget junk e2)
      | .ok .ct e2 => mWhile n junk body k (forget junk e2)
      | .ok .bk e2 => .ok .nx (forget junk e2)
      | .ok (.rt t) e2 => .ok (.rt t) e2
      | .ex c ns xs e2 => .ex c ns xs e2
      | .bad => .bad
    else fun e => .ok .nx e
theorem psx_while (k : Nat) (junk : List Nat) (hp : PassesOwn (model X.prog X.w) X.A X.env X.xe) (hc : PB X y c n) (hb : PSSx X y sts f) : PSx X y (.While c sts [] pos) (mWhile n junk f k) := by
  refine ⟨PS_imp (ps_while hp hc.pt hb.pss) fun D σ H ⟨env, Hk, G, re, q⟩ => ?_⟩
  refine ⟨fun m σ H => ∃ env Hk, RE (y.ct X) y.xa G env σ Hk H ∧ PoS (y.ct X) y.xa y.W G Hk (mWhile n junk f m env) D, ⟨k, env, Hk, re, q⟩, ?_⟩
  rintro m σ1 H1 ⟨env1, Hk1, r1, q1⟩
  cases m with
  | zero => exact q1.elim
  | succ m =>
    unfold mWhile at q1
    refine ⟨env1, Hk1, G, r1, bs_bind q1 fun b e Hk2 H2 k2 r2 q2 => ?_⟩
    cases b with
    | false => rw [if_neg Bool.false_ne_true] at q2 ⊢; exact q2 σ1 Hk2 H2 (Kx.refl _ _) r2
    | true =>
      rw [if_pos rfl] at q2 ⊢
      refine ⟨fun σ' H' => ∃ env' Hk', RE (y.ct X) y.xa G env' σ' Hk' H' ∧ PoS (y.ct X) y.xa y.W G Hk' (mWhile n junk f m env') D, fun σ' H' h => ⟨m, Nat.lt_succ_self m, h⟩, e, Hk2, G, r2, ?_⟩
      cases z2 : f e with
      | bad => rw [z2] at q2; exact q2.elim
      | ex c ns xs e3 => rw [z2] at q2; exact q2
      | ok fl e3 =>
        rw [z2] at q2
        cases fl with
        | nx => exact fun σ' Hk' H' k' r' => ⟨_, Hk', r'.forget junk, q2.kx k'⟩
        | ct => exact fun σ' Hk' H' k' r' => ⟨_, Hk', r'.forget junk, q2.kx k'⟩
        | bk => exact fun σ' Hk' H' k' r' => q2 σ' Hk' H' k' (r'.forget junk)
        | rt t => exact q2

/-! ### comprehensions -/
/-- within a comprehension's block no exception is let out -/
abbrev Y.blk (y : Y) : Y := { y with W := fun _ _ _ _ => False }
def wipeE : List Nat → Env → Env
  | [], env => env
  | v :: vs, env => (wipeE vs env).set v .no
def mLcLoop (g : D → Env → Option Env) (own : List Nat) (test : M Bool) (elt : M Tk) : List D → List D → M (List D)
  | [], acc => fun env => .ok acc env
  | d :: ds, acc => fun env => match g d env with
    | none => .bad
    | some e1 => match test e1 with
      | .ok true e2 => match elt e2 with
        | .ok t e3 => match force t e3 with
          | .ok x e4 => if acc.length < lim then mLcLoop g own test elt ds (acc ++ [x]) (wipeE own e4) else .bad
          | _ => .bad
        | _ => .bad
      | .ok false e2 => mLcLoop g own test elt ds acc (wipeE own e2)
      | _ => .bad
/-- the block's own names as they stood ahead -/
def restore : List Nat → Env → Env → Env
  | [], _, env => env
  | v :: vs, env0, env => restore vs env0 (env.set v (env0.getD v .no))
/-- none of these slots owns -/
def noOw (own : List Nat) (env : Env) : Bool := own.all fun i => match env[i]? with
  | some .no => true
  | some (.sh _) => true
  | _ => false
def mLc (mi : M (List D)) (g : D → Env → Option Env) (own : List Nat) (test : M Bool) (elt : M Tk) : M Tk := mBind mi fun ds e1 => if noOw own e1 = true then match mLcLoop g own test elt ds [] (wipeE own e1) with
    | .ok out e2 => .ok (.new (.lst out)) (restore own e1 e2)
    | _ => .bad
  else .bad
section
variable {C : Ct} {xa : Xa} {G : Hp} {Hk H : Hp}
theorem wipe_get {i : Nat} {σ : L2.St} : ∀ {own : List Nat}, i ∉ own → (wipe σ own)[i]? = σ[i]?
  | [], _ => rfl
  | j :: own, hi => by
    show ((wipe σ own).set j none)[i]? = _
    rw [List.getElem?_set_ne (fun h => hi (by rw [h]; exact List.mem_cons_self)), wipe_get (fun h => hi (List.mem_cons_of_mem _ h))]
theorem RE.wipe {σ : L2.St} : ∀ (own : List Nat) {env : Env}, RE C xa G env σ Hk H → RE C xa G (wipeE own env) (L2.wipe σ own) Hk H
  | [], _, r => r
  | v :: vs, _, r => (RE.wipe vs r).dropSet v none
theorem RE.unset {τ : L2.St} {e : Env} {v : Nat} {x : S} (r : RE C xa G e (τ.set v none) Hk H) (h : x = .no ∨ ∃ d w, x = .sh d ∧ τ[v]? = some (some w) ∧ Rp C Hk d w) : RE C xa G (e.set v x) τ Hk H := by
  rcases h with h | ⟨d, w, h, h1, h2⟩
  · subst h
    cases z : τ[v]? with
    | none =>
      have hl : τ.length ≤ v := List.getElem?_eq_none_iff.mp z
      rw [List.set_eq_of_length_le hl] at r
      exact r.drop v
    | some o =>
      have r2 := r.dropSet v o
      rw [List.set_set, set_id z] at r2
      exact r2
  · subst h
    have r2 := r.setSh (k := v) h2
    rw [List.set_set, set_id h1] at r2
    exact r2
theorem RE.restore {σ : L2.St} {env0 : Env} : ∀ (own : List Nat) {e : Env}, own.Nodup → RE C xa G e (L2.wipe σ own) Hk H → (∀ i ∈ own, env0.getD i .no = .no ∨ ∃ d w, env0.getD i .no = .sh d ∧ σ[i]? = some (some w) ∧ Rp C Hk d w) → RE C xa G (VM.restore own env0 e) σ Hk H
  | [], _, _, r, _ => r
  | v :: vs, e, nd, r, h => by
    obtain ⟨n1, n2⟩ := List.nodup_cons.mp nd
    refine RE.restore vs n2 (RE.unset r ?_) fun i hi => h i (List.mem_cons_of_mem _ hi)
    rcases h v List.mem_cons_self with z | ⟨d, w, z1, z2, z3⟩
    · exact .inl z
    · exact .inr ⟨d, w, z1, by rw [wipe_get n1]; exact z2, z3⟩
theorem restore_ow {env0 : Env} {i : Nat} {d : D} : ∀ {own : List Nat} {e : Env}, (∀ j ∈ own, env0.getD j .no = .no ∨ ∃ d, env0.getD j .no = .sh d) → (VM.restore own env0 e)[i]? = some (.ow d) → e[i]? = some (.ow d) ∧ i ∉ own
  | [], _, _, h => ⟨h, by simp⟩
  | v :: vs, e, hn, h => by
    obtain ⟨h1, h2⟩ := restore_ow (own := vs) (fun j hj => hn j (List.mem_cons_of_mem _ hj)) h
    rcases set_get h1 with ⟨e1, _, e2⟩ | ⟨e1, h1⟩
    · exfalso
      rcases hn v List.mem_cons_self with z | ⟨d', z⟩
      · rw [z] at e2; cases e2
      · rw [z] at e2; cases e2
    · refine ⟨h1, fun hm => ?_⟩
      rcases List.mem_cons.mp hm with z | z
      · exact e1 z.symm
      · exact h2 z
theorem noOw_at {own : List Nat} {env : Env} {σ : L2.St} (r : RE C xa G env σ Hk H) (h : noOw own env = true) (i : Nat) (hi : i ∈ own) : env.getD i .no = .no ∨ ∃ d w, env.getD i .no = .sh d ∧ σ[i]? = some (some w) ∧ Rp C Hk d w := by
  unfold noOw at h
  have h := List.all_eq_true.mp h i hi
  have hg : env.getD i .no = (env[i]?).getD .no := by rw [List.getD_eq_getElem?_getD]
  rw [hg]
  cases z : env[i]? with
  | none => exact .inl rfl
  | some s =>
    rw [z] at h
    cases s with
    | no => exact .inl rfl
    | sh d =>
      obtain ⟨v, h1, h2⟩ := r.sh i d z
      exact .inr ⟨d, v, rfl, h1, h2⟩
    | ow d => simp at h
    | xv c ns ds => simp at h
end
variable {elt iter : Expr} {ifs : List Expr}
/-- tests of a clause -/
structure PBs (X : Cx) (y : Y) (ifs : List Expr) (m : M Bool) : Prop where
  pts : PTs X ifs (tB X y m)
theorem PTs_imp {ifs : List Expr} {t t' : TT} (h : PTs X ifs t) (f : ∀ σ H Q, t' σ H Q → t σ H Q) : PTs X ifs t' := ⟨fun pins s σ H Q I q => h.run pins s σ H Q I (f σ H Q q)⟩
def mYes : M Bool := fun env => .ok true env
theorem pbs_nil : PBs X y [] mYes := ⟨PTs_imp pts_nil fun σ H Q ⟨env, Hk, G, re, q⟩ => q Hk H (Kx.refl _ _) re⟩
theorem pbs_one (h : PB X y c n) : PBs X y [c] n := ⟨pts_one h.pt⟩
theorem wipe_eq {σ τ : L2.St} : ∀ {own : List Nat}, τ.length = σ.length → (∀ i, i ∉ own → τ[i]? = σ[i]?) → wipe τ own = wipe σ own := by
  intro own hl h
  apply List.ext_getElem?
  intro j
  by_cases hj : j ∈ own
  · have key : ∀ (own : List Nat) (ρ : L2.St), j ∈ own → (wipe ρ own)[j]? = if j < ρ.length then some none else none := by
      intro own
      induction own with
      | nil => intro ρ h; simp at h
      | cons v vs ih =>
        intro ρ h
        show ((wipe ρ vs).set v none)[j]? = _
        by_cases e : v = j
        · subst e
          by_cases hlt : v < ρ.length
          · rw [List.getElem?_set_self (by rw [wipe_length]; exact hlt), if_pos hlt]
          · rw [List.getElem?_eq_none (by rw [List.length_set, wipe_length]; omega), if_neg hlt]
        · rw [List.getElem?_set_ne e]
          rcases List.mem_cons.mp h with z | z
          · exact absurd z.symm e
          · exact ih ρ z
    rw [key own τ hj, key own σ hj, hl]
  · rw [wipe_get hj, wipe_get hj, h j hj]
theorem t_lc {mi : M (List D)} {g : D → Env → Option Env} {own sl : List Nat} {test : M Bool} {el : M Tk} {X' : Cx} (hK : X'.K = X.K) (nd : own.Nodup) (sub : ∀ i ∈ sl, i ∈ own) {σ : L2.St} {H : Hp} {Q : VK} (h : tE X y (mLc mi g own test el) σ H Q) :
    tLc (tI X y mi) (tG X' y.blk sl g) (tB X' y.blk test) (tE X' y.blk el) own σ H Q := by
  have hct : y.blk.ct X' = y.ct X := by show Ct.mk X'.K y.cm = Ct.mk X.K y.cm; rw [hK]
  obtain ⟨env, Hk, G, re, q⟩ := h
  refine ⟨env, Hk, G, re, ?_⟩
  unfold mLc mBind at q
  cases z : mi env with
  | bad => rw [z] at q; exact q
  | ex c ns ds e1 => rw [z] at q; exact q
  | ok ds e1 =>
    rw [z] at q
    dsimp only at q
    intro J Hk0 H0 k0 r0 sv Dl hD
    by_cases hn : noOw own e1 = true
    · rw [if_pos hn] at q
      have gD : G Dl = none := r0.g.back hD
      have kD : Hk0 Dl = none := r0.hk.back hD
      have n1 := noOw_at r0 hn
      -- the word of the turns
      refine ⟨fun i m H => m = ds.length - i ∧ i ≤ ds.length ∧ ∃ env Hk accV acc, RE (y.ct X) y.xa (upd G Dl (.lst accV)) env (wipe σ own) Hk H ∧ Kx G Hk0 Hk ∧ Hk Dl = none ∧ RpL (y.ct X) Hk acc accV ∧
          ∃ out e2, mLcLoop g own test el (ds.drop i) acc env = .ok out e2 ∧ PoE (y.ct X) y.xa y.W G σ Hk (.ok (.new (.lst out)) (restore own e1 e2)) Q, ⟨ds.length, by simp, Nat.zero_le _, ?_⟩, ?_⟩
      · have rw0 := (r0.wipe own).ext (Ex.new (o := .lst []) hD)
        cases z2 : mLcLoop g own test el ds [] (wipeE own e1) with
        | bad => rw [z2] at q; exact q.elim
        | ex c ns xs e2 => rw [z2] at q; exact q.elim
        | ok out e2 =>
          rw [z2] at q
          refine ⟨wipeE own e1, Hk0, [], [], ⟨rw0.len, rw0.hk, ?_, rw0.sh, fun i d hi => ?_, rw0.inj, rw0.xv, rw0.pn⟩, Kx.refl _ _, kD, RpL.nil, out, e2, z2, PoE.kx (r := .ok _ _) k0 q⟩
          · exact Ex.updB rw0.g upd_same
          · obtain ⟨a, h1, h2, h3⟩ := rw0.ow i d hi
            obtain ⟨_, _, h2', h3'⟩ := (r0.wipe own).ow i d hi
            have hne : ∀ b, H0 b ≠ none → b ≠ Dl := fun b hb e => hb (by rw [e]; exact hD)
            refine ⟨a, h1, h2, ?_⟩
            cases d with
            | lst xs =>
              obtain ⟨g1, vs, g2, g3⟩ := h3
              refine ⟨?_, vs, g2, g3⟩
              obtain ⟨a', ha', ka', oa'⟩ := (r0.wipe own).ow i _ hi
              rw [h1] at ha'
              cases ha'
              obtain ⟨u, hu, _⟩ := oa'.at
              rw [upd_ne (hne a (by rw [hu]; simp))]
              exact g1
            | ins c ns xs =>
              obtain ⟨a', ha', ka', oa'⟩ := (r0.wipe own).ow i _ hi
              rw [h1] at ha'
              cases ha'
              obtain ⟨g1, dx, vs, g2, g3, g4, g5, g6⟩ := oa'
              refine ⟨?_, dx, vs, Ex.new hD _ _ g2, Ex.new hD _ _ g3, g4, g5, ?_⟩
              · rw [upd_ne (hne a (by rw [g2]; simp))]; exact g1
              · rw [upd_ne (hne dx (by rw [g3]; simp))]; exact g6
            | _ => exact h3.elim
      · rintro i m H1 ⟨rfl, hi, env1, Hk1, accV, acc, r1, k1, kd1, ra, out, e2, z2, q2⟩
        obtain ⟨s1, s2⟩ := sv i Hk1 H1 k1.ex r1.hk
        have Gup : Ex G (upd G Dl (.lst accV)) := Ex.new gD
        by_cases hlt : i < ds.length
        · right
          have hd : ds[i]? = some ds[i] := List.getElem?_eq_getElem hlt
          obtain ⟨go, yl⟩ := s1 _ hd
          refine ⟨go, fun H' => ∃ env Hk accV acc, RE (y.ct X) y.xa (upd G Dl (.lst accV)) env (wipe σ own) Hk H' ∧ Kx G Hk0 Hk ∧ Hk Dl = none ∧ RpL (y.ct X) Hk acc accV ∧
            ∃ out e2, mLcLoop g own test el (ds.drop (i + 1)) acc env = .ok out e2 ∧ PoE (y.ct X) y.xa y.W G σ Hk (.ok (.new (.lst out)) (restore own e1 e2)) Q, fun H' hh => ⟨ds.length - (i + 1), by omega, rfl, by omega, hh⟩, fun x H' hy => ?_⟩
          obtain ⟨Hk2, k2, r2, rx⟩ := r1.res (yl x H' hy)
          rw [List.drop_eq_getElem_cons hlt] at z2
          unfold mLcLoop at z2
          have gk : ∀ {A B : Hp}, Kx (upd G Dl (.lst accV)) A B → Kx G A B := fun k => ⟨k.ex, fun b o h1 h2 => Gup.back (k.new b o h1 h2)⟩
          have dk : ∀ {A B : Hp}, Kx (upd G Dl (.lst accV)) A B → A Dl = none → B Dl = none := fun {A B} k h => by
            cases zz : B Dl with
            | none => rfl
            | some o => have := k.new Dl o zz h; rw [upd_same] at this; cases this
          refine ⟨env1, Hk2, upd G Dl (.lst accV), ds[i], by rw [hct]; exact r2, by rw [hct]; exact rx, ?_⟩
          cases z3 : g ds[i] env1 with
          | none => rw [z3] at z2; cases z2
          | some ea =>
            rw [z3] at z2
            dsimp only at z2 ⊢
            intro σ2 r3 l3 f3
            rw [hct] at r3
            have w3 : wipe σ2 own = wipe σ own := by
              rw [wipe_eq (σ := wipe σ own) (τ := σ2) l3 fun j hj => f3 j fun hh => hj (sub j hh)]
              exact wipe_eq (wipe_length σ own) fun j hj => wipe_get hj
            refine ⟨w3, ea, Hk2, upd G Dl (.lst accV), by rw [hct]; exact r3, ?_⟩
            cases z4 : test ea with
            | bad => rw [z4] at z2; cases z2
            | ex c ns xs eb => rw [z4] at z2; cases z2
            | ok b eb =>
              rw [z4] at z2
              intro Hk3 H3 k3 r4
              rw [hct] at r4
              cases b with
              | false =>
                rw [if_neg Bool.false_ne_true]
                dsimp only at z2
                have kk := (gk k2).trans (gk k3)
                refine ⟨wipeE own eb, Hk3, accV, acc, ?_, k1.trans kk, dk k3 (dk k2 kd1), ra.mono kk.ex, out, e2, z2, PoE.kx (r := .ok _ _) kk q2⟩
                rw [← w3]
                exact r4.wipe own
              | true =>
                rw [if_pos rfl]
                dsimp only at z2
                refine ⟨eb, Hk3, upd G Dl (.lst accV), by rw [hct]; exact r4, ?_⟩
                cases z5 : el eb with
                | bad => rw [z5] at z2; cases z2
                | ex c ns xs ec => rw [z5] at z2; cases z2
                | ok t ec =>
                  rw [z5] at z2
                  intro w Hk4 H4 k4 r5 rt5
                  rw [hct] at r5 rt5
                  dsimp only at z2
                  rcases force_cases t ec with ⟨xd, ed, z6⟩ | z6
                  · rw [z6] at z2
                    dsimp only at z2
                    obtain ⟨Hk5, k5, r6, rd⟩ := rt5.force r5 z6
                    split at z2
                    · rename_i hlen
                      have hDl : H4 Dl = some (.lst accV) := r6.g Dl _ upd_same
                      have kk := ((gk k2).trans (gk k3)).trans ((gk k4).trans (gk k5))
                      have kd5 : Hk5 Dl = none := dk k5 (dk k4 (dk k3 (dk k2 kd1)))
                      have rl : RpL (y.ct X) Hk5 (acc ++ [xd]) (accV ++ [w]) := (ra.mono kk.ex).append (.cons rd .nil)
                      refine ⟨accV, hDl, by rw [← ra.len]; exact lim_line hlen, wipeE own ed, Hk5, accV ++ [w], acc ++ [xd], ?_, k1.trans kk, kd5, rl, out, e2, z2, PoE.kx (r := .ok _ _) kk q2⟩
                      have r7 := r6.wipe own
                      rw [w3] at r7
                      have atD : ∃ u, H4 Dl = some u ∧ isOw u := ⟨_, hDl, trivial⟩
                      have ne7 : ∀ (j : Nat) (d : D) (a : Addr), (wipeE own ed)[j]? = some (.ow d) → (wipe σ own)[j]? = some (some (.ref a)) → a ≠ Dl := fun j d a hj ha e => by
                        obtain ⟨_, oa⟩ := r7.owAt hj ha
                        have := oa.g
                        rw [e, upd_same] at this
                        cases this
                      refine ⟨r7.len, r7.hk.mut kd5, ?_, r7.sh, fun j d hj => ?_, r7.inj, fun j c ns xs hj => ?_, r7.pn⟩
                      · intro b o hb
                        by_cases e : b = Dl
                        · subst e; rw [upd_same] at hb ⊢; exact hb
                        · rw [upd_ne e] at hb ⊢
                          exact r7.g b o (by rw [upd_ne e]; exact hb)
                      · obtain ⟨a, h1, h2, h3⟩ := r7.ow j d hj
                        have ne := ne7 j d a hj h1
                        have o3 := h3.other (o := .lst (accV ++ [w])) atD ne
                        refine ⟨a, h1, h2, ?_⟩
                        cases d with
                        | lst xs =>
                          obtain ⟨g1, g2⟩ := o3
                          exact ⟨by rw [upd_ne ne] at g1 ⊢; exact g1, g2⟩
                        | ins c ns xs =>
                          obtain ⟨g1, dx, vs, g2, g3, g4, g5, g6⟩ := o3
                          have nx : dx ≠ Dl := fun e => by rw [e, upd_same] at g3; cases g3
                          exact ⟨by rw [upd_ne ne] at g1 ⊢; exact g1, dx, vs, g2, g3, g4, g5, by rw [upd_ne nx] at g6 ⊢; exact g6⟩
                        | _ => exact o3.elim
                      · obtain ⟨a, cls, dd, h1, h2, h3⟩ := r7.xv j c ns xs hj
                        exact ⟨a, cls, dd, h1, h2, h3.other atD⟩
                    · cases z2
                  · rw [z6] at z2; cases z2
        · left
          have hl : ds.length ≤ i := by omega
          refine ⟨s2 hl, ?_⟩
          rw [List.drop_eq_nil_of_le hl] at z2
          unfold mLcLoop at z2
          cases z2
          have rD : H1 Dl = some (.lst accV) := r1.g Dl _ upd_same
          have rG : RE (y.ct X) y.xa G env1 (wipe σ own) Hk1 H1 := ⟨r1.len, r1.hk, Gup.trans r1.g, r1.sh, fun j d hj => by
            obtain ⟨a, h1, h2, h3⟩ := r1.ow j d hj
            exact ⟨a, h1, h2, h3.gmono Gup⟩, r1.inj, r1.xv, r1.pn⟩
          have rF := rG.restore (env0 := e1) own nd fun j hj => by
            rcases n1 j hj with zz | ⟨d, w, z1, z2, z3⟩
            · exact .inl zz
            · exact .inr ⟨d, w, z1, z2, z3.mono k1.ex⟩
          refine q2 (.ref Dl) Hk1 H1 (Kx.refl _ _) rF ⟨Dl, rfl, kd1, ⟨gD, accV, rD, ra⟩, fun j d' hj hs => ?_⟩
          obtain ⟨h1, h2⟩ := restore_ow (own := own) (fun j hj => by
            rcases n1 j hj with zz | ⟨d, w, z1, _⟩
            · exact .inl zz
            · exact .inr ⟨d, z1⟩) hj
          rw [← wipe_get h2] at hs
          obtain ⟨_, oa⟩ := r1.owAt h1 hs
          have := oa.g
          rw [upd_same] at this
          cases this
    · rw [if_neg hn] at q; exact q.elim
theorem px_lc {scope : Scope} {own : List (Str × Nat)} {mi : M (List D)} {g : D → Env → Option Env} {sl : List Nat} {test : M Bool} {el : M Tk} (hc : X.calm = true) (hN : X.N.Nodup) (hi : PIx X y tg iter mi) (ok : BlkOk X.N X.env.scope scope own)
    (hg : ∀ (s : Shared) (H : Hp) (C : Addr) (cl : List (Str × Addr)) (fp : List Addr), PGx (X.blk s H scope (compEnvC scope cl C X.env) fp) y.blk tg sl g)
    (ht : ∀ (s : Shared) (H : Hp) (C : Addr) (cl : List (Str × Addr)) (fp : List Addr), PBs (X.blk s H scope (compEnvC scope cl C X.env) fp) y.blk ifs test)
    (he : ∀ (s : Shared) (H : Hp) (C : Addr) (cl : List (Str × Addr)) (fp : List Addr), PX (X.blk s H scope (compEnvC scope cl C X.env) fp) y.blk elt el)
    (nd : (own.map (·.2)).Nodup := by decide) (sub : ∀ i ∈ sl, i ∈ own.map (·.2) := by decide) (hs : ∀ x, foldedSetIterable iter X.env x = pure x := by intro _; rfl) :
    PX X y (.ListComp elt [⟨tg, iter, ifs, 0⟩] scope pos) (mLc mi g (own.map (·.2)) test el) :=
  ⟨PE_imp (pe_lc hc hN hi.pi ok (fun s H C cl fp => (hg s H C cl fp).pg) (fun s H C cl fp => (ht s H C cl fp).pts) (fun s H C cl fp => (he s H C cl fp).pe) hs) fun σ H Q h => t_lc (X' := X) rfl nd sub h⟩
theorem psx_setLc {i : Nat} {v : Str} {py spos : Pos} {scope : Scope} {own : List (Str × Nat)} {mi : M (List D)} {g : D → Env → Option Env} {sl : List Nat} {test : M Bool} {el : M Tk} (hc : X.calm = true) (hN : X.N.Nodup) (hi : PIx X y tg iter mi) (ok : BlkOk X.N X.env.scope scope own)
    (hg : ∀ (s : Shared) (H : Hp) (C : Addr) (cl : List (Str × Addr)) (fp : List Addr), PGx (X.blk s H scope (compEnvC scope cl C X.env) fp) y.blk tg sl g)
    (ht : ∀ (s : Shared) (H : Hp) (C : Addr) (cl : List (Str × Addr)) (fp : List Addr), PBs (X.blk s H scope (compEnvC scope cl C X.env) fp) y.blk ifs test)
    (he : ∀ (s : Shared) (H : Hp) (C : Addr) (cl : List (Str × Addr)) (fp : List Addr), PX (X.blk s H scope (compEnvC scope cl C X.env) fp) y.blk elt el)
    (hy : X.N[i]? = some v := by rfl) (hyl : X.env.scope.names.lookup v = some .local := by rfl) (h0 : i ≠ 0 ∨ y.xa.p = none := by first | exact .inl (by decide) | exact .inr rfl)
    (hsw : swapsWith (.ListComp elt [⟨tg, iter, ifs, 0⟩] scope pos) (some (.Name v py)) spos.line X.env = pure true := by exact sw_true rfl rfl rfl (by decide +kernel))
    (nd : (own.map (·.2)).Nodup := by decide) (sub : ∀ i ∈ sl, i ∈ own.map (·.2) := by decide) (hs : ∀ x, foldedSetIterable iter X.env x = pure x := by intro _; rfl) :
    PSx X y (.Assign [.Name v py] (.ListComp elt [⟨tg, iter, ifs, 0⟩] scope pos) spos) (mAsg i (mLc mi g (own.map (·.2)) test el)) :=
  ⟨PS_imp (ps_setLc hc hN hy hyl hsw hi.pi ok (fun s H C cl fp => (hg s H C cl fp).pg) (fun s H C cl fp => (ht s H C cl fp).pts) (fun s H C cl fp => (he s H C cl fp).pe) hs) fun D σ H ⟨env, Hk, G, re, q⟩ =>
    t_lc (X' := X) (Q := fun x H1 => gName i x σ H1 D.nx) rfl nd sub ⟨env, Hk, G, re, ps_bind q fun t e v Hk' H1 k1 r1 rt1 q1 => store_go h0 r1 rt1 q1⟩⟩
end
end VM

set_option Elab.async false
set_option linter.all false
set_option maxRecDepth 100000
set_option maxHeartbeats 1000000
/-! VM 9: defs, and calls that change the caller's own object -/
namespace VM
open PySem PySem.Spec PyProof.Rows L2
/-- a token handed back: from a slot its object goes with it -/
def outTk (t : Tk) (e : Env) : Option (Bool × D) := match t with
  | .val d => some (false, d)
  | .new d => some (true, d)
  | .slot k => match e[k]? with
    | some (.sh d) => some (false, d)
    | some (.ow d) => some (true, d)
    | _ => none
def fin (r : Rs Fl) : Rf := match r with
  | .ok .nx _ => .ok false .non .non
  | .ok (.rt t) e => match outTk t e with
    | some (nw, d) => .ok nw d .non
    | none => .bad
  | .ex c ns ds _ => .ex c ns ds .non
  | _ => .bad
def entry (n : Nat) (ds : List D) : Env := ds.map .sh ++ List.replicate (n - ds.length) .no
def mkF (n : Nat) (body : M Fl) : List D → Rf := fun ds => fin (body (entry n ds))
theorem entry_re {C : Ct} {H Hk : Hp} {N : List Str} {ds : List D} {vs : List V} {x : Option (Addr × Value × Option Addr)} (e : Ex Hk H) (h : RpL C Hk ds vs) (hl : vs.length ≤ N.length) : RE C ⟨x, none⟩ H (entry N.length ds) (L2.start N vs) Hk H := by
  have hlen := h.len
  have get : ∀ {i : Nat} {s : S}, (entry N.length ds)[i]? = some s → (∃ d v, s = .sh d ∧ (L2.start N vs)[i]? = some (some v) ∧ Rp C Hk d v) ∨ s = .no := fun {i s} hi => by
    unfold entry at hi
    by_cases q : i < ds.length
    · rw [List.getElem?_append_left (by simpa using q), List.getElem?_map, List.getElem?_eq_getElem q] at hi
      cases hi
      obtain ⟨v, hv, rv⟩ := h.get (List.getElem?_eq_getElem q)
      refine .inl ⟨_, v, rfl, ?_, rv⟩
      unfold L2.start
      rw [List.getElem?_append_left (by simp; omega), List.getElem?_map, hv]
      rfl
    · rw [List.getElem?_append_right (by simp; omega), List.getElem?_replicate] at hi
      split at hi
      · cases hi; exact .inr rfl
      · cases hi
  refine ⟨?_, e, Ex.refl H, fun i d hi => ?_, fun i d hi => ?_, fun i j d d' a h1 _ _ _ => ?_, fun i c ns xs hi => ?_, fun a d hp _ => by cases hp⟩
  · unfold entry L2.start
    simp
    omega
  · rcases get hi with ⟨d', v, e1, e2, e3⟩ | z
    · cases e1; exact ⟨v, e2, e3⟩
    · cases z
  · rcases get hi with ⟨d', v, e1, e2, e3⟩ | z
    · cases e1
    · cases z
  · rcases get h1 with ⟨d', v, e1, e2, e3⟩ | z
    · cases e1
    · cases z
  · rcases get hi with ⟨d', v, e1, e2, e3⟩ | z
    · cases e1
    · cases z
theorem outTk_bk {C : Ct} {xa : Xa} {G : Hp} {e : Env} {σ : L2.St} {Hk H : Hp} {t : Tk} {v : V} {nw : Bool} {d : D} (r : RE C xa G e σ Hk H) (rt : RT C G e σ Hk H t v) (h : outTk t e = some (nw, d)) : Bk C G Hk H nw d v := by
  cases t with
  | val x => cases h; exact rt
  | new x =>
    cases h
    obtain ⟨a, rfl, h1, h2, _⟩ := rt
    exact ⟨a, rfl, h1, h2⟩
  | slot k =>
    have rt : σ[k]? = some (some v) := rt
    unfold outTk at h
    dsimp only at h
    split at h
    · rename_i x hx
      cases h
      obtain ⟨w, h1, h2⟩ := r.sh k _ hx
      rw [rt] at h1
      cases h1
      exact h2
    · rename_i x hx
      cases h
      obtain ⟨a, h1, h2, h3⟩ := r.ow k _ hx
      rw [rt] at h1
      cases h1
      exact ⟨a, rfl, h2, h3⟩
    · cases h
section
variable {P : Program} {w : World} {K : PySem.W.Frag} {mg : Str → Option Value} {base : Heap} {cm : Nat → Addr}
/-- what a def's body stands in -/
abbrev yF (cm : Nat → Addr) (E : XK) : Y := ⟨cm, ⟨none, none⟩, fun cls d _ H => E cls d H⟩
theorem fn_ok {x qual : Str} {st : Stmt} {f : Addr} {fd : FuncData} {N ps : List Str} {k : Nat} {body : M Fl} (F : Fun K x qual st f fd) (S : FnScope N ps (defScope st)) (hl : ps.length ≤ N.length)
    (hb : ∀ (cdv : Value) (A : Around) (outer : List PySem.Env) (s : Shared) (H : Hp) (E : XK), Room k (A.deeper (envOfC qual (defScope st) s.heap.objs.size f cdv)) →
      PSSx (cxOf (L2.CX P w) P w K mg base N qual (defScope st) f cdv A outer s H E) (yF cm E) (defBody st) body) :
    FnOk P w K mg base (L2.CX P w) (k + 1) f fd ps (spF ⟨K, cm⟩ ps.length (mkF N.length body)) := by
  refine F.okX S (fun vs H Q E h => h.1) fun cdv A outer s H vs Q E hr h => ⟨_, (hb cdv A outer s H E hr).pss, ?_⟩
  obtain ⟨hn, ds, Hk, e, rl, q⟩ := h
  refine ⟨entry N.length ds, Hk, H, entry_re e rl (by omega), ?_⟩
  unfold mkF at q
  cases z : body (entry N.length ds) with
  | bad => rw [z] at q; exact q.elim
  | ex c ns xs e1 =>
    rw [z] at q
    exact fun cls dd σ' Hk' H' k' r' rx => q cls dd Hk' H' k' r'.hk r'.g rx
  | ok fl e1 =>
    rw [z] at q
    cases fl with
    | nx => exact fun σ' Hk' H' k' r' => q .non Hk' H' k' r'.hk r'.g (rp_non (C := ⟨K, cm⟩) (H := Hk'))
    | bk => exact q.elim
    | ct => exact q.elim
    | rt t =>
      intro v σ' Hk' H' k' r' rt
      unfold fin at q
      dsimp only at q
      cases z2 : outTk t e1 with
      | none => rw [z2] at q; exact q.elim
      | some o =>
        obtain ⟨nw, d⟩ := o
        rw [z2] at q
        exact q v Hk' H' k' r'.hk r'.g (outTk_bk r' rt z2)
/-! ### defs whose first argument's object may change -/
def own0 (e : Env) : Option D := match e[(0 : Nat)]? with
  | some (.ow p) => some p
  | _ => none
def isS0 : Tk → Bool
  | .slot 0 => true
  | _ => false
def finIO (r : Rs Fl) : Rf := match r with
  | .ok .nx e => match own0 e with
    | some p => .ok false .non p
    | none => .bad
  | .ok (.rt t) e => if isS0 t = true then .bad else match outTk t e, own0 e with
    | some (nw, d), some p => .ok nw d p
    | _, _ => .bad
  | .ex c ns ds e => match own0 e with
    | some p => .ex c ns ds p
    | none => .bad
  | _ => .bad
def entryIO (n : Nat) (d0 : D) (ds : List D) : Env := .ow d0 :: entry (n - 1) ds
def mkIO (n : Nat) (body : M Fl) : List D → Rf := fun ds => match ds with
  | d0 :: r => finIO (body (entryIO n d0 r))
  | [] => .bad
abbrev yIO (cm : Nat → Addr) (a : Addr) (E : XK) : Y := ⟨cm, ⟨none, some a⟩, fun cls d _ H => E cls d H⟩
theorem own0_at {e : Env} {p : D} (h : own0 e = some p) : e[0]? = some (.ow p) := by
  unfold own0 at h
  split at h
  · rename_i z; cases h; exact z
  · cases h
theorem entryIO_re {C : Ct} {G H Hk : Hp} {N : List Str} {d0 : D} {ds : List D} {a : Addr} {vs : List V} (e : Ex Hk H) (g : Ex G H) (h0 : Hk a = none) (o : OwA C G Hk H a d0) (h : RpL C Hk ds vs) (hl : vs.length + 1 ≤ N.length) :
    RE C ⟨none, some a⟩ G (entryIO N.length d0 ds) (L2.start N (.ref a :: vs)) Hk H := by
  obtain ⟨N0, NN, rfl⟩ : ∃ n0 nn, N = n0 :: nn := by
    cases N with
    | nil => simp at hl
    | cons n0 nn => exact ⟨n0, nn, rfl⟩
  have r0 := entry_re (C := C) (H := H) (N := NN) (x := none) e h (by simpa using hl)
  have es : L2.start (N0 :: NN) (.ref a :: vs) = some (.ref a) :: L2.start NN vs := by
    unfold L2.start
    simp
  rw [es]
  have ee : entryIO (N0 :: NN).length d0 ds = .ow d0 :: entry NN.length ds := rfl
  rw [ee]
  have nosl : ∀ {i : Nat} {d : D}, (entry NN.length ds)[i]? ≠ some (.ow d) := fun {i d} hi => by
    obtain ⟨b, _, _, _⟩ := r0.ow i d hi
    unfold entry at hi
    by_cases q : i < ds.length
    · rw [List.getElem?_append_left (by simpa using q), List.getElem?_map, List.getElem?_eq_getElem q] at hi
      cases hi
    · rw [List.getElem?_append_right (by simp; omega), List.getElem?_replicate] at hi
      split at hi <;> cases hi
  refine ⟨by simpa using r0.len, e, g, fun i d hi => ?_, fun i d hi => ?_, fun i j d d' b h1 h2 _ _ => ?_, fun i c ns xs hi => ?_, fun b d hp hi => by cases hp; rfl⟩
  · cases i with
    | zero => cases hi
    | succ i => exact r0.sh i d (by simpa using hi)
  · cases i with
    | zero => cases hi; exact ⟨a, rfl, h0, o⟩
    | succ i => exact absurd (by simpa using hi) (nosl (i := i) (d := d))
  · cases i with
    | zero =>
      cases j with
      | zero => rfl
      | succ j => exact absurd (by simpa using h2) (nosl (i := j) (d := d'))
    | succ i => exact absurd (by simpa using h1) (nosl (i := i) (d := d))
  · cases i with
    | zero => cases hi
    | succ i =>
      obtain ⟨b, cls, dd, h1, _⟩ := r0.xv i c ns xs (by simpa using hi)
      cases h1
theorem fnIO_ok {x qual : Str} {st : Stmt} {f : Addr} {fd : FuncData} {N ps : List Str} {k : Nat} {body : M Fl} (F : Fun K x qual st f fd) (S : FnScope N ps (defScope st)) (hl : ps.length ≤ N.length)
    (hb : ∀ (cdv : Value) (A : Around) (outer : List PySem.Env) (s : Shared) (H : Hp) (E : XK) (a : Addr), Room k (A.deeper (envOfC qual (defScope st) s.heap.objs.size f cdv)) →
      PSSx (cxOf (L2.CX P w) P w K mg base N qual (defScope st) f cdv A outer s H E) (yIO cm a E) (defBody st) body) :
    FnOk P w K mg base (L2.CX P w) (k + 1) f fd ps (spIO ⟨K, cm⟩ ps.length (mkIO N.length body)) := by
  refine F.okX S (fun vs H Q E h => h.1) fun cdv A outer s H vs Q E hr h => ?_
  obtain ⟨hn, a, vs', d0, ds, Hk, G, rfl, g, e, h0, o, rl, q⟩ := h
  refine ⟨_, (hb cdv A outer s H E a hr).pss, ?_⟩
  refine ⟨entryIO N.length d0 ds, Hk, G, entryIO_re e g h0 o rl (by simp at hn; omega), ?_⟩
  have at0 : ∀ {e1 : Env} {p : D} {σ' : L2.St} {Hk' H' : Hp}, RE ⟨K, cm⟩ ⟨none, some a⟩ G e1 σ' Hk' H' → own0 e1 = some p → Hk' a = none ∧ OwA ⟨K, cm⟩ G Hk' H' a p := fun {e1 p σ' Hk' H'} r hp => by
    have h1 := own0_at hp
    exact r.owAt h1 (r.pn a p rfl h1)
  unfold mkIO at q
  dsimp only at q
  cases z : body (entryIO N.length d0 ds) with
  | bad => rw [z] at q; exact q.elim
  | ex c ns xs e1 =>
    rw [z] at q
    unfold finIO at q
    dsimp only at q
    cases z1 : own0 e1 with
    | none => rw [z1] at q; exact q.elim
    | some p =>
      rw [z1] at q
      exact fun cls dd σ' Hk' H' k' r' rx => q cls dd Hk' H' k' r'.hk r'.g (at0 r' z1).1 (at0 r' z1).2 rx
  | ok fl e1 =>
    rw [z] at q
    unfold finIO at q
    cases fl with
    | nx =>
      dsimp only at q
      cases z1 : own0 e1 with
      | none => rw [z1] at q; exact q.elim
      | some p =>
        rw [z1] at q
        exact fun σ' Hk' H' k' r' => q .non Hk' H' k' r'.hk r'.g (at0 r' z1).1 (at0 r' z1).2 (fun h => by cases h) (rp_non (C := ⟨K, cm⟩) (H := Hk'))
    | bk => exact q.elim
    | ct => exact q.elim
    | rt t =>
      dsimp only at q
      intro v σ' Hk' H' k' r' rt
      by_cases z0 : isS0 t = true
      · rw [if_pos z0] at q; exact q.elim
      · rw [if_neg z0] at q
        cases z2 : outTk t e1 with
        | none => rw [z2] at q; exact q.elim
        | some ob =>
          obtain ⟨nw, d⟩ := ob
          cases z1 : own0 e1 with
          | none => rw [z2, z1] at q; exact q.elim
          | some p =>
            rw [z2, z1] at q
            have a0 := own0_at z1
            have s0 := r'.pn a p rfl a0
            refine q v Hk' H' k' r'.hk r'.g (at0 r' z1).1 (at0 r' z1).2 (fun hnw hv => ?_) (outTk_bk r' rt z2)
            subst hv
            cases t with
            | val x => cases z2; cases hnw
            | new x =>
              obtain ⟨b, hb1, _, _, h4⟩ := rt
              cases hb1
              exact h4 0 p a0 s0
            | slot j =>
              have rt : σ'[j]? = some (some (.ref a)) := rt
              unfold outTk at z2
              dsimp only at z2
              split at z2
              · cases z2; cases hnw
              · rename_i x hx
                have := r'.inj j 0 x p a hx a0 rt s0
                subst this
                exact z0 rfl
              · cases z2
end

/-! ### calls that change the object of slot k -/
section
variable {C : Ct} {xa : Xa} {G Hk Hk' H H' : Hp} {a : Addr} {d : D}
/-- what others may rely on, but for the object at a -/
theorem OwA.cut (g : Ex G H) (h : OwA C G Hk H a d) : ∃ G', Ex G G' ∧ Ex G' H ∧ OwA C G' Hk H a d ∧ ∀ b o, H b = some o → b ≠ a → o ≠ .own a → G' b = some o := by
  cases d with
  | lst xs =>
    obtain ⟨g1, vs, h1, h2⟩ := h
    refine ⟨fun b => if b = a then none else H b, fun b o hb => ?_, fun b o hb => ?_, ⟨by simp, vs, h1, h2⟩, fun b o hb ne _ => by simp [ne, hb]⟩
    · have : b ≠ a := fun e => by rw [e, g1] at hb; cases hb
      simp [this, g b o hb]
    · by_cases e : b = a
      · simp [e] at hb
      · simpa [e] using hb
  | ins c ns xs =>
    obtain ⟨g1, dx, vs, h1, h2, h3, h4, h5⟩ := h
    refine ⟨fun b => if b = a ∨ b = dx then none else H b, fun b o hb => ?_, fun b o hb => ?_, ⟨by simp, dx, vs, h1, h2, h3, h4, by simp⟩, fun b o hb ne no => ?_⟩
    · have e1 : b ≠ a := fun e => by rw [e, g1] at hb; cases hb
      have e2 : b ≠ dx := fun e => by rw [e, h5] at hb; cases hb
      simp [e1, e2, g b o hb]
    · by_cases e : b = a ∨ b = dx
      · simp [e] at hb
      · simpa [e] using hb
    · have : b ≠ dx := fun e => by rw [e, h2] at hb; cases hb; exact no rfl
      simp [ne, this, hb]
  | _ => exact h.elim
theorem RE.backIO {G' : Hp} {e : Env} {σ : L2.St} {k : Nat} {p : D} (r : RE C xa G e σ Hk H) (hk : e[k]? = some (.ow d)) (hs : σ[k]? = some (some (.ref a))) (gg : Ex G G') (keep : ∀ b o, H b = some o → b ≠ a → o ≠ .own a → G' b = some o)
    (k1 : Kx G' Hk Hk') (x1 : Ex Hk' H') (x2 : Ex G' H') (h0 : Hk' a = none) (o : OwA C G' Hk' H' a p) : RE C xa G (e.set k (.ow p)) σ Hk' H' ∧ Kx G Hk Hk' := by
  have ow_keep : ∀ (i : Nat) (x : D), i ≠ k → e[i]? = some (.ow x) → ∃ b, b ≠ a ∧ σ[i]? = some (some (.ref b)) ∧ Hk' b = none ∧ OwA C G Hk' H' b x := fun i x ne hi => by
    obtain ⟨b, h1, h2, h3⟩ := r.ow i x hi
    have nb : b ≠ a := fun z => by
      subst z
      exact ne (r.inj i k x d b hi hk h1 hs)
    obtain ⟨u, hu, iu⟩ := h3.at
    have no : u ≠ .own a := fun z => by rw [z] at iu; exact iu
    refine ⟨b, nb, h1, ?_, ?_⟩
    · cases z : Hk' b with
      | none => rfl
      | some o' =>
        have := k1.new b o' z h2
        rw [keep b u hu nb no] at this
        cases this
    · cases x with
      | lst xs =>
        obtain ⟨g1, vs, g2, g3⟩ := h3
        exact ⟨g1, vs, x2 _ _ (keep _ _ g2 nb (fun z => by cases z)), g3.mono k1.ex⟩
      | ins c ns xs =>
        obtain ⟨g1, dx, vs, g2, g3, g4, g5, g6⟩ := h3
        have ndx : dx ≠ a := fun z => by
          rw [z] at g3
          obtain ⟨_, oa⟩ := r.owAt hk hs
          obtain ⟨u, hu, iu⟩ := oa.at
          rw [g3] at hu
          cases hu
          exact iu.elim
        exact ⟨g1, dx, vs, x2 _ _ (keep _ _ g2 nb (fun z => by cases z)), x2 _ _ (keep _ _ g3 ndx (fun z => by cases z; exact nb rfl)), g4, g5.mono k1.ex, g6⟩
      | _ => exact h3.elim
  refine ⟨⟨by simpa using r.len, x1, gg.trans x2, fun i x hi => ?_, fun i x hi => ?_, fun i j x x' b h1 h2 s1 s2 => ?_, fun i c ns xs hi => ?_, fun b x hp hi => ?_⟩, k1.ex, fun b o' h1 h2 => gg.back (k1.new b o' h1 h2)⟩
  · rcases set_get hi with ⟨_, _, z⟩ | ⟨_, hi⟩
    · cases z
    · obtain ⟨v, h1, h2⟩ := r.sh i x hi
      exact ⟨v, h1, h2.mono k1.ex⟩
  · rcases set_get hi with ⟨z, _, z2⟩ | ⟨ne, hi⟩
    · subst z
      cases z2
      exact ⟨a, hs, h0, o.gmono gg⟩
    · obtain ⟨b, _, h1, h2, h3⟩ := ow_keep i x (Ne.symm ne) hi
      exact ⟨b, h1, h2, h3⟩
  · have f : ∀ {m : Nat} {y : D}, (e.set k (.ow p))[m]? = some (.ow y) → ∃ y', e[m]? = some (.ow y') := fun {m y} hm => by
      rcases set_get hm with ⟨z, _, _⟩ | ⟨_, hm⟩
      · subst z; exact ⟨d, hk⟩
      · exact ⟨y, hm⟩
    obtain ⟨y1, q1⟩ := f h1
    obtain ⟨y2, q2⟩ := f h2
    exact r.inj i j y1 y2 b q1 q2 s1 s2
  · rcases set_get hi with ⟨_, _, z⟩ | ⟨_, hi⟩
    · cases z
    · obtain ⟨b, cls, dd, h1, h2, h3, h4⟩ := r.xv i c ns xs hi
      refine ⟨b, cls, dd, h1, h2, h3, ?_⟩
      rcases h4 with h4 | ⟨dx, vs, e1, e2, e3, e4⟩
      · exact .inl h4
      · have ndx : dx ≠ a := fun z => by
          rw [z] at e2
          obtain ⟨_, oa⟩ := r.owAt hk hs
          obtain ⟨u, hu, iu⟩ := oa.at
          rw [e2] at hu
          cases hu
          exact iu.elim
        exact .inr ⟨dx, vs, e1, x2 _ _ (keep _ _ e2 ndx (fun z => by cases z)), e3, e4.mono k1.ex⟩
  · rcases set_get hi with ⟨z, _, _⟩ | ⟨_, hi⟩
    · subst z
      exact r.pn b d hp hk
    · exact r.pn b x hp hi
end
section
variable {X : Cx} {y : Y} {a b c e o : Expr} {es : List Expr} {m m1 m2 m3 : M Tk} {ma : M (List Tk)} {pos p p2 : Pos}
def isOwn (k : Nat) (env : Env) : Bool := match env[k]? with
  | some (.ow _) => true
  | _ => false
def owD (k : Nat) (env : Env) : Option D := match env[k]? with
  | some (.ow d) => some d
  | _ => none
theorem owD_at {k : Nat} {env : Env} {d : D} (h : owD k env = some d) : env[k]? = some (.ow d) := by
  unfold owD at h
  split at h
  · rename_i z; cases h; exact z
  · cases h
def mCallIO (F : List D → Rf) (k : Nat) (ma : M (List Tk)) : M Tk := fun env => match owD k env with
  | none => .bad
  | some _ => mBind ma (fun ts e1 => match forceAll ts e1 with
    | .ok ds e2 => match owD k e2 with
      | none => .bad
      | some d0 => match F (d0 :: ds) with
        | .ok nw d p => .ok (tkOf nw d) (e2.set k (.ow p))
        | .ex c ns xs p => .ex c ns xs (e2.set k (.ow p))
        | .bad => .bad
    | _ => .bad) env
variable {F : List D → Rf} {k : Nat} {f : Addr} {fd : FuncData} {ps : List Str} {x : Str} {j : Nat}
/-- f(x, e, ..), x the name of slot j, whose object f may change -/
theorem px_callIO (FO : FnOk X.prog X.w X.K X.mg X.base (L2.CX X.prog X.w) k f fd ps (spIO (y.ct X) ps.length F)) (hr : Room k X.A) (hm : X.mg x = some (.ref f)) (hk : PySem.W.keepIn X.K (.ref f) = true) (hb : Binds X.K fd ps []) (tk : Takes X y.W)
    {nn : Nat} (hn : Many ma nn) (hps : ps.length = nn + 1) (ho : PE X o (tVar j)) (ha : PAs X y es ma) (hg : Gl X x := by rfl) (hdb : (x == ("__debug__" : Str)) = false := by decide)
    (he : starEach (o :: es) X.env = (false, eval o X.env) :: starEach es X.env := by rfl) (hpl : (backTo pos (starEach es X.env)).any (·.1) = false := by rfl) :
    PX X y (.Call (.Name x p) (o :: es) [] pos) (mCallIO F j ma) := by
  refine ⟨PE_imp (pe_callSD FO hr hg hm hk hb .nil (fun σ => passAt tk σ) (pa_cons ho ha.pa he) hdb he hpl) fun σ H Q ⟨env, Hk, G, re, q⟩ => ?_⟩
  unfold mCallIO at q
  cases z : owD j env with
  | none => rw [z] at q; exact q.elim
  | some dd =>
    rw [z] at q
    obtain ⟨a0, ha0, _, _⟩ := re.ow j _ (owD_at z)
    refine ⟨.ref a0, ha0, env, Hk, G, re, pa_bindN hn q fun ts e1 vs Hk1 H1 k1 r1 rs hl q1 => ?_⟩
    show spIO (y.ct X) ps.length F (V.ref a0 :: (vs ++ [])) H1 Q (WE y.W σ)
    rw [List.append_nil]
    rcases forceAll_cases ts e1 with ⟨ds, e2, z1⟩ | z1
    · rw [z1] at q1
      dsimp only at q1
      obtain ⟨Hk2, k2, r2, rl⟩ := RVs.force r1 rs z1
      cases z2 : owD j e2 with
      | none => rw [z2] at q1; exact q1.elim
      | some d0 =>
        rw [z2] at q1
        dsimp only at q1
        have hj := owD_at z2
        obtain ⟨h0, oa⟩ := r2.owAt hj ha0
        obtain ⟨G', gg, gH, oa', keep⟩ := oa.cut r2.g
        refine ⟨by simp; rw [← rs.len, hl, hps], a0, vs, d0, ds, Hk2, G', rfl, gH, r2.hk, h0, oa', rl, ?_⟩
        cases z3 : F (d0 :: ds) with
        | bad => rw [z3] at q1; exact q1.elim
        | ok nw d p =>
          rw [z3] at q1
          dsimp only at q1 ⊢
          intro v Hk' H' kx x1 x2 n0 op hnv bk
          obtain ⟨r3, k3⟩ := r2.backIO hj ha0 gg keep kx x1 x2 n0 op
          refine q1 v Hk' H' (k2.trans k3) r3 ?_
          cases nw with
          | false => exact bk
          | true =>
            obtain ⟨b, rfl, b1, b2⟩ := bk
            refine ⟨b, rfl, b1, b2.gmono gg, fun i d' hi hs => ?_⟩
            rcases set_get hi with ⟨z, _, _⟩ | ⟨ne, hi⟩
            · subst z
              rw [ha0] at hs
              cases hs
              exact hnv rfl rfl
            · obtain ⟨_, ob⟩ := r2.owAt hi hs
              obtain ⟨u, hu, iu⟩ := ob.at
              have nb : b ≠ a0 := fun z => hnv rfl (by rw [z])
              have := b2.g
              rw [keep b u hu nb (fun z => by rw [z] at iu; exact iu)] at this
              cases this
        | ex c ns xs p =>
          rw [z3] at q1
          dsimp only at q1 ⊢
          intro cls dd Hk' H' kx x1 x2 n0 op rx
          obtain ⟨r3, k3⟩ := r2.backIO hj ha0 gg keep kx x1 x2 n0 op
          exact q1 cls dd Hk' H' (k2.trans k3) r3 rx
    · rw [z1] at q1; exact q1.elim
end
end VM

set_option Elab.async false
set_option linter.all false
set_option maxRecDepth 100000
set_option maxHeartbeats 1000000
/-! VM A: short words for the printed derivations -/
namespace VM
open PySem PySem.Spec PyProof.Rows L2
/-- a def of the text that may be called -/
structure CF (P : Program) (w : World) (K : PySem.W.Frag) (mg : Str → Option Value) (base : Heap) (cm : Nat → Addr) (x : Str) (k : Nat) (ps : List Str) (F : List D → Rf) : Prop where
  ex : ∃ f fd, FnOk P w K mg base (L2.CX P w) k f fd ps (spF ⟨K, cm⟩ ps.length F) ∧ mg x = some (.ref f) ∧ PySem.W.keepIn K (.ref f) = true ∧ Binds K fd ps []
structure CIO (P : Program) (w : World) (K : PySem.W.Frag) (mg : Str → Option Value) (base : Heap) (cm : Nat → Addr) (x : Str) (k : Nat) (ps : List Str) (F : List D → Rf) : Prop where
  ex : ∃ f fd, FnOk P w K mg base (L2.CX P w) k f fd ps (spIO ⟨K, cm⟩ ps.length F) ∧ mg x = some (.ref f) ∧ PySem.W.keepIn K (.ref f) = true ∧ Binds K fd ps []
section
variable {X : Cx} {y : Y} {a b c e o : Expr} {es rest : List Expr} {m m1 m2 m3 : M Tk} {ma : M (List Tk)} {n n1 n2 : M Bool} {pos p p2 : Pos} {F : List D → Rf} {k kk : Nat} {ps : List Str} {x : Str}
theorem px_callC (h : CF X.prog X.w X.K X.mg X.base y.cm x k ps F) (hr : Room kk X.A) (tk : Takes X y.W) (ha : PAs X y (e :: es) ma) (hn : Many ma ps.length := by repeat first | exact many_nil | refine many_cons ?_) (hk : k ≤ kk := by decide) (hg : Gl X x := by rfl) (hdb : (x == ("__debug__" : Str)) = false := by decide)
    (he : starEach (e :: es) X.env = (false, eval e X.env) :: starEach es X.env := by rfl) (hpl : (backTo pos (starEach es X.env)).any (·.1) = false := by rfl) : PX X y (.Call (.Name x p) (e :: es) [] pos) (mCallF F ma) := by
  obtain ⟨f, fd, h1, h2, h3, h4⟩ := h.ex
  exact px_call h1 (hr.mono hk) h2 h3 h4 tk hn ha hg hdb he hpl
theorem px_callI (j : Nat) (h : CIO X.prog X.w X.K X.mg X.base y.cm x k ps F) (hr : Room kk X.A) (tk : Takes X y.W) (ho : PE X o (tVar j)) (ha : PAs X y es ma) {nn : Nat} (hps : ps.length = nn + 1 := by rfl) (hn : Many ma nn := by repeat first | exact many_nil | refine many_cons ?_) (hk : k ≤ kk := by decide) (hg : Gl X x := by rfl) (hdb : (x == ("__debug__" : Str)) = false := by decide)
    (he : starEach (o :: es) X.env = (false, eval o X.env) :: starEach es X.env := by rfl) (hpl : (backTo pos (starEach es X.env)).any (·.1) = false := by rfl) : PX X y (.Call (.Name x p) (o :: es) [] pos) (mCallIO F j ma) := by
  obtain ⟨f, fd, h1, h2, h3, h4⟩ := h.ex
  exact px_callIO h1 (hr.mono hk) h2 h3 h4 tk hn hps ho ha hg hdb he hpl
theorem hu65 (hr : Room kk X.A) : X.A.units + 65 < cLine := by have := hr.un; omega
theorem px_lt (ha : PX X y a m1) (hb : PX X y b m2) : PX X y (.Compare a [.Lt] [b] pos) (mBin (lift cLt) m1 m2) := px_cmp op_lt cI_ok ha hb (nomark _)
theorem px_le (ha : PX X y a m1) (hb : PX X y b m2) : PX X y (.Compare a [.LtE] [b] pos) (mBin (lift cLe) m1 m2) := px_cmp op_le cI_ok ha hb (nomark _)
theorem px_gt (ha : PX X y a m1) (hb : PX X y b m2) : PX X y (.Compare a [.Gt] [b] pos) (mBin (lift cGt) m1 m2) := px_cmp op_gt cI_ok ha hb (nomark _)
theorem px_ge (ha : PX X y a m1) (hb : PX X y b m2) : PX X y (.Compare a [.GtE] [b] pos) (mBin (lift cGe) m1 m2) := px_cmp op_ge cI_ok ha hb (nomark _)
theorem px_eq (hr : Room kk X.A) (ha : PX X y a m1) (hb : PX X y b m2) : PX X y (.Compare a [.Eq] [b] pos) (mBin (lift cEq) m1 m2) := px_cmp (op_eqD hr.units) eq_ok ha hb (nomark _)
theorem px_ne (hr : Room kk X.A) (ha : PX X y a m1) (hb : PX X y b m2) : PX X y (.Compare a [.NotEq] [b] pos) (mBin (lift cNe) m1 m2) := px_cmp (op_neD hr.units) ne_ok ha hb (nomark _)
theorem px_is (ha : PX X y a m1) (hb : PX X y b m2) : PX X y (.Compare a [.Is] [b] pos) (mBin (lift cIs) m1 m2) := px_cmp op_isN is_ok ha hb (nomark _)
theorem px_isnot (ha : PX X y a m1) (hb : PX X y b m2) : PX X y (.Compare a [.IsNot] [b] pos) (mBin (lift cIsNot) m1 m2) := px_cmp op_notN isnot_ok ha hb (nomark _)
theorem px_in (hr : Room kk X.A) (ha : PX X y a m1) (hb : PX X y b m2) (hm : behindInMarks .In b = false := by rfl) : PX X y (.Compare a [.In] [b] pos) (mBin (lift cIn) m1 m2) := px_cmp (opR_or op_in_seq (op_inD (hu65 hr))) in_ok ha hb hm
theorem px_notin (hr : Room kk X.A) (ha : PX X y a m1) (hb : PX X y b m2) (hm : behindInMarks .NotIn b = false := by rfl) : PX X y (.Compare a [.NotIn] [b] pos) (mBin (lift cNotIn) m1 m2) := px_cmp (opR_or op_notIn_seq (op_notInD (hu65 hr))) notin_ok ha hb hm
theorem pb_lt (ha : PX X y a m1) (hb : PX X y b m2) : PB X y (.Compare a [.Lt] [b] pos) (mCmp cLt m1 m2) := pb_cmp op_lt cI_ok ha hb (nomark _)
theorem pb_le (ha : PX X y a m1) (hb : PX X y b m2) : PB X y (.Compare a [.LtE] [b] pos) (mCmp cLe m1 m2) := pb_cmp op_le cI_ok ha hb (nomark _)
theorem pb_gt (ha : PX X y a m1) (hb : PX X y b m2) : PB X y (.Compare a [.Gt] [b] pos) (mCmp cGt m1 m2) := pb_cmp op_gt cI_ok ha hb (nomark _)
theorem pb_ge (ha : PX X y a m1) (hb : PX X y b m2) : PB X y (.Compare a [.GtE] [b] pos) (mCmp cGe m1 m2) := pb_cmp op_ge cI_ok ha hb (nomark _)
theorem pb_eq (hr : Room kk X.A) (ha : PX X y a m1) (hb : PX X y b m2) : PB X y (.Compare a [.Eq] [b] pos) (mCmp cEq m1 m2) := pb_cmp (op_eqD hr.units) eq_ok ha hb (nomark _)
theorem pb_ne (hr : Room kk X.A) (ha : PX X y a m1) (hb : PX X y b m2) : PB X y (.Compare a [.NotEq] [b] pos) (mCmp cNe m1 m2) := pb_cmp (op_neD hr.units) ne_ok ha hb (nomark _)
theorem pb_is (ha : PX X y a m1) (hb : PX X y b m2) : PB X y (.Compare a [.Is] [b] pos) (mCmp cIs m1 m2) := pb_cmp op_isN is_ok ha hb (nomark _)
theorem pb_isnot (ha : PX X y a m1) (hb : PX X y b m2) : PB X y (.Compare a [.IsNot] [b] pos) (mCmp cIsNot m1 m2) := pb_cmp op_notN isnot_ok ha hb (nomark _)
theorem pb_in (hr : Room kk X.A) (ha : PX X y a m1) (hb : PX X y b m2) (hm : behindInMarks .In b = false := by rfl) : PB X y (.Compare a [.In] [b] pos) (mCmp cIn m1 m2) := pb_cmp (opR_or op_in_seq (op_inD (hu65 hr))) in_ok ha hb hm
theorem pb_notin (hr : Room kk X.A) (ha : PX X y a m1) (hb : PX X y b m2) (hm : behindInMarks .NotIn b = false := by rfl) : PB X y (.Compare a [.NotIn] [b] pos) (mCmp cNotIn m1 m2) := pb_cmp (opR_or op_notIn_seq (op_notInD (hu65 hr))) notin_ok ha hb hm
/-- a <= b <= c -/
def mChain (f g : D → D → Option Bool) (m1 m2 m3 : M Tk) : M Tk := mBind m1 fun t1 => mBind m2 fun t2 env => match look t1.settle env, look t2 env with
  | some a, some b => match f a b with
    | some true => mBind m3 (fun t3 e3 => match look t2.settle e3, look t3 e3 with
      | some b', some c => mOf ((g b' c).map fun k => .val (.bl k)) e3
      | _, _ => .bad) env
    | some false => .ok (.val (.bl false)) env
    | none => .bad
  | _, _ => .bad
/-! built-ins by their names -/
theorem px_int1 (hm : X.mg "int" = none) (ha : PAs X y [e] ma) (hg : Gl X "int" := by rfl) (he : starEach [e] X.env = (false, eval e X.env) :: starEach [] X.env := by rfl) : PX X y (.Call (.Name "int" p) [e] [] pos) (mCall (fn1 dInt) ma) := px_typ call_int1 int_ok hg hm (by decide +kernel) ha (he := he) (hpl := by rfl)
theorem px_abs (hm : X.mg "abs" = none) (ha : PAs X y [e] ma) (hg : Gl X "abs" := by rfl) (he : starEach [e] X.env = (false, eval e X.env) :: starEach [] X.env := by rfl) : PX X y (.Call (.Name "abs" p) [e] [] pos) (mCall (fn1 dAbs) ma) := px_blt call_abs abs_ok hg hm (by decide +kernel) ha (he := he) (hpl := by rfl)
theorem px_sum (hc : X.calm = true) (hm : X.mg "sum" = none) (ha : PAs X y [e] ma) (hg : Gl X "sum" := by rfl) (he : starEach [e] X.env = (false, eval e X.env) :: starEach [] X.env := by rfl) : PX X y (.Call (.Name "sum" p) [e] [] pos) (mCall (fn1 dSum) ma) := px_blt (cr_sum hc) sum_ok hg hm (by decide +kernel) ha (he := he) (hpl := by rfl)
theorem px_any (hc : X.calm = true) (hm : X.mg "any" = none) (ha : PAs X y [e] ma) (hg : Gl X "any" := by rfl) (he : starEach [e] X.env = (false, eval e X.env) :: starEach [] X.env := by rfl) : PX X y (.Call (.Name "any" p) [e] [] pos) (mCall (fn1 dAny) ma) := px_blt (cr_any hc) any_ok hg hm (by decide +kernel) ha (he := he) (hpl := by rfl)
theorem px_all (hc : X.calm = true) (hm : X.mg "all" = none) (ha : PAs X y [e] ma) (hg : Gl X "all" := by rfl) (he : starEach [e] X.env = (false, eval e X.env) :: starEach [] X.env := by rfl) : PX X y (.Call (.Name "all" p) [e] [] pos) (mCall (fn1 dAll) ma) := px_blt (cr_all hc) all_ok hg hm (by decide +kernel) ha (he := he) (hpl := by rfl)
theorem px_tuple (hm : X.mg "tuple" = none) (ha : PAs X y [e] ma) (hg : Gl X "tuple" := by rfl) (he : starEach [e] X.env = (false, eval e X.env) :: starEach [] X.env := by rfl) : PX X y (.Call (.Name "tuple" p) [e] [] pos) (mCall (fn1 dTuple) ma) := px_typ call_tuple_of tuple_ok hg hm (by decide +kernel) ha (he := he) (hpl := by rfl)
theorem px_list (hm : X.mg "list" = none) (ha : PAs X y [e] ma) (hg : Gl X "list" := by rfl) (he : starEach [e] X.env = (false, eval e X.env) :: starEach [] X.env := by rfl) : PX X y (.Call (.Name "list" p) [e] [] pos) (mCall (fn1 dList) ma) := px_typ call_list_of list_ok hg hm (by decide +kernel) ha (he := he) (hpl := by rfl)
end
section
variable {P : Program} {w : World} {K : PySem.W.Frag} {mg : Str → Option Value} {base : Heap} {N : List Str} {qual : Str} {scope : Scope} {f : Addr} {cdv : Value} {A : Around} {outer : List PySem.Env} {s : Shared} {H : Hp} {E : XK}
theorem tkF : Takes (cxOf (L2.CX P w) P w K mg base N qual scope f cdv A outer s H E) (fun cls d _ H => E cls d H) := takes_of rfl rfl rfl rfl
theorem hpF : PassesOwn (model P w) (cxOf (L2.CX P w) P w K mg base N qual scope f cdv A outer s H E).A (cxOf (L2.CX P w) P w K mg base N qual scope f cdv A outer s H E).env (cxOf (L2.CX P w) P w K mg base N qual scope f cdv A outer s H E).xe := passes_of (X := cxOf (L2.CX P w) P w K mg base N qual scope f cdv A outer s H E) rfl
end
end VM

set_option Elab.async false
set_option linter.all false
set_option maxRecDepth 100000
set_option maxHeartbeats 1000000
/-! VM B: isinstance -/
namespace VM
open PySem PySem.Spec PyProof.Rows L2
def tyNames : List String := ["NoneType", "bool", "int", "str", "list", "tuple", "dict"]
/-- a built-in type under a built-in class -/
def tyTab (a b : String) : Option Bool := if tyNames.contains a && tyNames.contains b && b != "NoneType" then some (a == b || (a == "bool" && b == "int")) else none
theorem tyTab_all : (tyNames.all fun a => tyNames.all fun b => b == "NoneType" || kitB a b == some (a == b || (a == "bool" && b == "int"))) = true := by decide +kernel
theorem tyTab_ok {a b : String} {r : Bool} (h : tyTab a b = some r) : kitB a b = some r := by
  unfold tyTab at h
  split at h
  · rename_i hc
    cases h
    rw [Bool.and_eq_true, Bool.and_eq_true] at hc
    obtain ⟨⟨h1, h2⟩, h3⟩ := hc
    have q := List.all_eq_true.mp tyTab_all a (by simpa using h1)
    have q := List.all_eq_true.mp q b (by simpa using h2)
    rw [Bool.or_eq_true] at q
    rcases q with q | q
    · simp at q; subst q; simp at h3
    · exact eq_of_beq q
  · cases h
/-- what isinstance asks of an own class -/
structure IF (K : PySem.W.Frag) (C : Addr) : Prop where
  cl : Cls K C
  ha : PySem.W.findIn K (.ref C) "__class__" = some (some (.builtin "object.__class__"))
  hn : PySem.W.specialIn K (.builtin "object.__class__") "__get__" = some (some (.builtin "getset_descriptor.__get__"))
  tk : PySem.W.takesIn K (.builtin "object.__class__") = some true
  hm : PySem.W.mroIn K C (.type "object") = some true
def valT (cm : Nat → Addr) : D → Option Value
  | .ty n => some (.type n)
  | .cl c => some (.ref (cm c))
  | _ => none
/-- which class is under which -/
structure Sub (K : PySem.W.Frag) (cm : Nat → Addr) (sub : D → D → Option Bool) (ic : List Nat) : Prop where
  ok : ∀ t c b tv cv, sub t c = some b → valT cm t = some tv → valT cm c = some cv → PySem.W.kitOne K tv cv = some b
  ic : ∀ c ∈ ic, IF K (cm c)
def sub0 : D → D → Option Bool
  | .ty a, .ty b => tyTab a b
  | _, _ => none
theorem sub0_ok {K : PySem.W.Frag} {cm : Nat → Addr} : Sub K cm sub0 [] := ⟨fun t c b tv cv h h1 h2 => by
  cases t <;> cases c <;> first
    | (cases h; done)
    | (cases h1; cases h2; exact kit_ty (tyTab_ok h)), fun c h => by cases h⟩
def tyD (ic : List Nat) : D → Option D
  | .non => some (.ty "NoneType")
  | .bl _ => some (.ty "bool")
  | .int _ => some (.ty "int")
  | .str _ => some (.ty "str")
  | .lst _ => some (.ty "list")
  | .tup _ => some (.ty "tuple")
  | .ins c _ _ => if ic.contains c = true then some (.cl c) else none
  | _ => none
def anyT (sub : D → D → Option Bool) (t : D) : List D → Option Bool
  | [] => some false
  | c :: cs => match sub t c with
    | some true => some true
    | some false => anyT sub t cs
    | none => none
def isT : D → Bool
  | .ty _ => true
  | .cl _ => true
  | _ => false
def dIsi (sub : D → D → Option Bool) (ic : List Nat) (x c : D) : Option Tk := match tyD ic x with
  | none => none
  | some t => match c with
    | .tup cs => if cs.all isT = true then (anyT sub t cs).map fun b => .val (.bl b) else none
    | c => if isT c = true then (sub t c).map fun b => .val (.bl b) else none
section
variable {X : Cx} {y : Y} {a b c e : Expr} {es : List Expr} {m m1 m2 : M Tk} {ma : M (List Tk)} {pos p p2 : Pos}
theorem ty_v {K : PySem.W.Frag} {cm : Nat → Addr} {ic : List Nat} (hic : ∀ c ∈ ic, IF K (cm c)) {Hk H : Hp} (e : Ex Hk H) {d t : D} {v : V} (h : Pk ⟨K, cm⟩ Hk H d v) (q : tyD ic d = some t) : ∃ tv, valT cm t = some tv ∧ TyX K H v tv := by
  cases d with
  | non => cases q; cases h.non; exact ⟨_, rfl, .base .non⟩
  | bl b => cases q; cases h.bl; exact ⟨_, rfl, .base (.bl b)⟩
  | int i => cases q; cases h.int; exact ⟨_, rfl, .base (.int i)⟩
  | str s => cases q; cases h.str; exact ⟨_, rfl, .base (.str s)⟩
  | lst xs => cases q; obtain ⟨a, vs, rfl, h1, _⟩ := h.lst e; exact ⟨_, rfl, .base (.lst h1)⟩
  | tup xs => cases q; obtain ⟨a, vs, rfl, h1, _⟩ := h.tup e; exact ⟨_, rfl, .base (.tup h1)⟩
  | ins c ns xs =>
    dsimp only [tyD] at q
    split at q
    · rename_i hc
      cases q
      obtain ⟨a, dx, vs, rfl, h1, _⟩ := h.ins e
      have f := hic c (by simpa using hc)
      exact ⟨_, rfl, .base (.ins h1 f.cl f.ha f.hn f.tk f.hm)⟩
    · cases q
  | _ => cases q
theorem isT_v {K : PySem.W.Frag} {cm : Nat → Addr} {H : Hp} {d : D} {v : V} (f : isT d = true) (h : Rp ⟨K, cm⟩ H d v) : ∃ cv, valT cm d = some cv ∧ ClsV v cv := by
  cases d with
  | ty n => unfold Rp at h; subst h; exact ⟨_, rfl, .ty n⟩
  | cl c => unfold Rp at h; subst h; exact ⟨_, rfl, .own _⟩
  | _ => cases f
theorem any_v {K : PySem.W.Frag} {cm : Nat → Addr} {sub : D → D → Option Bool} {ic : List Nat} (S : Sub K cm sub ic) {H : Hp} {t : D} {tv : Value} (ht : valT cm t = some tv) : ∀ {cs : List D} {vs : List V} {r : Bool}, cs.all isT = true → RpL ⟨K, cm⟩ H cs vs → anyT sub t cs = some r → ∃ us, Paired ClsV vs us ∧ PySem.W.kitAny K tv us = some r
  | [], _, _, _, h, q => by unfold RpL at h; subst h; cases q; exact ⟨[], .nil, kitAny_nil⟩
  | c :: cs, _, r, f, h, q => by
    obtain ⟨v, vr, rfl, h1, h2⟩ := h.inv
    rw [List.all_cons, Bool.and_eq_true] at f
    obtain ⟨cv, hc, hv⟩ := isT_v f.1 h1
    unfold anyT at q
    cases z : sub t c with
    | none => rw [z] at q; cases q
    | some b =>
      rw [z] at q
      have k := S.ok t c b tv cv z ht hc
      cases b with
      | true =>
        cases q
        have ex : ∀ {cs : List D} {vr : List V}, cs.all isT = true → RpL ⟨K, cm⟩ H cs vr → ∃ us, Paired ClsV vr us := by
          intro cs
          induction cs with
          | nil => intro vr _ h; unfold RpL at h; subst h; exact ⟨[], .nil⟩
          | cons c cs ih =>
            intro vr f h
            obtain ⟨v, r, rfl, h1, h2⟩ := h.inv
            rw [List.all_cons, Bool.and_eq_true] at f
            obtain ⟨cv, _, hv⟩ := isT_v f.1 h1
            obtain ⟨us, hu⟩ := ih f.2 h2
            exact ⟨cv :: us, .cons hv hu⟩
        obtain ⟨us, hu⟩ := ex f.2 h2
        refine ⟨cv :: us, .cons hv hu, ?_⟩
        unfold PySem.W.kitAny
        rw [k]
      | false =>
        obtain ⟨us, hu, hk⟩ := any_v S ht f.2 h2 q
        exact ⟨cv :: us, .cons hv hu, kitAny_cons k (fun _ => hk) (fun z => by cases z)⟩
theorem isi_ok {sub : D → D → Option Bool} {ic : List Nat} (S : Sub X.K y.cm sub ic) : OpN X y (fn2 (dIsi sub ic)) (fun xs H Q => rIsi X.K xs H Q ∨ rIsiT X.K xs H Q) := op2N (by
  intro Hk H a b v w t Q e h pa pb q
  unfold dIsi at h
  cases z : tyD ic a with
  | none => rw [z] at h; cases h
  | some ta =>
    rw [z] at h
    obtain ⟨tv, h1, h2⟩ := ty_v S.ic e pa z
    have one : ∀ c : D, isT c = true → Pk (y.ct X) Hk H c w → ∀ r, sub ta c = some r → t = .val (.bl r) → rIsi X.K [v, w] H Q := fun c ic' pc r hr ht => by
      obtain ⟨cv, hc, hv⟩ := isT_v (K := X.K) (cm := y.cm) ic' (pc.all e)
      subst ht
      exact ⟨v, w, tv, cv, r, rfl, hv, h2, S.ok _ _ _ _ _ hr h1 hc, q _ _ (res_flat rp_bl e)⟩
    cases b with
    | tup cs =>
      dsimp only at h
      split at h
      · rename_i hc
        cases z2 : anyT sub ta cs with
        | none => rw [z2] at h; cases h
        | some r =>
          rw [z2] at h
          cases h
          obtain ⟨p, vs, rfl, g1, g2, _⟩ := pb.tup e
          obtain ⟨us, hu, hk⟩ := any_v S h1 hc g2 z2
          exact .inr ⟨v, p, vs, tv, us, r, rfl, g1, hu, h2, hk, q _ _ (res_flat rp_bl e)⟩
      · cases h
    | ty n =>
      have h : (sub ta (.ty n)).map (fun b => Tk.val (.bl b)) = some t := h
      cases z2 : sub ta (.ty n) with
      | none => rw [z2] at h; cases h
      | some r => rw [z2] at h; cases h; exact .inl (one (.ty n) rfl pb r z2 rfl)
    | cl n =>
      have h : (sub ta (.cl n)).map (fun b => Tk.val (.bl b)) = some t := h
      cases z2 : sub ta (.cl n) with
      | none => rw [z2] at h; cases h
      | some r => rw [z2] at h; cases h; exact .inl (one (.cl n) rfl pb r z2 rfl)
    | _ => exact absurd h (by simp [isT]))
theorem px_isi {sub : D → D → Option Bool} {ic : List Nat} (S : Sub X.K y.cm sub ic) (hm : X.mg "isinstance" = none) (ha : PAs X y [a, b] ma) (hg : Gl X "isinstance" := by rfl) (he : starEach [a, b] X.env = (false, eval a X.env) :: starEach [b] X.env := by rfl) (hpl : (backTo pos (starEach [b] X.env)).any (·.1) = false := by rfl) :
    PX X y (.Call (.Name "isinstance" p) [a, b] [] pos) (mCall (fn2 (dIsi sub ic)) ma) := px_blt (callR_or call_isi call_isiT) (isi_ok S) hg hm (by decide +kernel) ha (he := he) (hpl := hpl)
theorem px_ty {x : Str} {T : String} (hm : X.mg x = none) (hv : bootBuiltins x = some (.type T) := by decide +kernel) (hg : Gl X x := by rfl) (hn : x ≠ "__name__" := by decide) (hd : (x == ("__debug__" : Str)) = false := by decide) : PX X y (.Name x pos) (mC (.ty T)) :=
  px_c (pe_bltn hg hm hv (v := .ty T) rfl hn hd) fun _ => by unfold Rp; rfl
theorem px_cls {x : Str} {c : Nat} (hm : X.mg x = some (.ref (y.cm c))) (hg : Gl X x := by rfl) (hd : (x == ("__debug__" : Str)) = false := by decide) : PX X y (.Name x pos) (mC (.cl c)) :=
  px_c (pe_glob hg hm (v := .ref (y.cm c)) rfl hd) fun _ => by unfold Rp; rfl
end
end VM

set_option Elab.async false
set_option linter.all false
set_option maxRecDepth 100000
set_option maxHeartbeats 1000000
/-! VM C: the end of a law -/
namespace VM
open PySem PySem.Spec PyProof.Rows L2
theorem cx_false {P : Program} {w : World} {outer : List PySem.Env} {H : Hp} {s : Shared} {u : Value} {s' : Shared} (h : L2.CX P w outer H s (fun _ _ _ => False) u s') : False := by
  obtain ⟨_, _, _, _, _, _, _, _, _, _, _, _, z⟩ := h
  exact z.elim
theorem law_sp {K : PySem.W.Frag} {cm : Nat → Addr} {F : List D → Rf} {H : Hp} {a : Addr} {ns : List Int} (hS : SqL K H a (ns.map V.int)) (h : ∃ p, F [.scr ns] = .ok false (.bl true) p) : spF ⟨K, cm⟩ 1 F [.ref a] H (fun v _ => v = .bl true) fun _ _ _ => False := by
  obtain ⟨p, h⟩ := h
  refine ⟨rfl, [.scr ns], H, Ex.refl H, RpL.cons (by unfold Rp; exact ⟨a, rfl, hS⟩) RpL.nil, ?_⟩
  rw [h]
  intro v Hk' H' _ _ _ b
  have b : Rp ⟨K, cm⟩ Hk' (.bl true) v := b
  unfold Rp at b
  exact b
end VM

set_option Elab.async false
set_option linter.all false
set_option maxRecDepth 100000
set_option maxHeartbeats 1000000
/-! VM D: reckoning with meanings: each combinator at an environment; loops -/
namespace VM
open PySem PySem.Spec PyProof.Rows L2
def bindR {α β : Type} (r : Rs α) (k : α → Env → Rs β) : Rs β := match r with
  | .ok a e => k a e
  | .ex c ns ds e => .ex c ns ds e
  | .bad => .bad
section
variable {α β : Type} {m m1 m2 m3 : M Tk} {ma : M (List Tk)} {n n1 n2 : M Bool} {f1 f2 : M Fl} {env : Env}
theorem bindR_ok {a : α} {e : Env} {k : α → Env → Rs β} : bindR (.ok a e) k = k a e := (rfl)
theorem bindR_ex {c : Nat} {ns : List Str} {ds : List D} {e : Env} {k : α → Env → Rs β} : bindR (.ex c ns ds e) k = .ex c ns ds e := (rfl)
theorem a_bind {m : M α} {f : α → M β} : mBind m f env = bindR (m env) f := (rfl)
theorem a_of_some {a : α} : mOf (some a) env = .ok a env := (rfl)
theorem a_var {k : Nat} : mVar k env = match env[k]? with
  | some .no => .bad
  | none => .bad
  | some _ => .ok (.slot k) env := (rfl)
theorem a_c {d : D} : mC d env = .ok (.val d) env := (rfl)
theorem a_bin {f : D → D → Option Tk} : mBin f m1 m2 env = bindR (m1 env) fun t1 e1 => bindR (m2 e1) fun t2 e2 => mLook2 f t1.settle t2 e2 := (rfl)
theorem a_un {f : D → Option Tk} : mUn f m env = bindR (m env) (mLook1 f) := (rfl)
theorem a_test : mTest m env = bindR (m env) mTru := (rfl)
theorem a_tru {t : Tk} : mTru t env = match look t env with
  | some d => mOf d.tru env
  | none => .bad := (rfl)
theorem a_cmp {f : D → D → Option Bool} : mCmp f m1 m2 env = bindR (m1 env) fun t1 e1 => bindR (m2 e1) fun t2 env => match look t1.settle env, look t2 env with
  | some a, some b => mOf (f a b) env
  | _, _ => .bad := (rfl)
theorem a_and : mAnd n1 n2 env = bindR (n1 env) fun b e => if b = true then n2 e else .ok false e := by
  unfold mAnd mBind bindR; cases n1 env with
  | ok b e => cases b <;> rfl
  | _ => rfl
theorem a_or : mOr n1 n2 env = bindR (n1 env) fun b e => if b = true then .ok true e else n2 e := by
  unfold mOr mBind bindR; cases n1 env with
  | ok b e => cases b <;> rfl
  | _ => rfl
theorem a_not : mNot n env = bindR (n env) fun b e => .ok (!b) e := (rfl)
theorem a_if : mIf n m1 m2 env = bindR (n env) fun b e => if b = true then m1 e else m2 e := by
  unfold mIf mBind bindR; cases n env with
  | ok b e => cases b <;> rfl
  | _ => rfl
theorem a_andV : mAndV m1 m2 env = bindR (m1 env) fun t e => bindR (mBl t e) fun b e => if b = true then m2 e else .ok (.val (.bl false)) e := by
  unfold mAndV mBind bindR; cases m1 env with
  | ok t e =>
    dsimp only
    cases mBl t e with
    | ok b e => cases b <;> rfl
    | _ => rfl
  | _ => rfl
theorem a_orV : mOrV m1 m2 env = bindR (m1 env) fun t e => bindR (mBl t e) fun b e => if b = true then .ok (.val (.bl true)) e else m2 e := by
  unfold mOrV mBind bindR; cases m1 env with
  | ok t e =>
    dsimp only
    cases mBl t e with
    | ok b e => cases b <;> rfl
    | _ => rfl
  | _ => rfl
theorem a_notV : mNotV m env = bindR (m env) fun t e => bindR (mTru t e) fun b e => .ok (.val (.bl (!b))) e := (rfl)
theorem a_bl {t : Tk} : mBl t env = match look t env with
  | some (.bl b) => .ok b env
  | _ => .bad := (rfl)
theorem a_nil : mNil env = .ok [] env := (rfl)
theorem a_cons : mCons m ma env = bindR (m env) fun t e => bindR (ma e) fun ts e => .ok (t.settle :: ts) e := (rfl)
theorem a_tup : mTup ma env = bindR (ma env) fun ts e => bindR (forceAll ts e) fun ds e => if ds.length ≤ 1000 then .ok (.val (.tup ds)) e else .bad := by
  unfold mTup mBind bindR; cases ma env with
  | ok ts e =>
    dsimp only
    cases forceAll ts e with
    | ok ds e => dsimp only; split <;> rfl
    | _ => rfl
  | _ => rfl
theorem a_lst : mLst ma env = bindR (ma env) fun ts e => bindR (forceAll ts e) fun ds e => if ds.length ≤ 1000 then .ok (.new (.lst ds)) e else .bad := by
  unfold mLst mBind bindR; cases ma env with
  | ok ts e =>
    dsimp only
    cases forceAll ts e with
    | ok ds e => dsimp only; split <;> rfl
    | _ => rfl
  | _ => rfl
theorem a_call {f : List D → Option Tk} : mCall f ma env = bindR (ma env) fun ts env => match lookAll ts env with
  | some ds => mOf (f ds) env
  | none => .bad := (rfl)
theorem a_callF {F : List D → Rf} : mCallF F ma env = bindR (ma env) fun ts env => match lookAll ts env with
  | none => .bad
  | some ds => match F ds with
    | .ok nw d _ => if apart nw d = true then .ok (tkOf nw d) env else match forceAll ts env with
      | .ok _ e => .ok (tkOf nw d) e
      | _ => .bad
    | .ex c ns xs _ => if xs.all D.flat = true then .ex c ns xs env else match forceAll ts env with
      | .ok _ e => .ex c ns xs e
      | _ => .bad
    | .bad => .bad := (rfl)
theorem a_callIO {F : List D → Rf} {k : Nat} : mCallIO F k ma env = match owD k env with
  | none => .bad
  | some _ => bindR (ma env) fun ts e1 => match forceAll ts e1 with
    | .ok ds e2 => match owD k e2 with
      | none => .bad
      | some d0 => match F (d0 :: ds) with
        | .ok nw d p => .ok (tkOf nw d) (e2.set k (.ow p))
        | .ex c ns xs p => .ex c ns xs (e2.set k (.ow p))
        | .bad => .bad
    | _ => .bad := (rfl)
theorem a_seq : mSeq f1 f2 env = match f1 env with
  | .ok .nx e => f2 e
  | r => r := (rfl)
theorem a_next : mNext env = .ok .nx env := (rfl)
theorem a_ret : mRet m env = bindR (m env) fun t e => .ok (.rt t) e := (rfl)
theorem a_retN : mRetN env = .ok (.rt (.val .non)) env := (rfl)
theorem a_drop : mDrop m env = bindR (m env) fun _ e => .ok .nx e := (rfl)
theorem a_break : mBreak env = .ok .bk env := (rfl)
theorem a_cont : mCont env = .ok .ct env := (rfl)
theorem a_ifS : mIfS n f1 f2 env = bindR (n env) fun b e => if b = true then f1 e else f2 e := by
  unfold mIfS mBind bindR; cases n env with
  | ok b e => cases b <;> rfl
  | _ => rfl
theorem a_asg {i : Nat} : mAsg i m env = bindR (m env) (store i) := (rfl)
theorem a_asgG {g : D → Env → Option Env} : mAsgG g m env = bindR (m env) fun t env => match force t env with
  | .ok d e => match g d e with
    | some e2 => .ok .nx e2
    | none => .bad
  | _ => .bad := (rfl)
theorem a_app {k : Nat} : mApp k m env = match owL k env with
  | none => .bad
  | some _ => bindR (m env) fun t env => match force t env with
    | .ok d e => match owL k e with
      | some xs => if xs.length < lim then .ok (.val .non) (e.set k (.ow (.lst (xs ++ [d])))) else .bad
      | none => .bad
    | _ => .bad := (rfl)
theorem a_setI {k : Nat} {mi : M Tk} : mSetI k mi m env = bindR (m env) fun t env => match force t env with
  | .ok d e1 => match owL k e1 with
    | none => .bad
    | some _ => bindR (mi e1) fun ti e2 => match look ti e2, owL k e2 with
      | some (.int i), some xs => match ixN xs.length i with
        | some j => .ok .nx (e2.set k (.ow (.lst (xs.set j d))))
        | none => .bad
      | _, _ => .bad
  | _ => .bad := (rfl)
theorem a_iter : mIter m env = bindR (m env) fun t env => match force t env with
  | .ok (.lst xs) e => .ok xs e
  | .ok (.tup xs) e => .ok xs e
  | .ok (.scr ns) e => .ok (ns.map .int) e
  | _ => .bad := (rfl)
theorem a_rng : mRng ma env = bindR (ma env) fun ts env => match lookAll ts env with
  | some [.int n] => if okR n = true then .ok (rngD 0 n.toNat) env else .bad
  | some [.int lo, .int n] => if okR lo = true ∧ okR n = true then .ok (rngD lo (n - lo).toNat) env else .bad
  | _ => .bad := (rfl)
theorem a_for {mi : M (List D)} {g : D → Env → Option Env} {junk : List Nat} {body : M Fl} : mFor mi g junk body env = bindR (mi env) (mLoop g junk body) := (rfl)
theorem a_slice {ml mh : M (Option Int)} : mSlice m ml mh env = bindR (m env) fun t e => bindR (ml e) fun lo e => bindR (mh e) fun hi env => match look t.settle env with
  | some d => mOf (dSl d lo hi) env
  | none => .bad := (rfl)
theorem a_part0 : mPart none env = .ok none env := (rfl)
theorem a_part1 : mPart (some m) env = bindR (m env) fun t env => match look t env with
  | some (.int i) => .ok (some i) env
  | _ => .bad := (rfl)
theorem a_lc {mi : M (List D)} {g : D → Env → Option Env} {own : List Nat} {test : M Bool} {elt : M Tk} : mLc mi g own test elt env = bindR (mi env) fun ds e1 => if noOw own e1 = true then match mLcLoop g own test elt ds [] (wipeE own e1) with
    | .ok out e2 => .ok (.new (.lst out)) (restore own e1 e2)
    | _ => .bad
  else .bad := (rfl)
theorem a_yes : mYes env = .ok true env := (rfl)
end
/-! ### loops -/
/-- one turn -/
def turn (g : D → Env → Option Env) (junk : List Nat) (body : M Fl) (d : D) (env : Env) : Rs Fl := match g d env with
  | none => .bad
  | some e1 => match body e1 with
    | .ok .nx e2 => .ok .nx (forget junk e2)
    | .ok .ct e2 => .ok .nx (forget junk e2)
    | .ok .bk e2 => .ok .bk (forget junk e2)
    | r => r
section
variable {g : D → Env → Option Env} {junk : List Nat} {body : M Fl}
theorem loop_nil {env : Env} : mLoop g junk body [] env = .ok .nx env := rfl
theorem loop_cons {d : D} {ds : List D} {env : Env} : mLoop g junk body (d :: ds) env = match turn g junk body d env with
    | .ok .nx e => mLoop g junk body ds e
    | .ok .bk e => .ok .nx e
    | r => r := by
  unfold turn
  show (match g d env with | none => Rs.bad | some e1 => _) = _
  cases g d env with
  | none => rfl
  | some e1 =>
    dsimp only
    cases body e1 with
    | ok fl e2 => cases fl <;> rfl
    | _ => rfl
/-- every turn goes on: by a word of the turn -/
theorem loop_inv (P : Nat → Env → Prop) : ∀ (ds : List D) (k : Nat) {env : Env}, (∀ i d e, ds[i]? = some d → P (k + i) e → ∃ e', turn g junk body d e = .ok .nx e' ∧ P (k + i + 1) e') → P k env → ∃ e', mLoop g junk body ds env = .ok .nx e' ∧ P (k + ds.length) e'
  | [], k, env, _, p => ⟨env, rfl, p⟩
  | d :: ds, k, env, h, p => by
    obtain ⟨e1, t1, p1⟩ := h 0 d env rfl p
    obtain ⟨e2, t2, p2⟩ := loop_inv P ds (k + 1) (env := e1) (fun i d e hi hp => by
      have := h (i + 1) d e (by simpa using hi) (by rw [show k + (i + 1) = k + 1 + i by omega]; exact hp)
      rw [show k + (i + 1) = k + 1 + i by omega] at this
      exact this) p1
    refine ⟨e2, ?_, ?_⟩
    · rw [loop_cons, t1]; exact t2
    · rw [List.length_cons, show k + (ds.length + 1) = k + 1 + ds.length by omega]; exact p2
/-- every turn goes on: the environment a function of the turn -/
theorem loop_fn (E : Nat → Env) (ds : List D) (h : ∀ i d, ds[i]? = some d → turn g junk body d (E i) = .ok .nx (E (i + 1))) : mLoop g junk body ds (E 0) = .ok .nx (E ds.length) := by
  obtain ⟨e', h1, h2⟩ := loop_inv (g := g) (junk := junk) (body := body) (fun i e => e = E i) ds 0 (env := E 0) (fun i d e hi hp => ⟨E (i + 1), by rw [hp, Nat.zero_add]; exact h i d hi, by rw [Nat.zero_add]⟩) rfl
  rw [h1, h2, Nat.zero_add]
theorem rng_len (lo : Int) (n : Nat) : (rngD lo n).length = n := by unfold rngD; simp
theorem rng_get {lo : Int} {n i : Nat} {d : D} (h : (rngD lo n)[i]? = some d) : i < n ∧ d = .int (lo + (i : Int)) := by
  unfold rngD at h
  rw [List.getElem?_map] at h
  cases z : (List.range n)[i]? with
  | none => rw [z] at h; cases h
  | some j =>
    rw [z] at h
    cases h
    obtain ⟨hl, hj⟩ := List.getElem?_eq_some_iff.mp z
    rw [List.getElem_range] at hj
    subst hj
    exact ⟨by simpa using hl, rfl⟩
theorem loop_rng (E : Nat → Env) (lo : Int) (n : Nat) (h : ∀ i, i < n → turn g junk body (.int (lo + (i : Int))) (E i) = .ok .nx (E (i + 1))) : mLoop g junk body (rngD lo n) (E 0) = .ok .nx (E n) := by
  have := loop_fn (g := g) (junk := junk) (body := body) E (rngD lo n) fun i d hi => by
    obtain ⟨h1, rfl⟩ := rng_get hi
    exact h i h1
  rw [rng_len] at this
  exact this
/-- a comprehension over a list: each item gives one -/
theorem lc_fn {own : List Nat} {test : M Bool} {elt : M Tk} (E : Nat → Env) (out : Nat → D) : ∀ (ds : List D) (k : Nat) (acc : List D), acc.length + ds.length ≤ lim → (∀ i d, ds[i]? = some d → ∃ e1 e2 t e3 e4, g d (E (k + i)) = some e1 ∧ test e1 = .ok true e2 ∧ elt e2 = .ok t e3 ∧ force t e3 = .ok (out (k + i)) e4 ∧ wipeE own e4 = E (k + i + 1)) →
    mLcLoop g own test elt ds acc (E k) = .ok (acc ++ (List.range ds.length).map fun i => out (k + i)) (E (k + ds.length))
  | [], k, acc, _, _ => by show Rs.ok acc (E k) = _; simp
  | d :: ds, k, acc, hl, h => by
    obtain ⟨e1, e2, t, e3, e4, h1, h2, h3, h4, h5⟩ := h 0 d rfl
    rw [List.length_cons] at hl
    unfold mLcLoop
    rw [Nat.add_zero] at h1 h4 h5
    rw [h1]
    dsimp only
    rw [h2]
    dsimp only
    rw [h3]
    dsimp only
    rw [h4]
    dsimp only
    rw [if_pos (by omega), h5]
    have ih := lc_fn (own := own) (test := test) (elt := elt) E out ds (k + 1) (acc ++ [out k]) (by simp; omega) (fun i d hi => by
      have := h (i + 1) d (by simpa using hi)
      rw [show k + (i + 1) = k + 1 + i by omega] at this
      exact this)
    rw [ih, List.length_cons, List.range_succ_eq_map]
    simp [Function.comp_def, Nat.add_assoc, Nat.add_comm 1]
end
end VM

set_option Elab.async false
set_option linter.all false
set_option maxRecDepth 100000
set_option maxHeartbeats 1000000
/-! VM E: comparisons of plain data; sizes; the law's drawing hand -/
namespace VM
open PySem PySem.Spec PyProof.Rows L2
theorem pl_int {n : Nat} {i : Int} : D.pl n (.int i) = true := by cases n <;> rfl
theorem pl_bl {n : Nat} {i : Bool} : D.pl n (.bl i) = true := by cases n <;> rfl
theorem pl_non {n : Nat} : D.pl n .non = true := by cases n <;> rfl
theorem cEq_int {a b : Int} : cEq (.int a) (.int b) = some (decide (a = b)) := by
  unfold cEq
  rw [pl_int, pl_int, if_pos ⟨rfl, rfl⟩]
  show some (PyData.eqv (.int a) (.int b)) = _
  rw [PyData.eqv, Bool.beq_eq_decide_eq]
theorem cNe_int {a b : Int} : cNe (.int a) (.int b) = some (!decide (a = b)) := by
  unfold cNe
  rw [pl_int, pl_int, if_pos ⟨rfl, rfl⟩]
  show some (!PyData.eqv (.int a) (.int b)) = _
  rw [PyData.eqv, Bool.beq_eq_decide_eq]
theorem log2_le {n k : Nat} (h : n < 2 ^ (k + 1)) : n.log2 ≤ k := by
  by_cases z : n = 0
  · subst z; simp
  · have := (Nat.log2_lt z).mpr h
    omega
theorem natAbs_powI (b : Int) : ∀ n : Nat, (b ^ n).natAbs = b.natAbs ^ n
  | 0 => by simp
  | n + 1 => by rw [Int.pow_succ, Int.natAbs_mul, natAbs_powI b n, Nat.pow_succ]
theorem mulOk_of {i j : Int} (h : i.natAbs.log2 + j.natAbs.log2 < 1000000) : mulOk i j = true := decide_eq_true h
theorem mulOk_le {i j : Int} {a b : Nat} (hi : i.natAbs < 2 ^ (a + 1)) (hj : j.natAbs < 2 ^ (b + 1)) (h : a + b < 1000000) : mulOk i j = true := mulOk_of (by
  have := log2_le hi
  have := log2_le hj
  omega)
theorem divOk_of {j : Int} {b : Nat} (h0 : 0 < j) (hj : j.natAbs < 2 ^ (b + 1)) (h : b < 9000) : divOk j = true := by
  unfold divOk
  rw [decide_eq_true h0, decide_eq_true (Nat.lt_of_le_of_lt (log2_le hj) h)]
  rfl
theorem okR_of {i : Int} (h : -(2 ^ 62) ≤ i ∧ i < 2 ^ 62) : okR i = true := decide_eq_true h
theorem atI_0 {α : Type} {x : α} {xs : List α} : atI (x :: xs) 0 = some x := atI_nat (j := 0) rfl
theorem atI_1 {α : Type} {x y : α} {xs : List α} : atI (x :: y :: xs) 1 = some y := atI_nat (j := 1) rfl
theorem atI_2 {α : Type} {x y z : α} {xs : List α} : atI (x :: y :: z :: xs) 2 = some z := atI_nat (j := 2) rfl
theorem atI_3 {α : Type} {x y z u : α} {xs : List α} : atI (x :: y :: z :: u :: xs) 3 = some u := atI_nat (j := 3) rfl
theorem ixN_of {n j : Nat} (h : j < n) : ixN n (j : Int) = some j := by
  unfold ixN
  rw [if_pos (by omega), if_pos (by omega)]
  simp
theorem ixN_1 {n : Nat} (h : 1 < n) : ixN n 1 = some 1 := ixN_of h
theorem ixN_2 {n : Nat} (h : 2 < n) : ixN n 2 = some 2 := ixN_of h
theorem ixN_3 {n : Nat} (h : 3 < n) : ixN n 3 = some 3 := ixN_of h
/-! one step at a time, at written arguments -/
section
variable {env : Env} {d d' : D} {i j : Int} {k n : Nat} {b : Bool} {xs ys ds : List D} {t t1 t2 : Tk} {ts : List Tk}
theorem l_val : look (.val d) env = some d := (rfl)
theorem l_new : look (.new d) env = some d := (rfl)
theorem l_slot : look (.slot k) env = match env[k]? with
  | some (.sh d) => some d
  | some (.ow d) => some d
  | _ => none := (rfl)
theorem f_val : force (.val d) env = .ok d env := (rfl)
theorem f_new : force (.new d) env = .ok d env := (rfl)
theorem f_slot : force (.slot k) env = match env[k]? with
  | some (.sh d) => .ok d env
  | some (.ow d) => .ok d (env.set k (.sh d))
  | _ => .bad := (rfl)
theorem t_val : (Tk.val d).settle = .val d := (rfl)
theorem t_new : (Tk.new d).settle = .val d := (rfl)
theorem t_slot : (Tk.slot k).settle = .slot k := (rfl)
theorem s_val : store k (.val d) env = .ok .nx (env.set k (.sh d)) := (rfl)
theorem s_new : store k (.new d) env = .ok .nx (env.set k (.ow d)) := (rfl)
theorem s_slot {m : Nat} : store k (.slot m) env = match force (.slot m) env with
  | .ok d e => .ok .nx (e.set k (.sh d))
  | _ => .bad := (rfl)
theorem a_look2 {f : D → D → Option Tk} : mLook2 f t1 t2 env = match look t1 env, look t2 env with
  | some a, some b => mOf (f a b) env
  | _, _ => .bad := (rfl)
theorem a_look1 {f : D → Option Tk} : mLook1 f t env = match look t env with
  | some a => mOf (f a) env
  | none => .bad := (rfl)
theorem a_fa0 : forceAll [] env = .ok [] env := (rfl)
theorem a_fa1 : forceAll (t :: ts) env = match force t env with
    | .ok d e1 => match forceAll ts e1 with
      | .ok ds e2 => .ok (d :: ds) e2
      | _ => .bad
    | _ => .bad := (rfl)
theorem a_la0 : lookAll [] env = some [] := (rfl)
theorem a_la1 : lookAll (t :: ts) env = match look t env, lookAll ts env with
    | some d, some ds => some (d :: ds)
    | _, _ => none := (rfl)
theorem a_fn1 {f : D → Option Tk} : fn1 f [d] = f d := (rfl)
theorem a_fn2 {f : D → D → Option Tk} : fn2 f [d, d'] = f d d' := (rfl)
theorem a_gN : gN k d env = some (env.set k (.sh d)) := (rfl)
theorem a_gs0 : gs0 [] env = some env := (rfl)
theorem a_gs1 {g : D → Env → Option Env} {gs : List D → Env → Option Env} : gs1 g gs (d :: ds) env = match g d env with
  | some e => gs ds e
  | none => none := (rfl)
theorem a_gT {gs : List D → Env → Option Env} : gT n gs (.tup ds) env = if ds.length = n then gs ds env else none := (rfl)
theorem a_turn {g : D → Env → Option Env} {junk : List Nat} {body : M Fl} : turn g junk body d env = match g d env with
  | none => .bad
  | some e1 => match body e1 with
    | .ok .nx e2 => .ok .nx (forget junk e2)
    | .ok .ct e2 => .ok .nx (forget junk e2)
    | .ok .bk e2 => .ok .bk (forget junk e2)
    | r => r := (rfl)
theorem a_fg0 : forget [] env = env := (rfl)
theorem a_fg1 {l : List Nat} : forget (k :: l) env = forget l (env.set k .no) := (rfl)
theorem a_wp0 : wipeE [] env = env := (rfl)
theorem a_wp1 {l : List Nat} : wipeE (k :: l) env = (wipeE l env).set k .no := (rfl)
theorem a_rs0 {e : Env} : restore [] e env = env := (rfl)
theorem a_rs1 {l : List Nat} {e : Env} : restore (k :: l) e env = restore l e (env.set k (e.getD k .no)) := (rfl)
theorem a_mkF {m : M Fl} : mkF n m ds = fin (m (entry n ds)) := (rfl)
theorem a_mkIO {m : M Fl} : mkIO n m (d :: ds) = finIO (m (entryIO n d ds)) := (rfl)
theorem a_owL : owL k env = match env[k]? with
  | some (.ow (.lst xs)) => some xs
  | _ => none := (rfl)
theorem a_owD : owD k env = match env[k]? with
  | some (.ow d) => some d
  | _ => none := (rfl)
theorem a_tkT : tkOf true d = .new d := (rfl)
theorem a_tkF : tkOf false d = .val d := (rfl)
theorem a_apf : apart b (.int i) = true := (rfl)
theorem a_apb {c : Bool} : apart b (.bl c) = true := (rfl)
theorem a_apn : apart b .non = true := (rfl)
theorem a_aps {s : Str} : apart b (.str s) = true := (rfl)
theorem e_addI : dAdd (.int i) (.int j) = some (.val (.int (i + j))) := (rfl)
theorem e_addL (h : xs.length + ys.length ≤ sizeLine) : dAdd (.lst xs) (.lst ys) = some (.new (.lst (xs ++ ys))) := if_pos h
theorem e_addT (h : xs.length + ys.length ≤ sizeLine) : dAdd (.tup xs) (.tup ys) = some (.val (.tup (xs ++ ys))) := if_pos h
theorem e_subI : dSub (.int i) (.int j) = some (.val (.int (i - j))) := (rfl)
theorem e_mulI (h : mulOk i j = true) : dMul (.int i) (.int j) = some (.val (.int (i * j))) := if_pos h
theorem e_divI (h : divOk j = true) : dDiv (.int i) (.int j) = some (.val (.int (i / j))) := if_pos h
theorem e_modI (h : 0 < j) : dMod (.int i) (.int j) = some (.val (.int (i % j))) := if_pos (decide_eq_true h)
theorem e_powI (h : 0 ≤ j ∧ j ≤ 1000000 ∧ i.natAbs < 2 ^ 64) : dPow (.int i) (.int j) = some (.val (.int (i ^ j.toNat))) := if_pos (decide_eq_true h)
theorem e_negI : dNeg (.int i) = some (.val (.int (-i))) := (rfl)
theorem e_lt : cLt (.int i) (.int j) = some (decide (i < j)) := (rfl)
theorem e_le : cLe (.int i) (.int j) = some (decide (i ≤ j)) := (rfl)
theorem e_gt : cGt (.int i) (.int j) = some (decide (j < i)) := (rfl)
theorem e_ge : cGe (.int i) (.int j) = some (decide (j ≤ i)) := (rfl)
theorem e_is : cIs d .non = some d.isN := (rfl)
theorem e_isnot : cIsNot d .non = some (!d.isN) := (rfl)
theorem a_lift {f : D → D → Option Bool} : lift f d d' = match f d d' with
  | some k => some (.val (.bl k))
  | none => none := (rfl)
theorem e_lenL : dLen (.lst xs) = some (.val (.int xs.length)) := (rfl)
theorem e_lenT : dLen (.tup xs) = some (.val (.int xs.length)) := (rfl)
theorem e_lenS {ns : List Int} : dLen (.scr ns) = some (.val (.int ns.length)) := (rfl)
theorem e_intI : dInt (.int i) = some (.val (.int i)) := (rfl)
theorem e_intB : dInt (.bl b) = some (.val (.int (if b then 1 else 0))) := (rfl)
theorem e_absI : dAbs (.int i) = some (.val (.int (if i < 0 then -i else i))) := (rfl)
theorem e_truB : D.tru (.bl b) = some b := (rfl)
theorem e_truI : D.tru (.int i) = some (i != 0) := (rfl)
theorem e_truN : D.tru .non = some false := (rfl)
theorem e_truL : D.tru (.lst xs) = some !xs.isEmpty := (rfl)
theorem e_truT : D.tru (.tup xs) = some !xs.isEmpty := (rfl)
theorem e_ixL : dIx (.lst xs) (.int i) = (atI xs i).map .val := (rfl)
theorem e_ixT : dIx (.tup xs) (.int i) = (atI xs i).map .val := (rfl)
theorem e_tupL : dTuple (.lst xs) = some (.val (.tup xs)) := (rfl)
theorem e_tupT : dTuple (.tup xs) = some (.val (.tup xs)) := (rfl)
theorem e_lstL : dList (.lst xs) = some (.new (.lst xs)) := (rfl)
theorem e_lstT : dList (.tup xs) = some (.new (.lst xs)) := (rfl)
theorem e_sum {ns : List Int} : dSum (.lst (ns.map .int)) = some (.val (.int ns.sum)) := by
  show (toInts (ns.map .int)).map _ = _
  rw [toInts_map]; rfl
end
end VM

set_option Elab.async false
set_option linter.all false
set_option maxRecDepth 100000
set_option maxHeartbeats 1000000
/-! VM F: exceptions: classes of the text under one base class, raise, try .. except .. (as ..) -/
namespace VM
open PySem PySem.Spec PyProof.Rows L2
/-! ### the family's base class, at R -/
structure RB (K : PySem.W.Frag) (R : Addr) : Prop where
  ga : PySem.W.specialIn K (.ref R) "__getattribute__" = some (some (.builtin "type.__getattribute__"))
  rd : PySem.W.readsIn K R (.type "type") = true
  at_ : PySem.W.findCls K (.ref R) (.type "type") "__init__" = some (.val (.builtin "ValueError.__init__"))
section
variable {X : Cx} {R : Addr} {x : Str} {e : Expr} {es : List Expr} {ta : TA} {p1 p2 pos : Pos}
/-- R.__init__(self, ..) -/
theorem pe_rkinit {pl : Sem Bool} (B : RB X.K R) (hm : X.mg x = some (.ref R)) (ha : PA X (e :: es) ta) (hg : Gl X x := by rfl) (hdb : (x == ("__debug__" : Str)) = false := by decide)
    (hc : eval (.Call (.Attribute (.Name x p1) "__init__" p2) (e :: es) [] pos) X.env = (do
      let ov ← eval (.Name x p1) X.env
      standAt p2.atName
      let (f, first) ← holding [ov] (getMethod ov "__init__" pl)
      callWith pos f first (backTo pos (starEach (e :: es) X.env)) (backToKw pos (keywordEach [] X.env))) := by rfl)
    (he : starEach (e :: es) X.env = (false, eval e X.env) :: starEach es X.env := by rfl) (hpl : (backTo pos (starEach es X.env)).any (·.1) = false := by rfl) :
    PE X (.Call (.Attribute (.Name x p1) "__init__" p2) (e :: es) [] pos) (tVeI X.K ta) := by
  refine ⟨fun pins s σ H Q I h => ?_⟩
  refine PySem.W.methodCall_KW (ld_glob I hg hm ?_ hdb) hc
  refine PySem.W.method_cls I.kIn B.ga (PySem.W.cls_value I.kIn B.rd B.at_ rfl ?_)
  show wpAny _ _ (callWith pos (Value.builtin "ValueError.__init__") [] (backTo pos (starEach (e :: es) X.env)) []) _ _ _
  refine PyProof.Rows.callWith_method1 (thn (ha.run pos pins _ σ H _ (I.tok _) h) fun us s1 ⟨vs, H1, I1, r1, a, C, ws, ev, hl, T, ea, q⟩ => ?_) he hpl
  subst ev
  cases r1 with
  | @cons _ u0 _ ur ra rw' =>
    obtain rfl : u0 = Value.ref a := ra
    have hlen : ur.length ≤ sizeLine := by
      rw [← Paired.length rw', sizeLine_eq]
      omega
    exact oinit_ok T I1 ea hlen fun s' J => ⟨.non, H1, J, rfl, q⟩
end
/-! ### what an __init__ leaves -/
def XEnd (a C : Addr) : List (Str × V) → Hp → Hp → Prop
  | [], H, H' => H' = H
  | f :: fs, H, H' => ∃ d, H d = none ∧ d ≠ a ∧ H' = upd (upd H d (exd d (f :: fs))) a (exo a C (some d))
def spX (C : Addr) (fs : List Str) : Sp := fun vs H Q _ => ∃ a ws, vs = V.ref a :: ws ∧ ws.length = fs.length ∧ H a = some (exo a C none) ∧ ∀ H', XEnd a C (fs.zip ws).reverse H H' → Q .non H'
theorem upd2 {H : Hp} {a d : Addr} {o1 o2 o3 o4 : HO} (h : d ≠ a) : upd (upd (upd (upd H d o1) a o2) d o3) a o4 = upd (upd H d o3) a o4 := by
  funext b
  by_cases ha : b = a
  · rw [ha, upd_same, upd_same]
  · rw [upd_ne ha, upd_ne ha]
    by_cases hd : b = d
    · rw [hd, upd_same, upd_same]
    · rw [upd_ne hd, upd_ne hd, upd_ne ha, upd_ne hd]
theorem upd1 {H : Hp} {a d : Addr} {o1 o2 o3 : HO} (h : d ≠ a) : upd (upd (upd H d o1) a o2) d o3 = upd (upd H d o3) a o2 := by
  funext b
  by_cases hd : b = d
  · rw [hd, upd_same, upd_ne h, upd_same]
  · rw [upd_ne hd]
    by_cases ha : b = a
    · rw [ha, upd_same, upd_same]
    · rw [upd_ne ha, upd_ne ha, upd_ne hd, upd_ne hd]
section
variable {P : Program} {w : World} {K : PySem.W.Frag} {mg : Str → Option Value} {base : Heap} {x qual m f1 f2 : Str} {st : Stmt} {f C : Addr} {fd : FuncData} {N ps : List Str} {k : Nat}
abbrev tI0 (K : PySem.W.Frag) (m : Str) : TS := tDrop (tVeI K (tCons (tVar 0) (tCons (tC (.str m)) tNil)))
theorem init0_ok (T : OexC K C) (F : Fun K x qual st f fd) (S : FnScope N ps (defScope st)) (hp : ps.length = 1) (hN : N.length = 1)
    (hb : ∀ (cdv : Value) (A : Around) (outer : List PySem.Env) (s : Shared) (H : Hp) (E : XK), PSs (cxOf (L2.CX P w) P w K mg base N qual (defScope st) f cdv A outer s H E) (defBody st) (tI0 K m)) :
    FnOk P w K mg base (L2.CX P w) (k + 1) f fd ps (spX C []) := by
  refine F.okX S (fun vs H Q E h => ?_) fun cdv A outer s H vs Q E hr h => ⟨_, hb cdv A outer s H E, ?_⟩
  · obtain ⟨a, ws, rfl, hl, _⟩ := h
    rw [List.length_cons, hl, hp]; rfl
  · obtain ⟨a, ws, rfl, hl, ha, q⟩ := h
    obtain rfl := List.eq_nil_of_length_eq_zero hl
    refine ⟨.ref a, by unfold L2.start; rfl, a, C, [.str m], rfl, by simp, T, ha, q _ rfl⟩
theorem init1_ok (T : OexC K C) (n1 : PySem.W.findIn K (.ref C) f1 = some none) (F : Fun K x qual st f fd) (S : FnScope N ps (defScope st)) (hp : ps.length = 2) (hN : N.length = 2)
    (hb : ∀ (cdv : Value) (A : Around) (outer : List PySem.Env) (s : Shared) (H : Hp) (E : XK), PSs (cxOf (L2.CX P w) P w K mg base N qual (defScope st) f cdv A outer s H E) (defBody st) (tSeq (tI0 K m) (tOst K f1 (tVar 0) (tVar 1)))) :
    FnOk P w K mg base (L2.CX P w) (k + 1) f fd ps (spX C [f1]) := by
  refine F.okX S (fun vs H Q E h => ?_) fun cdv A outer s H vs Q E hr h => ⟨_, hb cdv A outer s H E, ?_⟩
  · obtain ⟨a, ws, rfl, hl, _⟩ := h
    rw [List.length_cons, hl, hp]; rfl
  · obtain ⟨a, ws, rfl, hl, ha, q⟩ := h
    obtain ⟨u, rfl⟩ : ∃ u, ws = [u] := by
      cases ws with
      | nil => cases hl
      | cons u r => cases r with
        | nil => exact ⟨u, rfl⟩
        | cons _ _ => cases hl
    refine ⟨.ref a, by unfold L2.start; rfl, a, C, [.str m], rfl, by simp, T, ha, ?_⟩
    refine ⟨u, by unfold L2.start; rfl, .ref a, by unfold L2.start; rfl, a, C, rfl, T, n1, .inl ⟨ha, fun d hd hne => q _ ⟨d, hd, hne, rfl⟩⟩⟩
theorem init2_ok (T : OexC K C) (n1 : PySem.W.findIn K (.ref C) f1 = some none) (n2 : PySem.W.findIn K (.ref C) f2 = some none) (F : Fun K x qual st f fd) (S : FnScope N ps (defScope st)) (hp : ps.length = 3) (hN : N.length = 3)
    (hb : ∀ (cdv : Value) (A : Around) (outer : List PySem.Env) (s : Shared) (H : Hp) (E : XK), PSs (cxOf (L2.CX P w) P w K mg base N qual (defScope st) f cdv A outer s H E) (defBody st) (tSeq (tI0 K m) (tSeq (tOst K f1 (tVar 0) (tVar 1)) (tOst K f2 (tVar 0) (tVar 2))))) :
    FnOk P w K mg base (L2.CX P w) (k + 1) f fd ps (spX C [f1, f2]) := by
  refine F.okX S (fun vs H Q E h => ?_) fun cdv A outer s H vs Q E hr h => ⟨_, hb cdv A outer s H E, ?_⟩
  · obtain ⟨a, ws, rfl, hl, _⟩ := h
    rw [List.length_cons, hl, hp]; rfl
  · obtain ⟨a, ws, rfl, hl, ha, q⟩ := h
    obtain ⟨u, u2, rfl⟩ : ∃ u u2, ws = [u, u2] := by
      cases ws with
      | nil => cases hl
      | cons u r => cases r with
        | nil => cases hl
        | cons u2 r2 => cases r2 with
          | nil => exact ⟨u, u2, rfl⟩
          | cons _ _ => cases hl
    refine ⟨.ref a, by unfold L2.start; rfl, a, C, [.str m], rfl, by simp, T, ha, ?_⟩
    refine ⟨u, by unfold L2.start; rfl, .ref a, by unfold L2.start; rfl, a, C, rfl, T, n1, .inl ⟨ha, fun d hd hne => ?_⟩⟩
    refine ⟨u2, by unfold L2.start; rfl, .ref a, by unfold L2.start; rfl, a, C, rfl, T, n2, .inr ⟨d, [(f1, u)], upd_same, by rw [upd_ne hne, upd_same], by simp, q _ ⟨d, hd, hne, ?_⟩⟩⟩
    rw [upd1 hne]
end
/-! ### raise -/
section
variable {X : Cx} {e : Expr} {es : List Expr} {ta : TA} {p pos : Pos}
/-- an exception without a dict is let go -/
theorem mk_endN {pins : List (Addr × Obj)} {σ : L2.St} {H1 : Hp} {Q : XK} {hp hp2 h2 : Heap} {g1 g2 : Array GenState} {d1 d2 : Drawn} {t1 t2 : Nat} {os1 os2 : OsState} {a C : Addr} (T : Raises X (.ref C)) (I1 : Inv X pins σ H1 ⟨hp, g1, d1, t1, os1⟩)
    (ha : hp.objs.size ≤ a) (k : ∀ b o, hp.get? b = some o → hp2.get? b = some o) (un : Un (frs X.stack) [] (upd H1 a (exo a C none)) (upd H1 a (exo a C none)) hp2 h2) (hok : HOk X.prog X.w (upd H1 a (exo a C none)) h2) (ho : os2 = os1) (hb : AllBare g2)
    (q : Q (.ref C) none H1) : MkP X pins σ Q (.ref a) ⟨h2, g2, d2, t2, os2⟩ := by
  have hn : H1 a = none := I1.hok.fresh ha
  obtain ⟨t0, hoe⟩ := exo_at hok upd_same
  obtain ⟨G, g1', g2'⟩ := restrict h2 fun b => decide (b ≠ a)
  have gk : ∀ b, b ≠ a → G.get? b = h2.get? b := fun b hb => g1' b (decide_eq_true hb)
  have ge : G.get? a = none := g2' a (by simp)
  have nha : ∀ {b : Addr} {o : Obj}, hp.get? b = some o → b ≠ a := fun {b o} z => Nat.ne_of_lt (Nat.lt_of_lt_of_le (Heap.lt_size z) ha)
  have up : ∀ {b : Addr}, b ≠ a → H1 b = none → upd H1 a (exo a C none) b = none := fun {b} hb n => by rw [upd_ne hb]; exact n
  have U : Un (frs X.stack) [] H1 H1 hp G := {
    keep := fun b o z n hf hx => by
      rw [gk b (nha z)]
      exact un.keep b o (k b o z) (up (nha z) n) hf hx
    slot := fun b o z n hf hx => by
      rw [gk b (nha z)]
      exact un.slot b o (k b o z) (up (nha z) n) hf hx
    free := fun b o z n hx => n
    there := fun b o z hx => by
      rw [gk b (nha z)]
      exact un.there b o (k b o z) hx
    tups := fun b xs z => z
    frzs := fun b o v z => z
    tbls := fun b ps z => ⟨#[], by rw [z]; simp⟩ }
  have hok3 : HOk X.prog X.w H1 G := fun b o z => by
    have hba : b ≠ a := fun e => by rw [e, hn] at z; cases z
    have noa : ∀ {c : Addr}, H1 c = some (.own b) → c ≠ a := fun {c} hc e => by rw [e, hn] at hc; cases hc
    exact (hok b o (by rw [upd_ne hba]; exact z)).stay (fun c v hc y => by
        have hca : c ≠ a := by
          rcases hc with hc | hc
          · rw [hc]
            exact hba
          · intro e
            rw [e, upd_same] at hc
            exact exo_own (Option.some.inj hc)
        rw [gk c hca]
        exact y)
      (fun c hc => by
        by_cases e : c = a
        · rw [e, upd_same] at hc; exact absurd (Option.some.inj hc) exo_own
        · rw [upd_ne e] at hc; exact hc)
      (fun c xs hc => by
        by_cases e : c = a
        · rw [e, upd_same] at hc; exact absurd (Option.some.inj hc) exo_tup
        · rw [upd_ne e] at hc; exact hc)
  have J : Inv X pins σ H1 ⟨G, g2, d2, t2, os2⟩ := I1.call' (ch := []) ho U hok3 hb (fun b z => absurd z (by simp))
  refine ⟨a, _, _, ⟨G, g2, d2, t2, os2⟩, _, .ref C, none, rfl, J, fun b o z => ?_, ge, hoe, ⟨rfl, rfl⟩, rfl, rfl, hn, rfl, hb, T, q⟩
  by_cases hba : b = a
  · rw [hba, ge] at z
    cases z
  · exact (gk b hba).symm.trans z
theorem pmk_oex0 {CX : CXT} {x : Str} {C fI : Addr} {k : Nat} {fd : FuncData} {ps : List Str} (T : OexC X.K C) (iC : PySem.W.findIn X.K (.ref C) "__init__" = some (some (.ref fI))) (tI : PySem.W.typeIn X.K (.ref fI) = some (.type "function"))
    (F1 : FnOk X.prog X.w X.K X.mg X.base CX k fI fd ps (spX C [])) (hr : Room (k + 1) X.A) (hb : Binds X.K fd ps []) (hx : Passes CX X (fun _ _ _ => False)) (hg : Gl X x) (hm : X.mg x = some (.ref C))
    (hdb : (x == ("__debug__" : Str)) = false := by decide) :
    PMk X (.Call (.Name x p) [] [] pos) (fun _ H Q => Q (.ref C) none H) := by
  intro pins s σ H1 Q I1 q1
  obtain ⟨nm, q, N, bs, bm, sn, sub, ab, col, dd, k0, k1, k2, k3, k5, hC, hbm⟩ := T.cls
  refine wpAny_Call_Name_kw (ld_glob I1 hg hm ?_ hdb)
  refine PySem.W.callWith_K0 I1.kIn T.kC ?_
  show wpAny _ _ (call (.ref C) []) _ _ _
  obtain ⟨hp, g, dr, tk, os⟩ := s
  have hsz : hp.objs.size ≤ hp.objs.size + 1 := Nat.le_succ _
  have hn : H1 (hp.objs.size + 1) = none := I1.hok.fresh hsz
  have kk : ∀ b o, hp.get? b = some o → ((hp.push (PySem.W.kdv_tup [])).push (PySem.HandSPX.excO C hp.objs.size)).get? b = some o := fun b o e => Heap.get?_push_of_some _ (Heap.get?_push_of_some _ e)
  have hget : ((hp.push (PySem.W.kdv_tup [])).push (PySem.HandSPX.excO C hp.objs.size)).get? (hp.objs.size + 1) = some (PySem.HandSPX.excO C hp.objs.size) := by heap_get
  have I2 : Inv X pins σ (upd H1 (hp.objs.size + 1) (exo (hp.objs.size + 1) C none)) ⟨(hp.push (PySem.W.kdv_tup [])).push (PySem.HandSPX.excO C hp.objs.size), g, dr, tk, os⟩ :=
    I1.laid (t' := tk) (a := hp.objs.size + 1) (o := exo (hp.objs.size + 1) C none) (h' := (hp.push (PySem.W.kdv_tup [])).push (PySem.HandSPX.excO C hp.objs.size)) kk hsz (exo_ok hget)
  have hsp : spX C [] [V.ref (hp.objs.size + 1)] (upd H1 (hp.objs.size + 1) (exo (hp.objs.size + 1) C none)) (fun v H2 => v = .non ∧ H2 = upd H1 (hp.objs.size + 1) (exo (hp.objs.size + 1) C none)) (fun _ _ _ => False) :=
    ⟨_, [], rfl, rfl, upd_same, fun H' e => ⟨rfl, e⟩⟩
  have hl : ([Value.ref (hp.objs.size + 1)] ++ []).length = ps.length := (F1.len _ _ _ _ hsp)
  refine wpAny_call (PySem.HandSPX.call_own F.excBase_ValueError (fun Y => PySem.HandSPX.refsVE_contains Y bm hbm) (I1.kIn _ _ hC) (PySem.W.looks_findIn I1.kIn iC) (fun self => PySem.W.bind_fn I1.kIn self tI) (Nat.zero_le _)
    (codeAny_mono (F1.run _ X.stack _ _ ⟨[Value.ref (hp.objs.size + 1)], []⟩ ([Value.ref (hp.objs.size + 1)] ++ []) _ _ (fun _ _ _ => False) (hr.make C [] []) (I2.env0.make C [] []) (hb _ [Value.ref (hp.objs.size + 1)] I2.kIn hl) (show Vals [V.ref (hp.objs.size + 1)] ([Value.ref (hp.objs.size + 1)] ++ []) from .cons rfl .nil) hsp) fun r s' hq' => ?_))
  cases r with
  | error er => exact hx pins σ _ _ er s' I2 hq'
  | ok fl =>
    cases fl with
    | ret u =>
      obtain ⟨v, H2, os2, bare2, un2, hok2, rv, ev, e2⟩ := hq'
      subst ev
      subst e2
      obtain ⟨h2, g2, d2, t2, os'⟩ := s'
      exact ⟨rv, mk_endN (raises_own T.exC T.tyC) I1 hsz kk un2 hok2 os2 bare2 q1⟩
    | next => exact False.elim hq'
    | brk => exact False.elim hq'
    | cont => exact False.elim hq'
end
/-- an exception class of the text: its number, the level of its __init__, its fields -/
structure EC (P : Program) (w : World) (K : PySem.W.Frag) (mg : Str → Option Value) (base : Heap) (cm : Nat → Addr) (x : Str) (c k : Nat) (fs : List Str) : Prop where
  ex : ∃ fI fd ps, OexC K (cm c) ∧ PySem.W.findIn K (.ref (cm c)) "__init__" = some (some (.ref fI)) ∧ PySem.W.typeIn K (.ref fI) = some (.type "function") ∧ FnOk P w K mg base (L2.CX P w) k fI fd ps (spX (cm c) fs) ∧ Binds K fd ps [] ∧ mg x = some (.ref (cm c))
theorem zip_rev {α β : Type} : ∀ {l : List α} {m : List β}, l.length = m.length → (l.zip m).reverse = l.reverse.zip m.reverse
  | [], [], _ => rfl
  | a :: l, b :: m, h => by
    have hl : l.length = m.length := by simpa using h
    rw [List.zip_cons_cons, List.reverse_cons, List.reverse_cons, List.reverse_cons, zip_rev hl, List.zip_append (by simpa using hl)]
    rfl
  | [], _ :: _, h => by cases h
  | _ :: _, [], h => by cases h
section
variable {X : Cx} {y : Y} {e : Expr} {es : List Expr} {ma : M (List Tk)} {p pos pos2 : Pos} {x : Str} {c k kk : Nat} {fs : List Str}
theorem as_bind {g : List Tk → M Fl} {env : Env} {G : Hp} {σ : L2.St} {Hk : Hp} {D : Ends} {R : List V → Hp → Prop} (q : PoS (y.ct X) y.xa y.W G Hk (mBind ma g env) D)
    (k : ∀ t e v Hk' H1, ma env = .ok t e → Kx G Hk Hk' → RE (y.ct X) y.xa G e σ Hk' H1 → RVs (y.ct X) σ Hk' t v → PoS (y.ct X) y.xa y.W G Hk' (g t e) D → R v H1) : PoA (y.ct X) y.xa y.W G σ Hk (ma env) R := by
  unfold mBind at q
  cases e : ma env with
  | ok t e1 => rw [e] at q; exact fun v Hk' H' k' r' h' => k t e1 v Hk' H' e k' r' h' (q.kx k')
  | ex c ns ds e1 => rw [e] at q; exact PoXS.at q
  | bad => rw [e] at q; exact q
def mRaise0 (c : Nat) : M Fl := fun env => .ex c [] [] env
def mRaise (c : Nat) (fs : List Str) (ma : M (List Tk)) : M Fl := mBind ma fun ts env => match forceAll ts env with
  | .ok ds e => .ex c fs.reverse ds.reverse e
  | _ => .bad
theorem psx_raise0 (h : EC X.prog X.w X.K X.mg X.base y.cm x c k []) (hr : Room kk X.A) (hc : X.calm = true) (tk : Takes X y.W) (hk : k + 1 ≤ kk := by decide) (hg : Gl X x := by rfl) (hdb : (x == ("__debug__" : Str)) = false := by decide) :
    PSx X y (.Raise (some (.Call (.Name x p) [] [] pos)) none pos2) (mRaise0 c) := by
  obtain ⟨fI, fd, ps, h1, h2, h3, h4, h5, h6⟩ := h.ex
  exact ⟨PS_imp (ps_raise hc tk (pmk_oex0 h1 h2 h3 h4 (hr.mono hk) h5 passL hg h6 hdb)) fun D σ H ⟨env, Hk, G, re, q⟩ => q _ _ σ Hk H (Kx.refl _ _) re ⟨rfl, .inl ⟨rfl, rfl⟩⟩⟩
theorem psx_raise {n : Nat} (h : EC X.prog X.w X.K X.mg X.base y.cm x c k fs) (hr : Room kk X.A) (hc : X.calm = true) (tk : Takes X y.W) (ha : PAs X y (e :: es) ma) (hl : fs.length = n + 1 := by rfl) (hn : Many ma (n + 1) := by repeat first | exact many_nil | refine many_cons ?_) (hn2 : n < 1000 := by decide) (hk : k + 1 ≤ kk := by decide) (hg : Gl X x := by rfl) (hdb : (x == ("__debug__" : Str)) = false := by decide)
    (he : starEach (e :: es) X.env = (false, eval e X.env) :: starEach es X.env := by rfl) (hpl : (backTo pos (starEach es X.env)).any (·.1) = false := by rfl) :
    PSx X y (.Raise (some (.Call (.Name x p) (e :: es) [] pos)) none pos2) (mRaise c fs ma) := by
  obtain ⟨fI, fd, ps, h1, h2, h3, h4, h5, h6⟩ := h.ex
  refine ⟨PS_imp (ps_raise hc tk (pmk_oex h1 h2 h3 h4 (hr.mono hk) h5 .nil passL hg h6 ha.pa hdb he hpl)) fun D σ H ⟨env, Hk, G, re, q⟩ => ⟨env, Hk, G, re, as_bind q fun ts e1 vs Hk' H1 z k1 r1 rs q1 => ?_⟩⟩
  have hlen : vs.length = fs.length := by rw [← rs.len, hn _ _ _ z, hl]
  refine ⟨by omega, fun a hfree => ⟨a, vs, by rw [List.append_nil], hlen, upd_same, fun H' hx => ⟨rfl, ?_⟩⟩⟩
  cases z2 : forceAll ts e1 with
  | bad => rw [z2] at q1; exact q1.elim
  | ex _ _ _ _ => rw [z2] at q1; exact q1.elim
  | ok ds e2 =>
    rw [z2] at q1
    obtain ⟨Hk2, k2, r2, rl⟩ := RVs.force r1 rs z2
    cases zl : (fs.zip vs).reverse with
    | nil =>
      have : (fs.zip vs).reverse.length = 0 := by rw [zl]; rfl
      rw [List.length_reverse, List.length_zip, hlen] at this
      omega
    | cons f0 fr =>
      rw [zl] at hx
      obtain ⟨d, hd, hne, rfl⟩ := hx
      have hd1 : H1 d = none := by rw [upd_ne hne] at hd; exact hd
      refine ⟨d, f0 :: fr, upd_same, by rw [upd_ne hne, upd_same], hd1, ?_⟩
      have eH : upd (del (upd (upd (upd H1 a (exo a (y.cm c) none)) d (exd d (f0 :: fr))) a (exo a (y.cm c) (some d))) a) d (.xd (f0 :: fr)) = upd H1 d (.xd (f0 :: fr)) := by
        funext b
        by_cases hb : b = d
        · rw [hb, upd_same, upd_same]
        · rw [upd_ne hb, upd_ne hb]
          by_cases hba : b = a
          · rw [hba, del_same, hfree]
          · rw [del_ne hba, upd_ne hba, upd_ne hb, upd_ne hba]
      rw [eH]
      refine q1 _ _ σ Hk2 _ k2 (r2.ext (Ex.new hd1)) ⟨rfl, .inr ⟨d, vs.reverse, rfl, ?_, by simp [hlen], rl.reverse⟩⟩
      rw [upd_same, ← zip_rev hlen.symm, zl]
end
end VM

set_option Elab.async false
set_option linter.all false
set_option maxRecDepth 100000
set_option maxHeartbeats 1000000
/-! VM G: try .. with several clauses, each with or without a name -/
namespace VM
open PySem PySem.Spec PyProof.Rows L2
abbrev Cl := Value × Option Nat × (Addr → Value → Option Addr → TS)
/-- an end of a clause: its name goes -/
def endsAt (oi : Option Nat) (D : Ends) : Ends := match oi with
  | none => D
  | some i => { nx := fun σ' H' => D.nx (σ'.set i none) H', rt := D.rt, bk := fun σ' H' => D.bk (σ'.set i none) H', ct := fun σ' H' => D.ct (σ'.set i none) H' }
def atCl (oi : Option Nat) (a : Addr) (σ : L2.St) : L2.St := match oi with
  | none => σ
  | some i => σ.set i (some (.ref a))
def wAll (K : PySem.W.Frag) (Wout : WX) (D : Ends) : List Cl → WX
  | [] => Wout
  | (c, oi, ts) :: r => fun cls d σ H => ∃ b, PySem.W.exmOne K cls c = some b ∧ (b = true → ∀ a, H a = none → ts a cls d (endsAt oi D) (atCl oi a σ) H) ∧ (b = false → wAll K Wout D r cls d σ H)
inductive ClsOk (X : Cx) : List ExceptHandler → List Cl → Prop
  | nil : ClsOk X [] []
  | cons {x : Str} {c : Value} {ts : Addr → Value → Option Addr → TS} {b₀ : Stmt} {suite : List Stmt} {np pos' : Pos} {hds : List ExceptHandler} {l : List Cl} (hc : Names X x c)
      (hsu : ∀ (a : Addr) (oe : Obj) (cls : Value) (d : Option Addr) (pn : List (Addr × Obj)), Zc cls d oe → (∃ vs, oe.data = .fields vs) → PSs (X.suite a ((a, oe) :: pn)) (b₀ :: suite) (ts a cls d)) (r : ClsOk X hds l) :
      ClsOk X (.ExceptHandler (some (.Name x np)) none (b₀ :: suite) pos' :: hds) ((c, none, ts) :: l)
  | consN {x n : Str} {c : Value} {i : Nat} {ts : Addr → Value → Option Addr → TS} {b₀ : Stmt} {suite : List Stmt} {np pos' : Pos} {hds : List ExceptHandler} {l : List Cl} (hN : X.N.Nodup) (hi : X.N[i]? = some n) (hln : X.env.kindOf n = some .local) (hc : Names X x c)
      (hsu : ∀ (a : Addr) (oe : Obj) (cls : Value) (d : Option Addr) (pn : List (Addr × Obj)), Zc cls d oe → (∃ vs, oe.data = .fields vs) → PSs (X.suite a ((a, oe) :: pn)) (b₀ :: suite) (ts a cls d)) (r : ClsOk X hds l) :
      ClsOk X (.ExceptHandler (some (.Name x np)) (some n) (b₀ :: suite) pos' :: hds) ((c, some i, ts) :: l)
section
variable {X : Cx} {body : List Stmt} {h₀ : ExceptHandler} {hds : List ExceptHandler} {l : List Cl} {pos : Pos} {tb : WX → TS} {Wout : WX}
theorem ps_try_all (hs : X.stack = X.env :: X.outer) (hf : X.env.frame = some X.env.locals) (tk : Takes X Wout)
    (hb : ∀ (W : WX) (pn : List (Addr × Obj)) (xe : Value → Shared → Prop), Takes (X.tr pn xe) W → PassesOwn (model X.prog X.w) X.A X.env xe → PSs (X.tr pn xe) body (tb W))
    (hh : ClsOk X (h₀ :: hds) l) : PS X (.Try body (h₀ :: hds) [] [] pos) (fun D σ H => tb (wAll X.K Wout D l) D σ H) := by
  refine ⟨fun pins s σ H D I h => ?_⟩
  have ok := I.ok
  have hfr : X.A.frames = some (X.env :: X.outer) := by rw [ok.frames, hs]
  refine wpAny_Try_except ?_
  refine wpAny_mono ((hb (wAll X.K Wout D l) (X.pn ++ pins) (fun e s₁ => wpAny (model X.prog X.w) X.A (noteFrame e X.env) (fun _ s₂ => wpAny (model X.prog X.w) X.A (setFlight e none) (fun _ s₃ =>
    wpAny (model X.prog X.w) X.A (handleBy e X.env (h₀ :: hds)) (SP X pins D) X.xe s₃) X.xe s₂) X.xe s₁) (fun u s' xx => ?_) PassesOwn.looking).run [] s σ H D (I.toTry _) h) (fun f s1 hsp => ?_) (fun e s1 he => he)
  · -- the catch
    obtain ⟨a, B, sI, pins', σ', H', cls, d, rfl, J', nb, up, sky, na, os, ag, w⟩ := xx
    have J : Inv X pins σ' H' sI := J'.ofTry ok
    have sky' : Sky B (X.env :: X.outer) a (Zc cls d) X.env.locals s'.heap := by rw [← hs]; exact sky
    show wpAny (model X.prog X.w) X.A (noteFrame (.ref a) X.env) _ _ _
    refine Sky.land Zc.steady hfr hf sky' fun h3 fl3 up3 => ?_
    have J3 : Inv X pins σ' H' { s' with heap := h3 } := J.landed nb fl3.1 (up.trans up3) os ag
    obtain ⟨oe3, vs3, he3, hz3, hd3⟩ := fl3.there
    have notFr : ∀ {h : Heap} {o : Obj} {vs : Array Value}, h.FunFrames B (X.env :: X.outer) → h.get? a = some o → o.data = .fields vs → a ∉ frs (X.env :: X.outer) := fun {h o vs} ff e dd hm => by
      obtain ⟨_, o', e', hnf⟩ := ff.mem hm
      rw [e] at e'; cases e'
      exact hnf _ dd
    have nfr := notFr fl3.2.2.1 he3 hd3
    have nL : a ≠ X.env.locals := fun z => nfr (List.mem_filterMap.mpr ⟨X.env, List.mem_cons_self, by rw [hf, z]⟩)
    have nF : a ∉ X.fs := fun hm => by
      obtain ⟨e, he, q⟩ := List.mem_filterMap.mp hm
      exact nfr (List.mem_filterMap.mpr ⟨e, List.mem_cons_of_mem _ he, q⟩)
    have S3 := J3.suite he3 hd3 na nL nF
    have LT : PySem.W.Looks (model X.prog X.w) h3 (typeOf (.ref a)) cls := fun A Q E s k q => wpAny_typeOf_ref (k _ _ he3) (by rw [hz3.1]; exact q)
    have test : ∀ {x : Str} {c : Value} {np : Pos} {Q : Value → Shared → Prop} {E : Value → Shared → Prop}, Names X x c → Q c { s' with heap := h3 } → wpAny (model X.prog X.w) (X.A.mark (some (.ref a))) (eval (.Name x np) X.env) Q E { s' with heap := h3 } := fun {x c np Q E} hc q => by
      obtain ⟨hg, hdbg, hm | ⟨hm, hv, hnn⟩⟩ := hc
      · exact ld_glob (X := X.suite a ((a, oe3) :: (X.pn ++ pins))) S3 hg hm q hdbg
      · exact ld_blt (X := X.suite a ((a, oe3) :: (X.pn ++ pins))) S3 hg hm hv q hnn hdbg
    have go : ∀ {hds' : List ExceptHandler} {l' : List Cl}, ClsOk X hds' l' → wAll X.K Wout D l' cls d σ' H' →
        wpAny (model X.prog X.w) X.A (handleBy (.ref a) X.env hds') (SP X pins D) X.xe { s' with heap := h3 } := by
      intro hds' l' hk
      induction hk with
      | nil =>
        intro w
        refine wpAny_handleBy_nil ?_
        obtain ⟨k1, k2, k3, oe, vs, T, oT, ts', he, hz, hd, h1, hr⟩ := id fl3
        unfold PySem.passOn
        refine wpAny_bind (wpAny_field he hd h1 ?_)
        rw [if_neg (show ¬ ((Value.ref T == Value.none) = true) from by simp)]
        have fin : wpAny (model X.prog X.w) X.A (setFlight (.ref a) X.env.frame) (fun _ s4 => wpAny (model X.prog X.w) X.A (throw (.ref a) : Sem Flow) (SP X pins D) X.xe s4) X.xe { s' with heap := h3 } := by
          rw [hf]
          refine HandSPX.setFlight_upZ fl3 fun h4 hh4 up4 => wpAny_throw (tk _ _ ?_)
          exact ⟨a, B, sI, pins, σ', H', cls, d, rfl, J, nb, (up.trans up3).trans up4, .inr (.inr (by rw [hs]; exact hh4)), na, os, ag, w⟩
        first
          | exact wpAny_bind (wpAny_pure (wpAny_bind fin))
          | exact wpAny_bind fin
      | @cons x c ts b₀ suite np pos' hds2 l2 hc hsu r ih =>
        intro w
        obtain ⟨b, hb1, hyes, hno⟩ := w
        refine wpAny_handleBy_cons (codeAny_handlers_test ?_) (by intro q; cases q)
        have LM := PySem.W.exm_one (M := model X.prog X.w) (J3.kIn) LT hb1
        refine test hc (LM.here ?_)
        cases b with
        | true =>
          refine codeAny_handlers_suite ?_
          refine HandSPX.lands_againZ fl3 fun h4 fl4 up4 => ?_
          have J4 : Inv X pins σ' H' { s' with heap := h4 } := J.landed nb fl4.1 ((up.trans up3).trans up4) os ag
          obtain ⟨oe4, vs4, he4, hz4, hd4⟩ := fl4.there
          have S4 := J4.suite he4 hd4 na nL nF
          refine wpAny_mono ((hsu a oe4 cls d (X.pn ++ pins) hz4 ⟨_, hd4⟩).run [] _ _ H' _ S4 (hyes rfl a na)) (fun f s6 hsp => ?_) (fun _ _ z => False.elim z)
          cases f with
          | next =>
            obtain ⟨σ6, H6, S6, q6⟩ := hsp
            exact ⟨_, _, S6.unsuite ok, q6⟩
          | brk =>
            obtain ⟨σ6, H6, S6, q6⟩ := hsp
            exact ⟨_, _, S6.unsuite ok, q6⟩
          | cont =>
            obtain ⟨σ6, H6, S6, q6⟩ := hsp
            exact ⟨_, _, S6.unsuite ok, q6⟩
          | ret u =>
            obtain ⟨v6, σ6, H6, S6, r6, q6⟩ := hsp
            exact ⟨_, _, _, S6.unsuite ok, r6, q6⟩
        | false =>
          show wpAny _ X.A (handleBy (.ref a) X.env hds2) _ _ _
          exact ih (hno rfl)
      | @consN x n c i ts b₀ suite np pos' hds2 l2 hN hi hln hc hsu r ih =>
        intro w
        obtain ⟨b, hb1, hyes, hno⟩ := w
        refine wpAny_handleBy_cons (codeAny_handlers_test ?_) (by intro q; cases q)
        have LM := PySem.W.exm_one (M := model X.prog X.w) (J3.kIn) LT hb1
        refine test hc (LM.here ?_)
        cases b with
        | true =>
          refine codeAny_handlers_suite_as ?_
          refine HandSPX.lands_againZ fl3 fun h4 fl4 up4 => ?_
          have J4 : Inv X pins σ' H' { s' with heap := h4 } := J.landed nb fl4.1 ((up.trans up3).trans up4) os ag
          obtain ⟨oe4, vs4, he4, hz4, hd4⟩ := fl4.there
          have S4 := J4.suite he4 hd4 na nL nF
          refine store_ok (X := X.suite a ((a, oe4) :: (X.pn ++ pins))) (v := .ref a) S4 hN hi (.inl hln) rfl (fun s5 S5 => ?_) (.inr hln)
          refine wpAny_mono ((hsu a oe4 cls d (X.pn ++ pins) hz4 ⟨_, hd4⟩).run [] s5 _ H' _ S5 (hyes rfl a na)) (fun f s6 hsp => ?_) (fun _ _ z => False.elim z)
          have end_ : ∀ {σ6 : L2.St} {H6 : Hp} {Q : Shared → Prop}, Inv (X.suite a ((a, oe4) :: (X.pn ++ pins))) [] σ6 H6 s6 → (∀ s7, Inv X pins (σ6.set i none) H6 s7 → Q s7) →
              wpAny (model X.prog X.w) X.A (do bindName X.env n .none; unbindBehindTheSuite X.env n pos') (fun _ s7 => Q s7) X.xe s6 := fun {σ6 H6 Q} S6 hq => gone_ok (S6.unsuite ok) hN hi hln hq
          cases f with
          | next =>
            obtain ⟨σ6, H6, S6, q6⟩ := hsp
            exact end_ S6 fun s7 J7 => ⟨_, _, J7, q6⟩
          | brk =>
            obtain ⟨σ6, H6, S6, q6⟩ := hsp
            exact end_ S6 fun s7 J7 => ⟨_, _, J7, q6⟩
          | cont =>
            obtain ⟨σ6, H6, S6, q6⟩ := hsp
            exact end_ S6 fun s7 J7 => ⟨_, _, J7, q6⟩
          | ret u =>
            obtain ⟨v6, σ6, H6, S6, r6, q6⟩ := hsp
            exact end_ S6 fun s7 J7 => ⟨_, _, _, J7, r6, q6⟩
        | false =>
          show wpAny _ X.A (handleBy (.ref a) X.env hds2) _ _ _
          exact ih (hno rfl)
    exact go hh w
  · cases f with
    | next =>
      obtain ⟨σ', H', J', q⟩ := hsp
      exact wpAny_execs_nil ⟨σ', H', J'.ofTry ok, q⟩
    | brk =>
      obtain ⟨σ', H', J', q⟩ := hsp
      exact ⟨σ', H', J'.ofTry ok, q⟩
    | cont =>
      obtain ⟨σ', H', J', q⟩ := hsp
      exact ⟨σ', H', J'.ofTry ok, q⟩
    | ret u =>
      obtain ⟨v, σ', H', J', r, q⟩ := hsp
      exact ⟨v, σ', H', J'.ofTry ok, r, q⟩
end
/-! ### the same over plain data -/
def clearX : S → S
  | .xv _ _ _ => .no
  | s => s
def unX (env : Env) : Env := env.map clearX
theorem unX_get {env : Env} {i : Nat} {s : S} (h : (unX env)[i]? = some s) (hs : s ≠ .no) : env[i]? = some s ∧ ∀ c ns ds, s ≠ .xv c ns ds := by
  unfold unX at h
  rw [List.getElem?_map] at h
  cases z : env[i]? with
  | none => rw [z] at h; cases h
  | some u =>
    rw [z] at h
    cases u with
    | xv c ns ds => cases h; exact absurd rfl hs
    | no => cases h; exact absurd rfl hs
    | sh d => cases h; exact ⟨rfl, fun _ _ _ e => by cases e⟩
    | ow d => cases h; exact ⟨rfl, fun _ _ _ e => by cases e⟩
section
variable {C : Ct} {G Hk H : Hp} {env : Env} {σ : L2.St} {p : Option Addr} {t : Addr × Value × Option Addr}
theorem RE.unX (r : RE C ⟨some t, p⟩ G env σ Hk H) : RE C ⟨none, p⟩ G (VM.unX env) σ Hk H := by
  refine ⟨by unfold VM.unX; rw [List.length_map]; exact r.len, r.hk, r.g, fun i d h => r.sh i d (unX_get h (by simp)).1, fun i d h => r.ow i d (unX_get h (by simp)).1,
    fun i j d d' a h1 h2 => r.inj i j d d' a (unX_get h1 (by simp)).1 (unX_get h2 (by simp)).1, fun i c ns ds h => absurd rfl ((unX_get h (by simp)).2 c ns ds), fun a d h1 h2 => r.pn a d h1 (unX_get h2 (by simp)).1⟩
theorem RE.toX (r : RE C ⟨none, p⟩ G env σ Hk H) : RE C ⟨some t, p⟩ G env σ Hk H :=
  ⟨r.len, r.hk, r.g, r.sh, r.ow, r.inj, fun i c ns ds h => (by
    obtain ⟨a, cls, dd, e, _⟩ := r.xv i c ns ds h
    cases e), r.pn⟩
theorem RE.setX (r : RE C ⟨none, p⟩ G env σ Hk H) {i c : Nat} {ns : List Str} {ds : List D} {a : Addr} {cls : Value} {dd : Option Addr} (rx : RpX C Hk H c ns ds cls dd) :
    RE C ⟨some (a, cls, dd), p⟩ G (env.set i (.xv c ns ds)) (σ.set i (some (.ref a))) Hk H := by
  have r1 := (r.dropSet i (some (.ref a))).toX (t := (a, cls, dd))
  refine ⟨by simpa using r.len, r.hk, r.g, fun j d h => ?_, fun j d h => ?_, fun j k d d' b h1 h2 => ?_, fun j c' ns' ds' h => ?_, fun b d h1 h2 => ?_⟩
  · rcases set_get h with ⟨_, _, e⟩ | ⟨ne, e⟩
    · cases e
    · exact r1.sh j d (by rw [List.getElem?_set_ne ne]; exact e)
  · rcases set_get h with ⟨_, _, e⟩ | ⟨ne, e⟩
    · cases e
    · exact r1.ow j d (by rw [List.getElem?_set_ne ne]; exact e)
  · rcases set_get h1 with ⟨_, _, e⟩ | ⟨ne1, e1⟩
    · cases e
    · rcases set_get h2 with ⟨_, _, e⟩ | ⟨ne2, e2⟩
      · cases e
      · exact r1.inj j k d d' b (by rw [List.getElem?_set_ne ne1]; exact e1) (by rw [List.getElem?_set_ne ne2]; exact e2)
  · rcases set_get h with ⟨rfl, hl, e⟩ | ⟨ne, e⟩
    · cases e
      exact ⟨a, cls, dd, rfl, by rw [List.getElem?_set_self (by rw [← r.len]; exact hl)], rx⟩
    · obtain ⟨_, _, _, e', _⟩ := r.xv j c' ns' ds' e
      cases e'
  · rcases set_get h2 with ⟨_, _, e⟩ | ⟨ne, e⟩
    · cases e
    · exact r1.pn b d h1 (by rw [List.getElem?_set_ne ne]; exact e)
end
def leave (oi : Option Nat) (env : Env) : Env := match oi with
  | none => unX env
  | some i => (unX env).set i .no
def enter (oi : Option Nat) (c : Nat) (ns : List Str) (ds : List D) (env : Env) : Env := match oi with
  | none => env
  | some i => env.set i (.xv c ns ds)
def suiteEnd (oi : Option Nat) : Rs Fl → Rs Fl
  | .ok .nx e => .ok .nx (leave oi e)
  | .ok .bk e => .ok .bk (leave oi e)
  | .ok .ct e => .ok .ct (leave oi e)
  | .ok (.rt t) e => .ok (.rt t) (unX e)
  | _ => .bad
def mHandle (sub : Nat → D → Option Bool) (c : Nat) (ns : List Str) (ds : List D) : List (D × Option Nat × M Fl) → M Fl
  | [], e => .ex c ns ds e
  | (k, oi, m) :: r, e => match sub c k with
    | some true => suiteEnd oi (m (enter oi c ns ds e))
    | some false => mHandle sub c ns ds r e
    | none => .bad
def mTry (sub : Nat → D → Option Bool) (body : M Fl) (hs : List (D × Option Nat × M Fl)) : M Fl := fun env => match body env with
  | .ex c ns ds e => mHandle sub c ns ds hs e
  | r => r
structure SubX (K : PySem.W.Frag) (cm : Nat → Addr) (sub : Nat → D → Option Bool) : Prop where
  ok : ∀ c k b cv, sub c k = some b → valT cm k = some cv → PySem.W.exmOne K (.ref (cm c)) cv = some b
abbrev ySu (y : Y) (a : Addr) (cls : Value) (d : Option Addr) : Y := ⟨y.cm, ⟨some (a, cls, d), y.xa.p⟩, fun _ _ _ _ => False⟩
inductive HxOk (X : Cx) (y : Y) : List ExceptHandler → List (D × Option Nat × M Fl) → Prop
  | nil : HxOk X y [] []
  | cons {x : Str} {k : D} {cv : Value} {m : M Fl} {b₀ : Stmt} {suite : List Stmt} {np pos' : Pos} {hds : List ExceptHandler} {l : List (D × Option Nat × M Fl)} (hv : valT y.cm k = some cv) (hc : Names X x cv)
      (hsu : ∀ (a : Addr) (oe : Obj) (cls : Value) (d : Option Addr) (pn : List (Addr × Obj)), Zc cls d oe → (∃ vs, oe.data = .fields vs) → PSSx (X.suite a ((a, oe) :: pn)) (ySu y a cls d) (b₀ :: suite) m) (r : HxOk X y hds l) :
      HxOk X y (.ExceptHandler (some (.Name x np)) none (b₀ :: suite) pos' :: hds) ((k, none, m) :: l)
  | consN {x n : Str} {k : D} {cv : Value} {i : Nat} {m : M Fl} {b₀ : Stmt} {suite : List Stmt} {np pos' : Pos} {hds : List ExceptHandler} {l : List (D × Option Nat × M Fl)} (hN : X.N.Nodup) (hi : X.N[i]? = some n) (hln : X.env.kindOf n = some .local) (hv : valT y.cm k = some cv) (hc : Names X x cv)
      (hsu : ∀ (a : Addr) (oe : Obj) (cls : Value) (d : Option Addr) (pn : List (Addr × Obj)), Zc cls d oe → (∃ vs, oe.data = .fields vs) → PSSx (X.suite a ((a, oe) :: pn)) (ySu y a cls d) (b₀ :: suite) m) (r : HxOk X y hds l) :
      HxOk X y (.ExceptHandler (some (.Name x np)) (some n) (b₀ :: suite) pos' :: hds) ((k, some i, m) :: l)
/-- a clause's reading -/
def clOf (X : Cx) (y : Y) (q : D × Option Nat × M Fl) : Cl := ((valT y.cm q.1).getD .none, q.2.1, fun a cls d D σ H => ∃ env Hk G, RE (y.ct X) ⟨some (a, cls, d), y.xa.p⟩ G env σ Hk H ∧ PoS (y.ct X) ⟨some (a, cls, d), y.xa.p⟩ (fun _ _ _ _ => False) G Hk (q.2.2 env) D)
theorem hx_cls {X : Cx} {y : Y} {hds : List ExceptHandler} {l : List (D × Option Nat × M Fl)} (h : HxOk X y hds l) : ClsOk X hds (l.map (clOf X y)) ∧ ∀ q ∈ l, ∃ cv, valT y.cm q.1 = some cv := by
  induction h with
  | nil => exact ⟨.nil, fun q hq => by cases hq⟩
  | @cons x k cv m b₀ suite np pos' hds l hv hc hsu r ih =>
    refine ⟨.cons (by show Names X x ((valT y.cm k).getD .none); rw [hv]; exact hc) (fun a oe cls d pn z f => PSs_imp (hsu a oe cls d pn z f).pss fun D σ H q => q) ih.1, fun q hq => ?_⟩
    rcases List.mem_cons.mp hq with rfl | hq
    · exact ⟨cv, hv⟩
    · exact ih.2 q hq
  | @consN x n k cv i m b₀ suite np pos' hds l hN hi hln hv hc hsu r ih =>
    refine ⟨.consN hN hi hln (by show Names X x ((valT y.cm k).getD .none); rw [hv]; exact hc) (fun a oe cls d pn z f => PSs_imp (hsu a oe cls d pn z f).pss fun D σ H q => q) ih.1, fun q hq => ?_⟩
    rcases List.mem_cons.mp hq with rfl | hq
    · exact ⟨cv, hv⟩
    · exact ih.2 q hq
section
variable {X : Cx} {y : Y} {body : List Stmt} {h₀ : ExceptHandler} {hds : List ExceptHandler} {l : List (D × Option Nat × M Fl)} {pos : Pos} {mb : M Fl} {sub : Nat → D → Option Bool}
theorem suite_go {C : Ct} {G Hk : Hp} {p : Option Addr} {t : Addr × Value × Option Addr} {W : WX} {oi : Option Nat} {D : Ends} {r : Rs Fl} (q : PoS C ⟨none, p⟩ W G Hk (suiteEnd oi r) D) : PoS C ⟨some t, p⟩ (fun _ _ _ _ => False) G Hk r (endsAt oi D) := by
  cases r with
  | bad => exact q.elim
  | ex c ns ds e => exact q.elim
  | ok fl e =>
    cases fl with
    | rt t =>
        intro v σ' Hk' H' k r rt
        have q : ∀ v σ' Hk' H', Kx G Hk Hk' → RE C ⟨none, p⟩ G (unX e) σ' Hk' H' → RT C G (unX e) σ' Hk' H' t v → D.rt v H' := q
        have q2 := q v σ' Hk' H' k r.unX (by
          cases t with
          | val d => exact rt
          | slot j => exact rt
          | new d =>
            obtain ⟨a, h1, h2, h3, h4⟩ := rt
            exact ⟨a, h1, h2, h3, fun i d' h => h4 i d' (unX_get h (by simp)).1⟩)
        cases oi <;> exact q2
    | nx =>
      cases oi with
      | none => exact fun σ' Hk' H' k r => q σ' Hk' H' k r.unX
      | some i => exact fun σ' Hk' H' k r => q (σ'.set i none) Hk' H' k (r.unX.dropSet i none)
    | bk =>
      cases oi with
      | none => exact fun σ' Hk' H' k r => q σ' Hk' H' k r.unX
      | some i => exact fun σ' Hk' H' k r => q (σ'.set i none) Hk' H' k (r.unX.dropSet i none)
    | ct =>
      cases oi with
      | none => exact fun σ' Hk' H' k r => q σ' Hk' H' k r.unX
      | some i => exact fun σ' Hk' H' k r => q (σ'.set i none) Hk' H' k (r.unX.dropSet i none)
theorem handle_go (S : SubX X.K y.cm sub) (hx : y.xa.x = none) {G Hk H : Hp} {c : Nat} {ns : List Str} {ds : List D} {σ : L2.St} {cls : Value} {dd : Option Addr} {Dd : Ends} : ∀ {l : List (D × Option Nat × M Fl)} {e : Env}, (∀ q ∈ l, ∃ cv, valT y.cm q.1 = some cv) →
    RE (y.ct X) y.xa G e σ Hk H → RpX (y.ct X) Hk H c ns ds cls dd → PoS (y.ct X) y.xa y.W G Hk (mHandle sub c ns ds l e) Dd → wAll X.K y.W Dd (l.map (clOf X y)) cls dd σ H
  | [], e, hv, re, rx, q => q cls dd σ Hk H (Kx.refl _ _) re rx
  | (k, oi, m) :: r, e, hv, re, rx, q => by
    obtain ⟨⟨xx, p⟩⟩ : Nonempty Xa := ⟨y.xa⟩
    obtain ⟨cv, hcv⟩ := hv _ List.mem_cons_self
    have hcv : valT y.cm k = some cv := hcv
    unfold mHandle at q
    cases z : sub c k with
    | none => rw [z] at q; exact q.elim
    | some b =>
      rw [z] at q
      refine ⟨b, ?_, fun hb a ha => ?_, fun hb => ?_⟩
      · rw [rx.1]
        show PySem.W.exmOne X.K (.ref (y.cm c)) ((valT y.cm k).getD .none) = some b
        rw [hcv]
        exact S.ok c k b cv z hcv
      · subst hb
        dsimp only at q
        have exa : y.xa = ⟨none, y.xa.p⟩ := by rw [← hx]
        rw [exa] at q re
        refine ⟨enter oi c ns ds e, Hk, G, ?_, suite_go q⟩
        cases oi with
        | none => exact re.toX
        | some i => exact re.setX rx
      · subst hb
        dsimp only at q
        exact handle_go S hx (fun q hq => hv q (List.mem_cons_of_mem _ hq)) re rx q
theorem psx_try (S : SubX X.K y.cm sub) (tk : Takes X y.W) 
    (hb : ∀ (W : WX) (pn : List (Addr × Obj)) (xe : Value → Shared → Prop), Takes (X.tr pn xe) W → PassesOwn (model X.prog X.w) X.A X.env xe → PSSx (X.tr pn xe) ⟨y.cm, y.xa, W⟩ body mb)
    (hh : HxOk X y (h₀ :: hds) l) (hx : y.xa.x = none := by rfl) (hs : X.stack = X.env :: X.outer := by rfl) (hf : X.env.frame = some X.env.locals := by rfl) : PSx X y (.Try body (h₀ :: hds) [] [] pos) (mTry sub mb l) := by
  obtain ⟨h1, h2⟩ := hx_cls hh
  refine ⟨PS_imp (ps_try_all (tb := fun W => tS X ⟨y.cm, y.xa, W⟩ mb) hs hf tk (fun W pn xe t p => (hb W pn xe t p).pss) h1) fun D σ H ⟨env, Hk, G, re, q⟩ => ⟨env, Hk, G, re, ?_⟩⟩
  unfold mTry at q
  cases z : mb env with
  | bad => rw [z] at q; exact q.elim
  | ok fl e => rw [z] at q; cases fl <;> exact q
  | ex c ns ds e =>
    rw [z] at q
    intro cls dd σ' Hk' H' k' r' rx
    exact handle_go S hx h2 r' rx (q.kx k')
end
/-! ### raised.f -/
def mXf (cs : List Nat) (k : Nat) (n : Str) : M Tk := fun env => match env[k]? with
  | some (.xv c ns ds) => if c ∈ cs then match (ns.zip ds).lookup n with
    | some d => .ok (.val d) env
    | none => .bad
  else .bad
  | _ => .bad
theorem look_put {α : Type} (f g : Str) (y : α) (fs : List (Str × α)) : ((f, y) :: fs).lookup g = if g = f then some y else fs.lookup g := by
  by_cases h : g = f
  · subst h
    simp [List.lookup]
  · have e : (g == f) = false := by simpa using h
    rw [if_neg h]
    simp [List.lookup, e]
theorem zip_look {C : Ct} {H : Hp} {n : Str} {d : D} : ∀ {ns : List Str} {ds : List D} {vs : List V}, RpL C H ds vs → (ns.zip ds).lookup n = some d → ∃ v, (ns.zip vs).lookup n = some v ∧ Rp C H d v
  | [], _, _, _, h => by cases h
  | _ :: _, [], _, _, h => by cases h
  | m :: ns, e :: ds, vs, r, h => by
    obtain ⟨v, r', rfl, r1, r2⟩ := r.inv
    rw [List.zip_cons_cons, look_put] at h
    rw [List.zip_cons_cons, look_put]
    by_cases q : n = m
    · rw [if_pos q] at h ⊢
      cases h
      exact ⟨v, rfl, r1⟩
    · rw [if_neg q] at h ⊢
      exact zip_look r2 h
theorem px_xf {X : Cx} {y : Y} {a : Addr} {oe : Obj} {cls : Value} {d : Option Addr} {pn : List (Addr × Obj)} {i : Nat} {pos p : Pos} {n x : Str} {cs : List Nat} (T : ∀ c ∈ cs, XfC X.K (y.cm c) ∧ PySem.W.findIn X.K (.ref (y.cm c)) n = some none)
    (hz : Zc cls d oe) (hf : ∃ vs, oe.data = .fields vs) (he : PE (X.suite a ((a, oe) :: pn)) (.Name x p) (tVar i)) (hb : attributeBase (.Name x p) n X.env (eval (.Name x p) X.env) = eval (.Name x p) X.env := by rfl) :
    PX (X.suite a ((a, oe) :: pn)) (ySu y a cls d) (.Attribute (.Name x p) n pos) (mXf cs i n) := by
  have P : PE (X.suite a ((a, oe) :: pn)) (.Attribute (.Name x p) n pos) (fun σ H Q => ∃ c ∈ cs, tXf a cls d (y.cm c) n (tVar i) σ H Q) :=
    ⟨fun pins s σ H Q I ⟨c, hc, h⟩ => (pe_xf (T c hc).1 (T c hc).2 hz hf he hb).run pins s σ H Q I h⟩
  refine ⟨PE_imp P fun σ H Q ⟨env, Hk, G, re, q⟩ => ?_⟩
  unfold mXf at q
  cases z : env[i]? with
  | none => rw [z] at q; exact q.elim
  | some s =>
    rw [z] at q
    cases s with
    | no => exact q.elim
    | sh _ => exact q.elim
    | ow _ => exact q.elim
    | xv c ns ds =>
      dsimp only at q
      by_cases hc : c ∈ cs
      · rw [if_pos hc] at q
        obtain ⟨a', cls', dd, e, hσ, rx⟩ := re.xv i c ns ds z
        cases e
        cases l : (ns.zip ds).lookup n with
        | none => rw [l] at q; exact q.elim
        | some dv =>
          rw [l] at q
          obtain ⟨ec, hh⟩ := rx
          rcases hh with ⟨rfl, rfl⟩ | ⟨d1, vs, ed, hd, hl, rl⟩
          · cases l
          · obtain ⟨v, hv, rv⟩ := zip_look rl l
            exact ⟨c, hc, .ref a, hσ, rfl, ec, d1, _, v, ed, hd, hv, q v Hk H (Kx.refl _ _) re rv⟩
      · rw [if_neg hc] at q; exact q.elim
end VM

set_option Elab.async false
set_option linter.all false
set_option maxRecDepth 100000
set_option maxHeartbeats 1000000
/-! VM H: more operators, walks, defaults, chains -/
namespace VM
open PySem PySem.Spec PyProof.Rows L2
section
variable {X : Cx} {y : Y} {a b c e : Expr} {es : List Expr} {m m1 m2 m3 : M Tk} {ma : M (List Tk)} {n : M Bool} {pos p : Pos}
/-! ### bits -/
def dShr : D → D → Option Tk := dI (fun _ j => decide (0 ≤ j)) fun i j => .int (i / 2 ^ j.toNat)
theorem px_shr (ha : PX X y a m1) (hb : PX X y b m2) : PX X y (.BinOp a .RShift b pos) (mBin dShr m1 m2) := px_bin op_shr (dI_ok (fun _ _ _ => rp_int) fun _ _ h => of_decide_eq_true h) ha hb
def dAnd : D → D → Option Tk := dI (fun _ _ => true) fun i j => .int (Builtin.bitAnd i j)
theorem px_band (ha : PX X y a m1) (hb : PX X y b m2) : PX X y (.BinOp a .BitAnd b pos) (mBin dAnd m1 m2) := px_bin op_and (dI0_ok fun _ _ _ => rp_int) ha hb
/-! ### str -/
def dStr : D → Option Tk
  | .int i => if i.natAbs.log2 < 1920 then some (.val (.str (toString i))) else none
  | .str s => some (.val (.str s))
  | _ => none
theorem str_ok : OpN X y (fn1 dStr) (fun xs H Q => (∃ i, xs = [.int i] ∧ i.natAbs.log2 < 1920 ∧ Q (.str (toString i)) H) ∨ ∃ a, xs = [.str a] ∧ Q (.str a) H) := op1N (by
  intro Hk H d v t Q e h pa q
  cases d <;> simp only [dStr] at h <;> first
    | (cases h; done)
    | (split at h
       · cases h; cases pa.int; exact .inl ⟨_, rfl, by assumption, q _ _ (res_flat rp_str e)⟩
       · cases h)
    | (cases h; cases pa.str; exact .inr ⟨_, rfl, q _ _ (res_flat rp_str e)⟩))
theorem px_str1 (hm : X.mg "str" = none) (ha : PAs X y [e] ma) (hg : Gl X "str" := by rfl) (he : starEach [e] X.env = (false, eval e X.env) :: starEach [] X.env := by rfl) : PX X y (.Call (.Name "str" p) [e] [] pos) (mCall (fn1 dStr) ma) := px_typ (callR_or call_str_int SkE.call_str_str) str_ok hg hm (by decide +kernel) ha (he := he) (hpl := by rfl)
/-! ### a <= b < c -/
theorem px_chain {f g : D → D → Option Bool} {r r' : R2} {op op' : CmpOp} (ho : OpR X (compareOp op) r) (ho' : OpR X (compareOp op') r') (of : ∀ Hk H a b v w k Q, Ex Hk H → f a b = some k → Pk (y.ct X) Hk H a v → Pk (y.ct X) Hk H b w → (Q (.bl k) H) → r v w H Q) (og : Op2 X y (lift g) r')
    (ha : PX X y a m1) (hb : PX X y b m2) (hc : PX X y c m3) (hm : lastMarks [op, op'] [b, c] = false := by with_unfolding_all rfl) : PX X y (.Compare a [op, op'] [b, c] pos) (mChain f g m1 m2 m3) := by
  refine ⟨PE_imp (pe_chain ho ho' ha.pe hb.pe hc.pe hm) fun σ H Q ⟨env, Hk, G, re, q⟩ => ⟨env, Hk, G, re, po_bind q fun t1 e1 v Hk1 H1 k1 r1 rt1 q1 => ?_⟩⟩
  obtain ⟨Hk1', k1', r1, rv1⟩ := rt1.settle r1
  refine ⟨e1, Hk1', G, r1, po_bind (q1.kx k1') fun t2 e2 w Hk2 H2 k2 r2 rt2 q2 => ?_⟩
  have rt1 := (rv1.kx k2).rt (G := G) (env := e2) (H := H2)
  obtain ⟨Hk2', k2', r2', rv2⟩ := rt2.settle r2
  cases z1 : look t1.settle e2 with
  | none => rw [z1] at q2; exact q2.elim
  | some d1 =>
    cases z2 : look t2 e2 with
    | none => rw [z1, z2] at q2; exact q2.elim
    | some d2 =>
      rw [z1, z2] at q2
      dsimp only at q2
      cases z3 : f d1 d2 with
      | none => rw [z3] at q2; exact q2.elim
      | some k =>
        rw [z3] at q2
        refine of Hk2 H2 d1 d2 v w k _ r2.hk z3 (rt1.look r2 z1) (rt2.look r2 z2) ⟨k, rfl, ?_⟩
        cases k with
        | false => exact q2 _ Hk2 H2 (Kx.refl _ _) r2 (rp_bl (C := y.ct X) (H := Hk2))
        | true =>
          rw [if_pos rfl]
          refine ⟨e2, Hk2', G, r2', po_bind (q2.kx k2') fun t3 e3 u Hk3 H3 k3 r3 rt3 q3 => ?_⟩
          have rt2' := (rv2.kx k3).rt (G := G) (env := e3) (H := H3)
          cases z4 : look t2.settle e3 with
          | none => rw [z4] at q3; exact q3.elim
          | some b' =>
            cases z5 : look t3 e3 with
            | none => rw [z4, z5] at q3; exact q3.elim
            | some cc =>
              rw [z4, z5] at q3
              dsimp only at q3
              unfold mOf at q3
              cases z6 : g b' cc with
              | none => rw [z6] at q3; exact q3.elim
              | some k2 =>
                rw [z6] at q3
                refine og Hk3 H3 b' cc w u (.val (.bl k2)) Q r3.hk (by unfold lift; rw [z6]) (rt2'.look r3 z4) (rt3.look r3 z5) fun z H' hz => ?_
                obtain ⟨Hk', k1, r1, rt⟩ := r3.res hz
                exact q3 z Hk' H' k1 r1 rt
theorem cI_one {c : Int → Int → Bool} {f : D → D → Option Bool} (hf : ∀ d1 d2 k, f d1 d2 = some k → ∃ i j, d1 = .int i ∧ d2 = .int j ∧ k = c i j) : ∀ (Hk H : Hp) (a b : D) (v w : V) (k : Bool) (Q : VK), Ex Hk H → f a b = some k → Pk (y.ct X) Hk H a v → Pk (y.ct X) Hk H b w → Q (.bl k) H → rI0 (fun i j => .bl (c i j)) v w H Q := by
  intro Hk H a b v w k Q e h pa pb q
  obtain ⟨i, j, rfl, rfl, rfl⟩ := hf _ _ _ h
  cases pa.int
  cases pb.int
  exact ⟨i, j, rfl, rfl, q⟩
theorem cLt_i (d1 d2 : D) (k : Bool) (h : cLt d1 d2 = some k) : ∃ i j, d1 = .int i ∧ d2 = .int j ∧ k = decide (i < j) := by
  cases d1 <;> cases d2 <;> first | (cases h; done) | (cases h; exact ⟨_, _, rfl, rfl, rfl⟩)
theorem cLe_i (d1 d2 : D) (k : Bool) (h : cLe d1 d2 = some k) : ∃ i j, d1 = .int i ∧ d2 = .int j ∧ k = decide (i ≤ j) := by
  cases d1 <;> cases d2 <;> first | (cases h; done) | (cases h; exact ⟨_, _, rfl, rfl, rfl⟩)
theorem px_lele (ha : PX X y a m1) (hb : PX X y b m2) (hc : PX X y c m3) (hm : lastMarks [.LtE, .LtE] [b, c] = false := by with_unfolding_all rfl) : PX X y (.Compare a [.LtE, .LtE] [b, c] pos) (mChain cLe cLe m1 m2 m3) := px_chain op_le op_le (cI_one cLe_i) cI_ok ha hb hc hm
theorem px_lelt (ha : PX X y a m1) (hb : PX X y b m2) (hc : PX X y c m3) (hm : lastMarks [.LtE, .Lt] [b, c] = false := by with_unfolding_all rfl) : PX X y (.Compare a [.LtE, .Lt] [b, c] pos) (mChain cLe cLt m1 m2 m3) := px_chain op_le op_lt (cI_one cLe_i) cI_ok ha hb hc hm
theorem px_ltle (ha : PX X y a m1) (hb : PX X y b m2) (hc : PX X y c m3) (hm : lastMarks [.Lt, .LtE] [b, c] = false := by with_unfolding_all rfl) : PX X y (.Compare a [.Lt, .LtE] [b, c] pos) (mChain cLt cLe m1 m2 m3) := px_chain op_lt op_le (cI_one cLt_i) cI_ok ha hb hc hm
theorem px_ltlt (ha : PX X y a m1) (hb : PX X y b m2) (hc : PX X y c m3) (hm : lastMarks [.Lt, .Lt] [b, c] = false := by with_unfolding_all rfl) : PX X y (.Compare a [.Lt, .Lt] [b, c] pos) (mChain cLt cLt m1 m2 m3) := px_chain op_lt op_lt (cI_one cLt_i) cI_ok ha hb hc hm
end
/-! ### enumerate, zip, reversed -/
def enumD : Nat → List D → List D
  | _, [] => []
  | k, x :: xs => .tup [.int (k : Nat), x] :: enumD (k + 1) xs
theorem enumD_get : ∀ {xs : List D} {k i : Nat} {d : D}, (enumD k xs)[i]? = some d → ∃ x, xs[i]? = some x ∧ d = .tup [.int ((k + i : Nat) : Int), x]
  | [], _, _, _, h => by cases h
  | x :: xs, k, 0, d, h => by cases h; exact ⟨x, rfl, rfl⟩
  | x :: xs, k, i + 1, d, h => by
    have h' : (enumD (k + 1) xs)[i]? = some d := by simpa [enumD] using h
    obtain ⟨z, h1, h2⟩ := enumD_get h'
    exact ⟨z, by simpa using h1, by rw [h2, show k + 1 + i = k + (i + 1) by omega]⟩
theorem enumD_len : ∀ {xs : List D} {k : Nat}, (enumD k xs).length = xs.length
  | [], _ => rfl
  | x :: xs, k => by show (enumD (k + 1) xs).length + 1 = _; rw [enumD_len]; rfl
def zipD : List D → List D → List D
  | x :: xs, y :: ys => .tup [x, y] :: zipD xs ys
  | _, _ => []
theorem zipD_get : ∀ {xs ys : List D} {i : Nat} {d : D}, (zipD xs ys)[i]? = some d → ∃ x y, xs[i]? = some x ∧ ys[i]? = some y ∧ d = .tup [x, y]
  | [], _, _, _, h => by simp [zipD] at h
  | _ :: _, [], _, _, h => by simp [zipD] at h
  | x :: xs, y :: ys, 0, d, h => by cases h; exact ⟨x, y, rfl, rfl, rfl⟩
  | x :: xs, y :: ys, i + 1, d, h => by
    have h' : (zipD xs ys)[i]? = some d := by simpa [zipD] using h
    obtain ⟨z, u, h1, h2, h3⟩ := zipD_get h'
    exact ⟨z, u, by simpa using h1, by simpa using h2, h3⟩
theorem zipD_len : ∀ {xs ys : List D}, (zipD xs ys).length = min xs.length ys.length
  | [], _ => by simp [zipD]
  | _ :: _, [] => by simp [zipD]
  | x :: xs, y :: ys => by
    show (zipD xs ys).length + 1 = min (xs.length + 1) (ys.length + 1)
    rw [zipD_len]; omega
theorem rpl2 {C : Ct} {H : Hp} {d1 d2 : D} {v1 v2 : V} (h1 : Rp C H d1 v1) (h2 : Rp C H d2 v2) : RpL C H [d1, d2] [v1, v2] := RpL.cons h1 (RpL.cons h2 RpL.nil)
theorem serv_enum {C : Ct} {Hk : Hp} {a : Addr} {xs : List D} {vs : List V} (h : SqL C.K Hk a vs) (r : RpL C Hk xs vs) : Serv C (Ite C.K a) Hk (enumD 0 xs) := by
  intro i Hk1 H e1 e2
  have h1 : SqL C.K H a vs := ex_l (e1.trans e2) h
  refine ⟨fun d hd => ?_, fun hi => ⟨vs, h1, by rw [enumD_len] at hi; rw [← r.len]; exact hi⟩⟩
  obtain ⟨x, hx, rfl⟩ := enumD_get hd
  obtain ⟨v, hv, rv⟩ := r.get hx
  refine ⟨⟨vs, v, h1, hv⟩, fun z H' hy => ?_⟩
  obtain ⟨T, u, rfl, hT, rfl, hu⟩ := hy
  have := hu vs h1
  rw [hv] at this
  cases this
  rw [Nat.zero_add]
  exact res_tup e2 hT (rpl2 rp_int (rv.mono e1))
theorem serv_zipL {C : Ct} {Hk : Hp} {a b : Addr} {xs ys : List D} {vs ws : List V} (h : SqL C.K Hk a vs) (r : RpL C Hk xs vs) (h' : SqL C.K Hk b ws) (r' : RpL C Hk ys ws) : Serv C (Itz C.K a b) Hk (zipD xs ys) := by
  intro i Hk1 H e1 e2
  have h1 : SqL C.K H a vs := ex_l (e1.trans e2) h
  have h2 : SqL C.K H b ws := ex_l (e1.trans e2) h'
  refine ⟨fun d hd => ?_, fun hi => ⟨vs, ws, h1, h2, by rw [zipD_len, r.len, r'.len] at hi; omega⟩⟩
  obtain ⟨x, y, hx, hy, rfl⟩ := zipD_get hd
  obtain ⟨v, hv, rv⟩ := r.get hx
  obtain ⟨w, hw, rw'⟩ := r'.get hy
  refine ⟨⟨vs, ws, v, w, h1, h2, hv, hw⟩, fun z H' hz => ?_⟩
  obtain ⟨T, p, q, rfl, hT, rfl, hp, hq⟩ := hz
  have e3 := hp vs h1
  have e4 := hq ws h2
  rw [hv] at e3
  rw [hw] at e4
  cases e3
  cases e4
  exact res_tup e2 hT (rpl2 (rv.mono e1) (rw'.mono e1))
theorem serv_zipT {C : Ct} {Hk : Hp} {a b : Addr} {xs ys : List D} {vs ws : List V} (h : Hk a = some (.tup vs)) (r : RpL C Hk xs vs) (h' : Hk b = some (.tup ws)) (r' : RpL C Hk ys ws) : Serv C (RZ.ItzT C.K a b) Hk (zipD xs ys) := by
  intro i Hk1 H e1 e2
  have h1 : SqT C.K H a vs := sqT (e2 _ _ (e1 _ _ h))
  have h2 : SqT C.K H b ws := sqT (e2 _ _ (e1 _ _ h'))
  refine ⟨fun d hd => ?_, fun hi => ⟨vs, ws, h1, h2, by rw [zipD_len, r.len, r'.len] at hi; omega⟩⟩
  obtain ⟨x, y, hx, hy, rfl⟩ := zipD_get hd
  obtain ⟨v, hv, rv⟩ := r.get hx
  obtain ⟨w, hw, rw'⟩ := r'.get hy
  refine ⟨⟨vs, ws, v, w, h1, h2, hv, hw⟩, fun z H' hz => ?_⟩
  obtain ⟨T, p, q, rfl, hT, rfl, hp, hq⟩ := hz
  have e3 := hp vs h1
  have e4 := hq ws h2
  rw [hv] at e3
  rw [hw] at e4
  cases e3
  cases e4
  exact res_tup e2 hT (rpl2 (rv.mono e1) (rw'.mono e1))
theorem serv_rev {C : Ct} {Hk : Hp} {a : Addr} {xs : List D} {vs : List V} (h : SqL C.K Hk a vs) (r : RpL C Hk xs vs) : Serv C (Itv C.K a vs.length) Hk xs.reverse := by
  intro i Hk1 H e1 e2
  have h1 : SqL C.K H a vs := ex_l (e1.trans e2) h
  have hl := r.len
  refine ⟨fun d hd => ?_, fun hi => by rw [List.length_reverse, hl] at hi; exact hi⟩
  have hi : i < xs.length := by
    have := (List.getElem?_eq_some_iff.mp hd).1
    simpa using this
  rw [List.getElem?_reverse hi, hl] at hd
  obtain ⟨v, hv, rv⟩ := r.get hd
  refine ⟨⟨by omega, vs, v, h1, hv⟩, fun z H' hz => ?_⟩
  obtain ⟨rfl, hx⟩ := hz
  have e3 := hx vs h1
  rw [hv] at e3
  cases e3
  exact res_flat (rv.mono e1) e2
theorem serv_revT {C : Ct} {Hk : Hp} {a : Addr} {xs : List D} {vs : List V} (h : Hk a = some (.tup vs)) (r : RpL C Hk xs vs) : Serv C (RT.ItvT C.K a vs.length) Hk xs.reverse := by
  intro i Hk1 H e1 e2
  have h1 : SqT C.K H a vs := sqT (e2 _ _ (e1 _ _ h))
  have hl := r.len
  refine ⟨fun d hd => ?_, fun hi => by rw [List.length_reverse, hl] at hi; exact hi⟩
  have hi : i < xs.length := by
    have := (List.getElem?_eq_some_iff.mp hd).1
    simpa using this
  rw [List.getElem?_reverse hi, hl] at hd
  obtain ⟨v, hv, rv⟩ := r.get hd
  refine ⟨⟨by omega, vs, v, h1, hv⟩, fun z H' hz => ?_⟩
  obtain ⟨rfl, hx⟩ := hz
  have e3 := hx vs h1
  rw [hv] at e3
  cases e3
  exact res_flat (rv.mono e1) e2
section
variable {X : Cx} {y : Y} {a b e : Expr} {es : List Expr} {m : M Tk} {ma : M (List Tk)} {p pos tpos : Pos} {elts : List Expr} {kk : Nat} {tg : Expr}
/-- the arguments' values, all known from now on -/
theorem ai_force {f : List D → Option (List D)} {env : Env} {G : Hp} {σ : L2.St} {Hk : Hp} {R : It → Hp → Prop} {T : List V → Hp → Prop}
    (q : PoI (y.ct X) y.xa y.W G σ Hk (mBind ma (fun ts env => match forceAll ts env with
      | .ok ds e => match f ds with
        | some xs => .ok xs e
        | none => .bad
      | _ => .bad) env) R)
    (k : ∀ ds vs xs Hk' H1, f ds = some xs → Ex Hk' H1 → RpL (y.ct X) Hk' ds vs → (∀ J, Serv (y.ct X) J Hk' xs → R J H1) → T vs H1) : PoA (y.ct X) y.xa y.W G σ Hk (ma env) T := by
  refine ai_bind q fun ts e vs Hk1 H1 k1 r1 rs q1 => ?_
  cases z : forceAll ts e with
  | bad => rw [z] at q1; exact q1.elim
  | ex c ns ds e2 => rw [z] at q1; exact q1.elim
  | ok ds e2 =>
    rw [z] at q1
    dsimp only at q1
    obtain ⟨Hk2, k2, r2, rl⟩ := RVs.force r1 rs z
    cases z2 : f ds with
    | none => rw [z2] at q1; exact q1.elim
    | some xs =>
      rw [z2] at q1
      exact k ds vs xs Hk2 H1 z2 r2.hk rl fun J s => q1 J Hk2 H1 k2 r2 s
def mWalk (f : List D → Option (List D)) (ma : M (List Tk)) : M (List D) := mBind ma fun ts env => match forceAll ts env with
  | .ok ds e => match f ds with
    | some xs => .ok xs e
    | none => .bad
  | _ => .bad
def wEnum : List D → Option (List D)
  | [.lst xs] => some (enumD 0 xs)
  | [.scr ns] => some (enumD 0 (ns.map .int))
  | _ => none
theorem pix_enum (hm : X.mg "enumerate" = none) (ha : PAs X y [e] ma) (hg : Gl X "enumerate" := by rfl) (hs : starEach [e] X.env = [(false, eval e X.env)] := by rfl) :
    PIx X y (.Tuple elts kk tpos) (.Call (.Name "enumerate" p) [e] [] pos) (mWalk wEnum ma) := by
  refine ⟨PI_imp (pi_enum hg hm ha.pa hs) fun σ H R ⟨env, Hk, G, re, q⟩ => ⟨env, Hk, G, re, ai_force q fun ds vs xs Hk' H1 hf ex rl qq => ?_⟩⟩
  unfold wEnum at hf
  split at hf
  · cases hf
    obtain ⟨v, r, rfl, rd, rn⟩ := rl.inv
    have hr : r = [] := List.eq_nil_of_length_eq_zero rn.len.symm
    subst hr
    unfold Rp at rd
    obtain ⟨a, vs', rfl, h1, h2⟩ := rd
    exact ⟨a, vs', rfl, sqL (ex _ _ h1), qq _ (serv_enum (C := y.ct X) (sqL h1) h2)⟩
  · cases hf
    obtain ⟨v, r, rfl, rd, rn⟩ := rl.inv
    have hr : r = [] := List.eq_nil_of_length_eq_zero rn.len.symm
    subst hr
    unfold Rp at rd
    obtain ⟨a, rfl, h1⟩ := rd
    exact ⟨a, _, rfl, ex_l ex h1, qq _ (serv_enum (C := y.ct X) h1 ints_rpl)⟩
  · cases hf
def wZip : List D → Option (List D)
  | [.lst xs, .lst ys] => some (zipD xs ys)
  | [.tup xs, .tup ys] => some (zipD xs ys)
  | _ => none
theorem pix_zip (hm : X.mg "zip" = none) (ha : PAs X y [a, b] ma) (hg : Gl X "zip" := by rfl) (hs : starEach [a, b] X.env = (false, eval a X.env) :: starEach [b] X.env := by rfl) (hpl : (backTo pos (starEach [b] X.env)).any (·.1) = false := by rfl) :
    PIx X y (.Tuple elts kk tpos) (.Call (.Name "zip" p) [a, b] [] pos) (mWalk wZip ma) := by
  refine ⟨PI_imp (RZ.pi_zipA hg hm ha.pa hs hpl) fun σ H R ⟨env, Hk, G, re, q⟩ => ⟨env, Hk, G, re, ai_force q fun ds vs xs Hk' H1 hf ex rl qq => ?_⟩⟩
  unfold wZip at hf
  split at hf
  · cases hf
    obtain ⟨v, r, rfl, rd, rn⟩ := rl.inv
    obtain ⟨v2, r2, rfl, rd2, rn2⟩ := rn.inv
    have hr : r2 = [] := List.eq_nil_of_length_eq_zero rn2.len.symm
    subst hr
    unfold Rp at rd rd2
    obtain ⟨a, vs', rfl, h1, h2⟩ := rd
    obtain ⟨b, ws', rfl, h3, h4⟩ := rd2
    exact ⟨a, b, vs', ws', rfl, .inl ⟨sqL (ex _ _ h1), sqL (ex _ _ h3), qq _ (serv_zipL (C := y.ct X) (sqL h1) h2 (sqL h3) h4)⟩⟩
  · cases hf
    obtain ⟨v, r, rfl, rd, rn⟩ := rl.inv
    obtain ⟨v2, r2, rfl, rd2, rn2⟩ := rn.inv
    have hr : r2 = [] := List.eq_nil_of_length_eq_zero rn2.len.symm
    subst hr
    unfold Rp at rd rd2
    obtain ⟨a, vs', rfl, h1, h2⟩ := rd
    obtain ⟨b, ws', rfl, h3, h4⟩ := rd2
    exact ⟨a, b, vs', ws', rfl, .inr ⟨sqT (ex _ _ h1), sqT (ex _ _ h3), qq _ (serv_zipT (C := y.ct X) h1 h2 h3 h4)⟩⟩
  · cases hf
def mRev (m : M Tk) : M (List D) := mBind m fun t env => match force t env with
  | .ok (.lst xs) e => .ok xs.reverse e
  | .ok (.tup xs) e => .ok xs.reverse e
  | .ok (.scr ns) e => .ok (ns.map .int).reverse e
  | _ => .bad
theorem pix_rev (hm : X.mg "reversed" = none) (h : PX X y e m) (hg : Gl X "reversed" := by rfl) (hs : starEach [e] X.env = (false, eval e X.env) :: starEach [] X.env := by rfl) :
    PIx X y tg (.Call (.Name "reversed" p) [e] [] pos) (mRev m) := by
  refine ⟨PI_imp (RT.pi_revA hg hm h.pe hs) fun σ H R ⟨env, Hk, G, re, q⟩ => ⟨env, Hk, G, re, ?_⟩⟩
  unfold mRev mBind at q
  cases z : m env with
  | ex c ns ds e1 => rw [z] at q; exact q
  | bad => rw [z] at q; exact q
  | ok t e1 =>
    rw [z] at q
    dsimp only at q
    intro v Hk1 H1 k1 r1 rt1
    rcases force_cases t e1 with ⟨d, e2, z2⟩ | z2
    · rw [z2] at q
      obtain ⟨Hk2, k2, r2, rd⟩ := rt1.force r1 z2
      cases d with
      | lst xs =>
        unfold Rp at rd
        obtain ⟨a, vs, rfl, h1, h2⟩ := rd
        exact ⟨a, vs, rfl, .inl ⟨sqL (r2.hk _ _ h1), q _ Hk2 H1 (k1.trans k2) r2 (serv_rev (C := y.ct X) (sqL h1) h2)⟩⟩
      | tup xs =>
        unfold Rp at rd
        obtain ⟨a, vs, rfl, h1, h2⟩ := rd
        exact ⟨a, vs, rfl, .inr ⟨sqT (r2.hk _ _ h1), q _ Hk2 H1 (k1.trans k2) r2 (serv_revT (C := y.ct X) h1 h2)⟩⟩
      | scr ns =>
        unfold Rp at rd
        obtain ⟨a, rfl, h1⟩ := rd
        exact ⟨a, _, rfl, .inl ⟨ex_l r2.hk h1, q _ Hk2 H1 (k1.trans k2) r2 (serv_rev (C := y.ct X) h1 ints_rpl)⟩⟩
      | _ => exact q.elim
    · rw [z2] at q; exact q.elim
/-- range(a, b, -1) -/
def rngDn (lo : Int) (n : Nat) : List D := (List.range n).map fun i => .int (lo + (i : Nat) * (-1))
theorem serv_dn {C : Ct} {Hk : Hp} {lo : Int} {n : Nat} : Serv C (Itc lo (-1) n) Hk (rngDn lo n) := by
  intro i Hk1 H e1 e2
  refine ⟨fun d hd => ?_, fun hi => show n ≤ i by unfold rngDn at hi; simpa using hi⟩
  unfold rngDn at hd
  rw [List.getElem?_map] at hd
  cases z : (List.range n)[i]? with
  | none => rw [z] at hd; cases hd
  | some j =>
    rw [z] at hd
    cases hd
    obtain ⟨hl, hj⟩ := List.getElem?_eq_some_iff.mp z
    rw [List.getElem_range] at hj
    subst hj
    refine ⟨show i < n by simpa using hl, fun x H' hx => ?_⟩
    obtain ⟨rfl, rfl⟩ := hx
    exact res_flat rp_int e2
def wDn : List D → Option (List D)
  | [.int i, .int j, .int c] => if c = -1 ∧ okR i = true ∧ okR j = true then some (rngDn i (i - j).toNat) else none
  | _ => none
theorem pix_rng3 {c : Expr} (hm : X.mg "range" = none) (ha : PAs X y [a, b, c] ma) (hg : Gl X "range" := by rfl) (hs : starEach [a, b, c] X.env = (false, eval a X.env) :: starEach [b, c] X.env := by rfl) (hpl : (backTo pos (starEach [b, c] X.env)).any (·.1) = false := by rfl) :
    PIx X y tg (.Call (.Name "range" p) [a, b, c] [] pos) (mWalk wDn ma) := by
  refine ⟨PI_imp (pi_range3 hg hm ha.pa hs hpl) fun σ H R ⟨env, Hk, G, re, q⟩ => ⟨env, Hk, G, re, ai_force q fun ds vs xs Hk' H1 hf ex rl qq => ?_⟩⟩
  unfold wDn at hf
  split at hf
  · split at hf
    · rename_i ok
      cases hf
      obtain ⟨v, r, rfl, rd, rn⟩ := rl.inv
      obtain ⟨v2, r2, rfl, rd2, rn2⟩ := rn.inv
      obtain ⟨v3, r3, rfl, rd3, rn3⟩ := rn2.inv
      have hr : r3 = [] := List.eq_nil_of_length_eq_zero rn3.len.symm
      subst hr
      unfold Rp at rd rd2 rd3
      subst rd
      subst rd2
      subst rd3
      have o := okR_at ok.2.1
      have o2 := okR_at ok.2.2
      have oc := ok.1
      subst oc
      exact ⟨_, _, _, _, rfl, RgC.neg o.1 o.2 o2.1 o2.2, qq _ serv_dn⟩
    · cases hf
  · cases hf
end
end VM

set_option Elab.async false
set_option linter.all false
set_option maxRecDepth 100000
set_option maxHeartbeats 1000000
/-! VM I: defs with defaults -/
namespace VM
open PySem PySem.Spec PyProof.Rows L2
def mPad (dds : List D) (ma : M (List Tk)) : M (List Tk) := mBind ma fun ts env => .ok (ts ++ dds.map .val) env
/-- a def of the text, called so that the last parameters have the values dds -/
structure CFD (P : Program) (w : World) (K : PySem.W.Frag) (mg : Str → Option Value) (base : Heap) (cm : Nat → Addr) (x : Str) (k : Nat) (ps : List Str) (F : List D → Rf) (dds : List D) : Prop where
  ex : ∃ f fd ds dvs, FnOk P w K mg base (L2.CX P w) k f fd ps (spF ⟨K, cm⟩ ps.length F) ∧ mg x = some (.ref f) ∧ PySem.W.keepIn K (.ref f) = true ∧ Binds K fd ps ds ∧ Vals dvs ds ∧ ∀ H, RpL ⟨K, cm⟩ H dds dvs
theorem rvs_vals {C : Ct} {σ : L2.St} {Hk : Hp} : ∀ {dds : List D} {dvs : List V}, RpL C Hk dds dvs → RVs C σ Hk (dds.map .val) dvs
  | [], dvs, h => by
    obtain rfl : dvs = [] := List.eq_nil_of_length_eq_zero h.len.symm
    exact .nil
  | d :: ds, dvs, h => by
    obtain ⟨v, r, rfl, h1, h2⟩ := h.inv
    exact .cons h1 (rvs_vals h2)
theorem RVs.pad {C : Ct} {σ : L2.St} {Hk : Hp} {dds : List D} {dvs : List V} (h : RpL C Hk dds dvs) : ∀ {ts : List Tk} {vs : List V}, RVs C σ Hk ts vs → RVs C σ Hk (ts ++ dds.map .val) (vs ++ dvs)
  | _, _, .nil => rvs_vals h
  | _, _, .cons h1 h2 => .cons h1 (RVs.pad h h2)
section
variable {X : Cx} {y : Y} {e : Expr} {es : List Expr} {ma : M (List Tk)} {pos p : Pos} {F : List D → Rf} {k kk n : Nat} {ps : List Str} {x : Str} {dds : List D}
theorem mPad_bind {α : Type} {g : List Tk → M α} : mBind (mPad dds ma) g = mBind ma fun ts => g (ts ++ dds.map .val) := by
  funext env
  unfold mPad mBind
  cases ma env <;> rfl
theorem px_callD (h : CFD X.prog X.w X.K X.mg X.base y.cm x k ps F dds) (hr : Room kk X.A) (tk : Takes X y.W) (ha : PAs X y (e :: es) ma) (hn : Many ma n := by repeat first | exact many_nil | refine many_cons ?_) (hps : n + dds.length = ps.length := by rfl) (hk : k ≤ kk := by decide) (hg : Gl X x := by rfl) (hdb : (x == ("__debug__" : Str)) = false := by decide)
    (he : starEach (e :: es) X.env = (false, eval e X.env) :: starEach es X.env := by rfl) (hpl : (backTo pos (starEach es X.env)).any (·.1) = false := by rfl) : PX X y (.Call (.Name x p) (e :: es) [] pos) (mCallF F (mPad dds ma)) := by
  obtain ⟨f, fd, ds, dvs, h1, h2, h3, h4, h5, h6⟩ := h.ex
  refine ⟨PE_imp (pe_callSD h1 (hr.mono hk) hg h2 h3 h4 h5 (fun σ => passAt tk σ) ha.pa hdb he hpl) fun σ H Q ⟨env, Hk, G, re, q⟩ => ⟨env, Hk, G, re, ?_⟩⟩
  unfold mCallF at q
  rw [mPad_bind] at q
  exact pa_bindN hn q fun ts e vs Hk' H1 k1 r1 rs hl q1 => callF_go r1 (RVs.pad (h6 Hk') rs) (by rw [List.length_append, ← rs.len, hl, ← (h6 Hk').len]; exact hps) q1
end
section
variable {P : Program} {w : World} {K : PySem.W.Frag} {mg : Str → Option Value} {base : Heap} {cm : Nat → Addr}
theorem fn_okD {x qual : Str} {st : Stmt} {dvs : List V} {kws : List (Str × V)} {f : Addr} {fd : FuncData} {N ps : List Str} {k : Nat} {body : M Fl} (F : FunD K x qual (defArgs st) (defBody st) (defScope st) dvs kws f fd) (S : FnScope N ps (defScope st)) (hl : ps.length ≤ N.length)
    (hb : ∀ (cdv : Value) (A : Around) (outer : List PySem.Env) (s : Shared) (H : Hp) (E : XK), Room k (A.deeper (envOfC qual (defScope st) s.heap.objs.size f cdv)) →
      PSSx (cxOf (L2.CX P w) P w K mg base N qual (defScope st) f cdv A outer s H E) (yF cm E) (defBody st) body) :
    FnOk P w K mg base (L2.CX P w) (k + 1) f fd ps (spF ⟨K, cm⟩ ps.length (mkF N.length body)) := by
  refine F.ok S (fun vs H Q E h => h.1) fun cdv A outer s H vs Q E hr h => ⟨_, (hb cdv A outer s H E hr).pss, ?_⟩
  obtain ⟨hn, ds, Hk, e, rl, q⟩ := h
  refine ⟨entry N.length ds, Hk, H, entry_re e rl (by omega), ?_⟩
  unfold mkF at q
  cases z : body (entry N.length ds) with
  | bad => rw [z] at q; exact q.elim
  | ex c ns xs e1 =>
    rw [z] at q
    exact fun cls dd σ' Hk' H' k' r' rx => q cls dd Hk' H' k' r'.hk r'.g rx
  | ok fl e1 =>
    rw [z] at q
    cases fl with
    | nx => exact fun σ' Hk' H' k' r' => q .non Hk' H' k' r'.hk r'.g (rp_non (C := ⟨K, cm⟩) (H := Hk'))
    | bk => exact q.elim
    | ct => exact q.elim
    | rt t =>
      intro v σ' Hk' H' k' r' rt
      unfold fin at q
      dsimp only at q
      cases z2 : outTk t e1 with
      | none => rw [z2] at q; exact q.elim
      | some o =>
        obtain ⟨nw, d⟩ := o
        rw [z2] at q
        exact q v Hk' H' k' r'.hk r'.g (outTk_bk r' rt z2)
end
theorem funD_mk {K : PySem.W.Frag} {x qual : Str} {st : Stmt} {f T : Addr} {oc tc : Value} {od td an : Option Addr} {osl tsl : Array (Option Value)} {kV doc pm cdv ct : Value} {dvs : List V} {its : List Value} {n : Nat}
    (l : K.lookup f = some ⟨oc, od, .func (PySem.W.fnOf x qual (defArgs st) (defBody st) (defScope st) (.ref T) kV doc pm an cdv ct), osl⟩) (c : PySem.W.codeIn K cdv qual = true) (k : PySem.W.keepIn K (.ref f) = true)
    (t : K.lookup T = some ⟨tc, td, .seq its.toArray n, tsl⟩) (ne : dvs ≠ []) (r : Vals dvs its) : FunD K x qual (defArgs st) (defBody st) (defScope st) dvs [] f (PySem.W.fnOf x qual (defArgs st) (defBody st) (defScope st) (.ref T) kV doc pm an cdv ct) :=
  ⟨⟨oc, od, _, kV, doc, pm, an, cdv, ct, osl, rfl, l, c, .inr ⟨ne, T, _, its, n, rfl, t, rfl, r⟩, .inl rfl⟩, k⟩
/-- the rest of the call's promise: Binds with the values behind the first j defaults -/
theorem cfd_mk {P : Program} {w : World} {K : PySem.W.Frag} {mg : Str → Option Value} {base : Heap} {cm : Nat → Addr} {x : Str} {k : Nat} {ps : List Str} {F : List D → Rf} {dds : List D} {f : Addr} {fd : FuncData} {dvs : List V} (h : FnOk P w K mg base (L2.CX P w) k f fd ps (spF ⟨K, cm⟩ ps.length F)) (hm : mg x = some (.ref f))
    (hk : PySem.W.keepIn K (.ref f) = true) (hb : ∃ ds, Vals dvs ds ∧ Binds K fd ps ds) (hd : ∀ H, RpL ⟨K, cm⟩ H dds dvs) : CFD P w K mg base cm x k ps F dds :=
  let ⟨ds, h1, h2⟩ := hb
  ⟨f, fd, ds, dvs, h, hm, hk, h2, h1, hd⟩
end VM

set_option Elab.async false
set_option linter.all false
set_option maxRecDepth 100000
set_option maxHeartbeats 1000000
/-! VM J: what the top must hold of exception classes, as checks -/
namespace VM
open PySem PySem.Spec PyProof.Rows L2
theorem ba {a b : Bool} (h : (a && b) = true) : a = true ∧ b = true := Bool.and_eq_true_iff.mp h
/-- a class over ValueError with a dict, as it lies in K -/
def oexB (K : PySem.W.Frag) (C : Addr) : Bool := match K.lookup C with
  | some ⟨.type "type", _, .cls cd, sl⟩ => (match cd.mro, sl.toList with
    | .ref C' :: bm, [_, _, _, _, some (.builtin n), _] => decide (C' = C) && (decide (n = "ValueError.__new__") && (!cd.hasDel && (cd.hasDict && PySem.HandSPX.refsVE bm)))
    | _, _ => false)
  | _ => false
theorem oexB_ok {K : PySem.W.Frag} {C : Addr} (q : oexB K C = true) : ∃ nm q N bs bm sn sub ab col dd k0 k1 k2 k3 k5, K.lookup C = some (excClassObj nm q C N bs bm true sn sub ab col dd k0 k1 k2 k3 k5 "ValueError.__new__") ∧ PySem.HandSPX.refsVE bm = true := by
  unfold oexB at q
  split at q
  · rename_i dd cd sl ho
    split at q
    · rename_i C' bm k0 k1 k2 k3 n k5 hm hs
      obtain ⟨q1, q⟩ := ba q
      obtain ⟨q2, q⟩ := ba q
      obtain ⟨q3, q⟩ := ba q
      obtain ⟨q4, q5⟩ := ba q
      have e1 := of_decide_eq_true q1
      have e2 := of_decide_eq_true q2
      subst e1
      subst e2
      obtain ⟨nm, bs, mro, ns, qn, hd, sn, sub, ab, col, del⟩ := cd
      dsimp only at hm q3 q4
      subst hm
      have hdel : del = false := by simpa using q3
      subst hdel
      subst q4
      have hsl : sl = #[k0, k1, k2, k3, some (.builtin "ValueError.__new__"), k5] := by
        obtain ⟨l⟩ := sl
        simp only at hs
        rw [hs]
      subst hsl
      exact ⟨nm, qn, ns, bs, bm, sn, sub, ab, col, dd, k0, k1, k2, k3, k5, ho, q5⟩
    · cases q
  · cases q
/-- all that a class of exceptions needs: its own fields are nowhere in the class -/
def ecB (K : PySem.W.Frag) (C fI : Addr) (fs : List Str) : Bool := oexB K C && (decide (PySem.W.findIn K (.ref C) "__setattr__" = some (some (.builtin "object.__setattr__"))) && (decide (PySem.W.subIn K (.ref C) (.type "BaseException") = some true) && (decide (PySem.W.typeIn K (.ref C) = some (.type "type")) && (PySem.W.keepIn K (.ref C) &&
  (decide (PySem.W.findIn K (.ref C) "__init__" = some (some (.ref fI))) && (decide (PySem.W.typeIn K (.ref fI) = some (.type "function")) && (xfB K C && fs.all fun f => decide (PySem.W.findIn K (.ref C) f = some none))))))))
structure EcF (K : PySem.W.Frag) (C fI : Addr) (fs : List Str) : Prop where
  o : OexC K C
  i : PySem.W.findIn K (.ref C) "__init__" = some (some (.ref fI))
  t : PySem.W.typeIn K (.ref fI) = some (.type "function")
  x : XfC K C
  n : ∀ f ∈ fs, PySem.W.findIn K (.ref C) f = some none
theorem ecB_ok {K : PySem.W.Frag} {C fI : Addr} {fs : List Str} (h : ecB K C fI fs = true) : EcF K C fI fs := by
  obtain ⟨h1, h⟩ := ba h
  obtain ⟨h2, h⟩ := ba h
  obtain ⟨h3, h⟩ := ba h
  obtain ⟨h4, h⟩ := ba h
  obtain ⟨h5, h⟩ := ba h
  obtain ⟨h6, h⟩ := ba h
  obtain ⟨h7, h⟩ := ba h
  obtain ⟨h8, h9⟩ := ba h
  exact ⟨⟨oexB_ok h1, of_decide_eq_true h2, of_decide_eq_true h3, of_decide_eq_true h4, h5⟩, of_decide_eq_true h6, of_decide_eq_true h7, xfB_ok h8, fun f hf => of_decide_eq_true (List.all_eq_true.mp h9 f hf)⟩
def rbB (K : PySem.W.Frag) (R : Addr) : Bool := decide (PySem.W.specialIn K (.ref R) "__getattribute__" = some (some (.builtin "type.__getattribute__"))) && PySem.W.readsIn K R (.type "type")
theorem rbB_ok {K : PySem.W.Frag} {R : Addr} (h : rbB K R = true) (h2 : PySem.W.findCls K (.ref R) (.type "type") "__init__" = some (.val (.builtin "ValueError.__init__"))) : RB K R := by
  obtain ⟨h1, h3⟩ := ba h
  exact ⟨of_decide_eq_true h1, h3, h2⟩
/-- which clause takes which class, as a table -/
def eqK : D → D → Bool
  | .cl a, .cl b => a == b
  | .ty a, .ty b => a == b
  | _, _ => false
theorem eqK_ok : ∀ {a b : D}, eqK a b = true → a = b
  | .cl a, .cl b, h => by rw [show a = b from eq_of_beq h]
  | .ty a, .ty b, h => by rw [show a = b from eq_of_beq h]
  | .cl _, .non, h | .cl _, .bl _, h | .cl _, .int _, h | .cl _, .str _, h | .cl _, .scr _, h | .cl _, .ty _, h | .cl _, .lst _, h | .cl _, .tup _, h | .cl _, .ins _ _ _, h => by cases h
  | .ty _, .non, h | .ty _, .bl _, h | .ty _, .int _, h | .ty _, .str _, h | .ty _, .scr _, h | .ty _, .cl _, h | .ty _, .lst _, h | .ty _, .tup _, h | .ty _, .ins _ _ _, h => by cases h
  | .non, _, h | .bl _, _, h | .int _, _, h | .str _, _, h | .scr _, _, h | .lst _, _, h | .tup _, _, h | .ins _ _ _, _, h => by cases h
def subOf (tab : List (Nat × D × Bool)) (c : Nat) (k : D) : Option Bool := (tab.find? fun q => q.1 == c && eqK q.2.1 k).map (·.2.2)
theorem subOf_ok {K : PySem.W.Frag} {cm : Nat → Addr} {tab : List (Nat × D × Bool)} (h : ∀ q ∈ tab, ∀ cv, valT cm q.2.1 = some cv → PySem.W.exmOne K (.ref (cm q.1)) cv = some q.2.2) : SubX K cm (subOf tab) := ⟨fun c k b cv h1 h2 => by
  unfold subOf at h1
  cases z : tab.find? fun q => q.1 == c && eqK q.2.1 k with
  | none => rw [z] at h1; cases h1
  | some q =>
    rw [z] at h1
    cases h1
    have hp := List.find?_some z
    obtain ⟨e1, e2⟩ := ba hp
    have e1 : q.1 = c := eq_of_beq e1
    have e2 := eqK_ok e2
    subst e1
    subst e2
    exact h q (List.mem_of_find?_eq_some z) cv h2⟩
/-- a statement of a class's body -/
def memS (s : Stmt) (j : Nat) : Stmt := match s with
  | .ClassDef _ _ _ b _ _ _ _ _ _ _ => b.getD j (.Pass ⟨0, 0, 0, 0⟩)
  | _ => .Pass ⟨0, 0, 0, 0⟩
theorem fnOk_imp {P : Program} {w : World} {K : PySem.W.Frag} {mg : Str → Option Value} {base : Heap} {CX : CXT} {k : Nat} {f : Addr} {fd : FuncData} {ps : List Str} {sp sp' : Sp} (h : FnOk P w K mg base CX k f fd ps sp) (g : ∀ vs H Q E, sp' vs H Q E → sp vs H Q E) : FnOk P w K mg base CX k f fd ps sp' :=
  ⟨fun vs H Q E q => h.len vs H Q E (g vs H Q E q), fun A outer s H args us vs Q E hr e0 hb r q => h.run A outer s H args us vs Q E hr e0 hb r (g vs H Q E q)⟩
/-- the law's promise, wherever the classes stand -/
def spL (K : PySem.W.Frag) (F : List D → Rf) : Sp := fun vs H Q E => ∀ cm, spF ⟨K, cm⟩ 1 F vs H Q E
theorem law_spL {K : PySem.W.Frag} {F : List D → Rf} {H : Hp} {a : Addr} {ns : List Int} (hS : SqL K H a (ns.map V.int)) (h : ∃ p, F [.scr ns] = .ok false (.bl true) p) : spL K F [.ref a] H (fun v _ => v = .bl true) (fun _ _ _ => False) := fun cm => law_sp (cm := cm) hS h
section
variable {X : Cx} {y : Y} {a b : Expr} {ma : M (List Tk)} {pos p : Pos}
theorem px_max2 (hc : X.calm = true) (hm : X.mg "max" = none) (ha : PAs X y [a, b] ma) (hg : Gl X "max" := by rfl) (he : starEach [a, b] X.env = (false, eval a X.env) :: starEach [b] X.env := by rfl) (hpl : (backTo pos (starEach [b] X.env)).any (·.1) = false := by rfl) : PX X y (.Call (.Name "max" p) [a, b] [] pos) (mCall (fn2 dMax) ma) := px_blt (call_max2 hc) max_ok hg hm (by decide +kernel) ha (he := he) (hpl := hpl)
theorem px_min2 (hc : X.calm = true) (hm : X.mg "min" = none) (ha : PAs X y [a, b] ma) (hg : Gl X "min" := by rfl) (he : starEach [a, b] X.env = (false, eval a X.env) :: starEach [b] X.env := by rfl) (hpl : (backTo pos (starEach [b] X.env)).any (·.1) = false := by rfl) : PX X y (.Call (.Name "min" p) [a, b] [] pos) (mCall (fn2 dMin) ma) := px_blt (call_min2 hc) min_ok hg hm (by decide +kernel) ha (he := he) (hpl := hpl)
/-- a global that is a whole number -/
theorem px_glob {i : Int} {x : Str} (hm : ∃ t, X.mg x = some (.int i t)) (hg : Gl X x) (hd : (x == ("__debug__" : Str)) = false := by decide) : PX X y (.Name x pos) (mC (.int i)) := by
  obtain ⟨t, hm⟩ := hm
  refine px_c (v := .int i) ⟨fun pins s σ H Q I h => ld_glob I hg hm ⟨.int i, H, I, ⟨_, rfl⟩, h⟩ hd⟩ fun _ => rp_int
end
theorem cf_mk {P : Program} {w : World} {K : PySem.W.Frag} {mg : Str → Option Value} {base : Heap} {cm : Nat → Addr} {x : Str} {k : Nat} {ps : List Str} {F : List D → Rf} {f : Addr} {fd : FuncData} (h : FnOk P w K mg base (L2.CX P w) k f fd ps (spF ⟨K, cm⟩ ps.length F)) (hm : mg x = some (.ref f))
    (hk : PySem.W.keepIn K (.ref f) = true) (hb : ∃ ds, Vals [] ds ∧ Binds K fd ps ds) : CF P w K mg base cm x k ps F := by
  obtain ⟨ds, h1, h2⟩ := hb
  cases h1
  exact ⟨f, fd, h, hm, hk, h2⟩
end VM

set_option Elab.async false
set_option linter.all false
set_option maxRecDepth 100000
set_option maxHeartbeats 1000000
/-! VM K: equality of plain data with itself; steps of statements; more step lemmas -/
namespace VM
open PySem PySem.Spec PyProof.Rows L2
theorem cEq_self {d : D} (h : d.pl 64 = true) : cEq d d = some true := by
  unfold cEq
  rw [if_pos ⟨h, h⟩]
  unfold D.eq
  rw [PySem.SeqAt.eqv_refl _ (depth_le 64 d h).1]
theorem cNe_self {d : D} (h : d.pl 64 = true) : cNe d d = some false := by
  unfold cNe
  rw [if_pos ⟨h, h⟩]
  unfold D.eq
  rw [PySem.SeqAt.eqv_refl _ (depth_le 64 d h).1]
  rfl
theorem pl_str {n : Nat} {s : Str} : D.pl n (.str s) = PyData.strOk s := by cases n <;> rfl
theorem pl_lst {n : Nat} {xs : List D} : D.pl (n + 1) (.lst xs) = xs.all (D.pl n) := rfl
theorem pl_tup {n : Nat} {xs : List D} : D.pl (n + 1) (.tup xs) = xs.all (D.pl n) := rfl
theorem pl_ints {n : Nat} {ns : List Int} : (ns.map D.int).all (D.pl n) = true := by
  rw [List.all_map, List.all_eq_true]
  intro x _
  exact pl_int
theorem seq_ok {m k : M Fl} {env e : Env} (h : m env = .ok .nx e) : mSeq m k env = k e := by rw [a_seq, h]
theorem seq_rt {m k : M Fl} {env e : Env} {t : Tk} (h : m env = .ok (.rt t) e) : mSeq m k env = .ok (.rt t) e := by rw [a_seq, h]
theorem seq_ex {m k : M Fl} {env e : Env} {c : Nat} {ns : List Str} {ds : List D} (h : m env = .ex c ns ds e) : mSeq m k env = .ex c ns ds e := by rw [a_seq, h]
section
variable {env e : Env} {ma : M (List Tk)}
theorem a_try_ok {sub : Nat → D → Option Bool} {body : M Fl} {hs : List (D × Option Nat × M Fl)} : mTry sub body hs env = match body env with
  | .ex c ns ds e => mHandle sub c ns ds hs e
  | r => r := (rfl)
theorem a_raise0 {c : Nat} : mRaise0 c env = .ex c [] [] env := (rfl)
theorem a_raise {c : Nat} {fs : List Str} : mRaise c fs ma env = bindR (ma env) fun ts env => match forceAll ts env with
  | .ok ds e => .ex c fs.reverse ds.reverse e
  | _ => .bad := (rfl)
theorem a_h0 {sub : Nat → D → Option Bool} {c : Nat} {ns : List Str} {ds : List D} : mHandle sub c ns ds [] e = .ex c ns ds e := (rfl)
theorem a_h1 {sub : Nat → D → Option Bool} {c : Nat} {ns : List Str} {ds : List D} {k : D} {oi : Option Nat} {m : M Fl} {r : List (D × Option Nat × M Fl)} : mHandle sub c ns ds ((k, oi, m) :: r) e = match sub c k with
    | some true => suiteEnd oi (m (enter oi c ns ds e))
    | some false => mHandle sub c ns ds r e
    | none => .bad := (rfl)
theorem a_en0 {c : Nat} {ns : List Str} {ds : List D} : enter none c ns ds env = env := (rfl)
theorem a_en1 {c : Nat} {ns : List Str} {ds : List D} {i : Nat} : enter (some i) c ns ds env = env.set i (.xv c ns ds) := (rfl)
theorem a_se_nx {oi : Option Nat} : suiteEnd oi (.ok .nx e) = .ok .nx (leave oi e) := (rfl)
theorem a_se_rt {oi : Option Nat} {t : Tk} : suiteEnd oi (.ok (.rt t) e) = .ok (.rt t) (unX e) := (rfl)
theorem a_lv0 : leave none e = unX e := (rfl)
theorem a_lv1 {i : Nat} : leave (some i) e = (unX e).set i .no := (rfl)
theorem a_un0 : unX [] = [] := (rfl)
theorem a_un1 {s : S} : unX (s :: e) = clearX s :: unX e := (rfl)
theorem a_cx0 : clearX .no = .no := (rfl)
theorem a_cx1 {d : D} : clearX (.sh d) = .sh d := (rfl)
theorem a_cx2 {d : D} : clearX (.ow d) = .ow d := (rfl)
theorem a_cx3 {c : Nat} {ns : List Str} {ds : List D} : clearX (.xv c ns ds) = .no := (rfl)
theorem a_xf {cs : List Nat} {k : Nat} {n : Str} : mXf cs k n env = match env[k]? with
  | some (.xv c ns ds) => if c ∈ cs then match (ns.zip ds).lookup n with
    | some d => .ok (.val d) env
    | none => .bad
  else .bad
  | _ => .bad := (rfl)
theorem a_pad {dds : List D} : mPad dds ma env = bindR (ma env) fun ts env => .ok (ts ++ dds.map .val) env := (rfl)
theorem a_walk {f : List D → Option (List D)} : mWalk f ma env = bindR (ma env) fun ts env => match forceAll ts env with
  | .ok ds e => match f ds with
    | some xs => .ok xs e
    | none => .bad
  | _ => .bad := (rfl)
theorem a_rev {m : M Tk} : mRev m env = bindR (m env) fun t env => match force t env with
  | .ok (.lst xs) e => .ok xs.reverse e
  | .ok (.tup xs) e => .ok xs.reverse e
  | .ok (.scr ns) e => .ok (ns.map .int).reverse e
  | _ => .bad := (rfl)
theorem w_enum {xs : List D} : wEnum [.lst xs] = some (enumD 0 xs) := (rfl)
theorem w_zipL {xs ys : List D} : wZip [.lst xs, .lst ys] = some (zipD xs ys) := (rfl)
theorem w_zipT {xs ys : List D} : wZip [.tup xs, .tup ys] = some (zipD xs ys) := (rfl)
theorem e_max {i j : Int} : dMax (.int i) (.int j) = some (.val (.int (if j > i then j else i))) := (rfl)
theorem e_min {i j : Int} : dMin (.int i) (.int j) = some (.val (.int (if j < i then j else i))) := (rfl)
theorem e_shr {i j : Int} (h : 0 ≤ j) : dShr (.int i) (.int j) = some (.val (.int (i / 2 ^ j.toNat))) := if_pos (decide_eq_true h)
theorem e_and {i j : Int} : dAnd (.int i) (.int j) = some (.val (.int (Builtin.bitAnd i j))) := (rfl)
theorem e_str {i : Int} (h : i.natAbs.log2 < 1920) : dStr (.int i) = some (.val (.str (toString i))) := if_pos h
end
theorem for_rng1 {n : Int} {g : D → Env → Option Env} {junk : List Nat} {body : M Fl} {env : Env} {m : M Tk} {e : Env} {i : Int} (h1 : m env = .ok (.val (.int i)) e) (h : okR i = true) : mFor (mRng (mCons m mNil)) g junk body env = mLoop g junk body (rngD 0 i.toNat) e := by
  rw [a_for, a_rng, a_cons, h1]
  simp only [bindR_ok, t_val, a_nil, a_la1, l_val, a_la0, h, if_true]
/-! ### sum of a list or a tuple -/
section
variable {X : Cx} {y : Y} {e : Expr} {ma : M (List Tk)} {pos p : Pos}
def rSumT (K : PySem.W.Frag) : List V → Hp → VK → Prop := fun vs H Q => ∃ (a : Addr) (ns : List Int), vs = [V.ref a] ∧ SqT K H a (ns.map V.int) ∧ Q (.int ns.sum) H
theorem cr_sumT (hc : X.calm = true) : CallR X (.builtin "sum") (rSumT X.K) := by
  intro pins s σ H vs us Q I r h
  obtain ⟨a, ns, rfl, hs, q⟩ := h
  obtain ⟨its, rv, hl, _⟩ := I.tuple hs
  rw [Vals.ref1 r]
  have hi := rv.ints
  obtain ⟨xs, hx⟩ := hi.allInts.items
  have hn : numsOf its.toArray.toList = ns := by rw [show its.toArray.toList = its from rfl, hi.numsOf]
  rw [hx] at hl hn
  rw [nums_intItems] at hn
  refine PySem.W.ktm_sumG (I.ok.hd hc) hl fun h' tk t' hk => ?_
  refine ⟨.int _, H, I.kept hk, ⟨_, rfl⟩, ?_⟩
  rw [preSum_eq, List.take_of_length_le (by simp), hn]
  exact q
def dSumA : D → Option Tk
  | .lst xs => (toInts xs).map fun ns => .val (.int ns.sum)
  | .tup xs => (toInts xs).map fun ns => .val (.int ns.sum)
  | _ => none
theorem sumA_ok : OpN X y (fn1 dSumA) (fun vs H Q => rSum X.K vs H Q ∨ rSumT X.K vs H Q) := op1N (by
  intro Hk H d v t Q e h pa q
  cases d with
  | lst xs =>
    simp only [dSumA] at h
    cases z : toInts xs with
    | none => rw [z] at h; cases h
    | some ns =>
      rw [z] at h
      cases h
      obtain ⟨a, vs, rfl, h1, h2⟩ := pa.lst e
      obtain rfl := toInts_eq z
      rw [rpl_ints h2] at h1
      exact .inl ⟨a, ns, rfl, sqL h1, q _ _ (res_flat rp_int e)⟩
  | tup xs =>
    simp only [dSumA] at h
    cases z : toInts xs with
    | none => rw [z] at h; cases h
    | some ns =>
      rw [z] at h
      cases h
      obtain ⟨a, vs, rfl, h1, h2, _⟩ := pa.tup e
      obtain rfl := toInts_eq z
      rw [rpl_ints h2] at h1
      exact .inr ⟨a, ns, rfl, sqT h1, q _ _ (res_flat rp_int e)⟩
  | _ => cases h)
theorem px_sumA (hc : X.calm = true) (hm : X.mg "sum" = none) (ha : PAs X y [e] ma) (hg : Gl X "sum" := by rfl) (he : starEach [e] X.env = (false, eval e X.env) :: starEach [] X.env := by rfl) : PX X y (.Call (.Name "sum" p) [e] [] pos) (mCall (fn1 dSumA) ma) := px_blt (callR_or (cr_sum hc) (cr_sumT hc)) sumA_ok hg hm (by decide +kernel) ha (he := he) (hpl := by rfl)
theorem e_sumA {ns : List Int} : dSumA (.lst (ns.map .int)) = some (.val (.int ns.sum)) := by
  show (toInts (ns.map .int)).map _ = _
  rw [toInts_map]; rfl
theorem e_sumAT {ns : List Int} : dSumA (.tup (ns.map .int)) = some (.val (.int ns.sum)) := by
  show (toInts (ns.map .int)).map _ = _
  rw [toInts_map]; rfl
end
end VM

set_option maxHeartbeats 4000000
namespace My
open PySem PySem.Spec PyProof.Rows L2 VM
def topS (i : Nat) : Stmt := PySem.Challenge.pw_rankwords_k12_whole_met_counts_of_great.main.body.getD i (.Pass ⟨0, 0, 0, 0⟩)
abbrev s__law_hand : Stmt := topS 15
abbrev s__law_mixed : Stmt := topS 16
abbrev s__law_draw : Stmt := topS 17
abbrev s__law_power : Stmt := topS 19
abbrev s__law_gauss : Stmt := topS 20
abbrev s_is_whole : Stmt := topS 1
abbrev s_check_sizes : Stmt := topS 11
abbrev s_power_of : Stmt := topS 2
abbrev s_space_count : Stmt := topS 3
abbrev s_met_counts : Stmt := topS 13
abbrev s__law_met_told : Stmt := topS 26
abbrev s__law_whole : Stmt := topS 23
abbrev s__law_shares_hold : Stmt := topS 27
abbrev s__law_at : Stmt := topS 21
abbrev s__law_tables : Stmt := topS 22
abbrev s_table_count : Stmt := topS 4
abbrev s_words_of_rank : Stmt := topS 12
abbrev s__law_words_told : Stmt := topS 25
abbrev s__law_words_hold : Stmt := topS 28
abbrev s__law_pick : Stmt := topS 18
abbrev s__law_odd : Stmt := topS 24
abbrev s__law_first_odd : Stmt := topS 29
abbrev s__law_refusals_hold : Stmt := topS 30
abbrev s_law : Stmt := topS 31
abbrev N__law_hand : List Str := ["_law_script", "_law_total", "_law_cells", "_law_cell"]
abbrev N__law_mixed : List Str := ["_law_number", "_law_turn", "_law_once", "_law_twice"]
abbrev N__law_draw : List Str := ["_law_hand_here", "_law_many", "_law_cell", "_law_rest"]
abbrev N__law_power : List Str := ["_law_base", "_law_times", "_law_total", "_law_turn"]
abbrev N__law_gauss : List Str := ["_law_q", "_law_most", "_law_rows", "_law_a", "_law_old", "_law_fresh", "_law_b"]
abbrev N_is_whole : List Str := ["thing", "low", "high"]
abbrev N_check_sizes : List Str := ["prime", "degree", "columns"]
abbrev N_power_of : List Str := ["base", "exponent", "total", "turn"]
abbrev N_space_count : List Str := ["prime", "whole", "part", "top", "bottom", "turn"]
abbrev N_met_counts : List Str := ["prime", "degree", "columns", "distance", "counts", "rank", "total", "sign", "step", "least", "heap"]
abbrev N__law_met_told : List Str := ["_law_prime", "_law_degree", "_law_columns", "_law_distance", "_law_told", "raised"]
abbrev N__law_whole : List Str := ["_law_thing"]
abbrev N__law_shares_hold : List Str := ["_law_n", "_law_counts", "_law_sums", "_law_rows", "_law_shares", "_law_rank", "_law_s", "_law_r"]
abbrev N__law_at : List Str := ["_law_rows", "_law_a", "_law_b"]
abbrev N__law_tables : List Str := ["_law_q", "_law_tall", "_law_wide", "_law_ranks", "_law_rows", "_law_found", "_law_rank", "_law_total", "_law_at_here"]
abbrev N_table_count : List Str := ["prime", "tall", "wide", "rank", "total", "turn"]
abbrev N_words_of_rank : List Str := ["prime", "degree", "columns", "rank"]
abbrev N__law_words_told : List Str := ["_law_prime", "_law_degree", "_law_columns", "_law_rank", "_law_told", "raised"]
abbrev N__law_words_hold : List Str := ["_law_q", "_law_m", "_law_n", "_law_rows", "_law_told", "_law_rank", "_law_found", "_law_turned", "_law_s"]
abbrev N__law_pick : List Str := ["_law_hand_here", "_law_things"]
abbrev N__law_odd : List Str := ["_law_hand_here", "_law_low", "_law_high", "_law_far", "_law_kind"]
abbrev N__law_first_odd : List Str := ["_law_names", "_law_flags", "_law_place", "_law_name"]
abbrev N__law_refusals_hold : List Str := ["_law_hand_here", "_law_columns", "_law_degree", "_law_good", "_law_odd_here", "_law_flags", "_law_asked", "_law_told", "_law_word", "_law_k"]
abbrev N_law : List Str := ["_law_script", "_law_hand_here", "_law_q", "_law_m", "_law_n", "_law_d", "_law_rows", "_law_found", "_law_counts", "_law_mine", "_law_s", "_law_rank", "_law_one"]
theorem sc__law_hand : FnScope N__law_hand ["_law_script"] (defScope s__law_hand) := ⟨rfl, rfl, rfl, by decide +kernel, rfl, by decide +kernel, by decide +kernel⟩
theorem sc__law_mixed : FnScope N__law_mixed ["_law_number", "_law_turn"] (defScope s__law_mixed) := ⟨rfl, rfl, rfl, by decide +kernel, rfl, by decide +kernel, by decide +kernel⟩
theorem sc__law_draw : FnScope N__law_draw ["_law_hand_here", "_law_many"] (defScope s__law_draw) := ⟨rfl, rfl, rfl, by decide +kernel, rfl, by decide +kernel, by decide +kernel⟩
theorem sc__law_power : FnScope N__law_power ["_law_base", "_law_times"] (defScope s__law_power) := ⟨rfl, rfl, rfl, by decide +kernel, rfl, by decide +kernel, by decide +kernel⟩
theorem sc__law_gauss : FnScope N__law_gauss ["_law_q", "_law_most"] (defScope s__law_gauss) := ⟨rfl, rfl, rfl, by decide +kernel, rfl, by decide +kernel, by decide +kernel⟩
theorem sc_is_whole : FnScope N_is_whole ["thing", "low", "high"] (defScope s_is_whole) := ⟨rfl, rfl, rfl, by decide +kernel, rfl, by decide +kernel, by decide +kernel⟩
theorem sc_check_sizes : FnScope N_check_sizes ["prime", "degree", "columns"] (defScope s_check_sizes) := ⟨rfl, rfl, rfl, by decide +kernel, rfl, by decide +kernel, by decide +kernel⟩
theorem sc_power_of : FnScope N_power_of ["base", "exponent"] (defScope s_power_of) := ⟨rfl, rfl, rfl, by decide +kernel, rfl, by decide +kernel, by decide +kernel⟩
theorem sc_space_count : FnScope N_space_count ["prime", "whole", "part"] (defScope s_space_count) := ⟨rfl, rfl, rfl, by decide +kernel, rfl, by decide +kernel, by decide +kernel⟩
theorem sc_met_counts : FnScope N_met_counts ["prime", "degree", "columns", "distance"] (defScope s_met_counts) := ⟨rfl, rfl, rfl, by decide +kernel, rfl, by decide +kernel, by decide +kernel⟩
theorem sc__law_met_told : FnScope N__law_met_told ["_law_prime", "_law_degree", "_law_columns", "_law_distance"] (defScope s__law_met_told) := ⟨rfl, rfl, rfl, by decide +kernel, rfl, by decide +kernel, by decide +kernel⟩
theorem sc__law_whole : FnScope N__law_whole ["_law_thing"] (defScope s__law_whole) := ⟨rfl, rfl, rfl, by decide +kernel, rfl, by decide +kernel, by decide +kernel⟩
theorem sc__law_shares_hold : FnScope N__law_shares_hold ["_law_n", "_law_counts", "_law_sums", "_law_rows"] (defScope s__law_shares_hold) := ⟨rfl, rfl, rfl, by decide +kernel, rfl, by decide +kernel, by decide +kernel⟩
theorem sc__law_at : FnScope N__law_at ["_law_rows", "_law_a", "_law_b"] (defScope s__law_at) := ⟨rfl, rfl, rfl, by decide +kernel, rfl, by decide +kernel, by decide +kernel⟩
theorem sc__law_tables : FnScope N__law_tables ["_law_q", "_law_tall", "_law_wide", "_law_ranks", "_law_rows"] (defScope s__law_tables) := ⟨rfl, rfl, rfl, by decide +kernel, rfl, by decide +kernel, by decide +kernel⟩
theorem sc_table_count : FnScope N_table_count ["prime", "tall", "wide", "rank"] (defScope s_table_count) := ⟨rfl, rfl, rfl, by decide +kernel, rfl, by decide +kernel, by decide +kernel⟩
theorem sc_words_of_rank : FnScope N_words_of_rank ["prime", "degree", "columns", "rank"] (defScope s_words_of_rank) := ⟨rfl, rfl, rfl, by decide +kernel, rfl, by decide +kernel, by decide +kernel⟩
theorem sc__law_words_told : FnScope N__law_words_told ["_law_prime", "_law_degree", "_law_columns", "_law_rank"] (defScope s__law_words_told) := ⟨rfl, rfl, rfl, by decide +kernel, rfl, by decide +kernel, by decide +kernel⟩
theorem sc__law_words_hold : FnScope N__law_words_hold ["_law_q", "_law_m", "_law_n", "_law_rows"] (defScope s__law_words_hold) := ⟨rfl, rfl, rfl, by decide +kernel, rfl, by decide +kernel, by decide +kernel⟩
theorem sc__law_pick : FnScope N__law_pick ["_law_hand_here", "_law_things"] (defScope s__law_pick) := ⟨rfl, rfl, rfl, by decide +kernel, rfl, by decide +kernel, by decide +kernel⟩
theorem sc__law_odd : FnScope N__law_odd ["_law_hand_here", "_law_low", "_law_high"] (defScope s__law_odd) := ⟨rfl, rfl, rfl, by decide +kernel, rfl, by decide +kernel, by decide +kernel⟩
theorem sc__law_first_odd : FnScope N__law_first_odd ["_law_names", "_law_flags"] (defScope s__law_first_odd) := ⟨rfl, rfl, rfl, by decide +kernel, rfl, by decide +kernel, by decide +kernel⟩
theorem sc__law_refusals_hold : FnScope N__law_refusals_hold ["_law_hand_here"] (defScope s__law_refusals_hold) := ⟨rfl, rfl, rfl, by decide +kernel, rfl, by decide +kernel, by decide +kernel⟩
theorem sc_law : FnScope N_law ["_law_script"] (defScope s_law) := ⟨rfl, rfl, rfl, by decide +kernel, rfl, by decide +kernel, by decide +kernel⟩
abbrev sI_BadSizes : Stmt := memS (topS 8) 0
theorem scI_BadSizes : FnScope ["self", "what"] ["self", "what"] (defScope sI_BadSizes) := ⟨rfl, rfl, rfl, by decide +kernel, rfl, by decide +kernel, by decide +kernel⟩
abbrev sI_BadDistance : Stmt := memS (topS 7) 0
theorem scI_BadDistance : FnScope ["self"] ["self"] (defScope sI_BadDistance) := ⟨rfl, rfl, rfl, by decide +kernel, rfl, by decide +kernel, by decide +kernel⟩
def tabE : List (Nat × D × Bool) := [(0, .cl 0, true), (0, .cl 1, false), (1, .cl 0, false), (1, .cl 1, true)]
def subE : Nat → D → Option Bool := subOf tabE
theorem subE_BadSizes_BadSizes : subE 0 (.cl 0) = some true := by decide
theorem subE_BadSizes_BadDistance : subE 0 (.cl 1) = some false := by decide
theorem subE_BadDistance_BadSizes : subE 1 (.cl 0) = some false := by decide
theorem subE_BadDistance_BadDistance : subE 1 (.cl 1) = some true := by decide
abbrev xs_0 : List Nat := [0]
def B__law_hand : M Fl :=
  (mSeq (mAsg 1 (mBin dAdd (mC (.int 83)) (mCall (fn1 dLen) (mCons (mVar 0) mNil))))
  (mSeq (mAsg 2 (mLst mNil))
  (mSeq (mFor (mIter (mVar 0)) (gN 3) [3] (mSeq (mAsg 1 (mBin dMod (mCall (fn1 dInt) (mCons (mBin dAdd (mBin dMul (mVar 1) (mC (.int 2903))) (mCall (fn1 dInt) (mCons (mVar 3) mNil))) mNil)) (mC (.int 2147483587))))
  (mDrop (mApp 2 (mCall (fn1 dAbs) (mCons (mCall (fn1 dInt) (mCons (mVar 3) mNil)) mNil))))))
  (mRet (mLst (mCons (mVar 2) (mCons (mC (.int 0)) (mCons (mC (.int 0)) (mCons (mVar 1) mNil)))))))))
def F__law_hand : List D → Rf := mkF 4 B__law_hand
def B__law_mixed : M Fl :=
  (mSeq (mAsg 2 (mBin dMod (mCall (fn1 dInt) (mCons (mBin dAdd (mBin dAdd (mBin dMul (mVar 0) (mC (.int 44497))) (mBin dMul (mVar 1) (mC (.int 9973)))) (mC (.int 30011))) mNil)) (mC (.int 2147483543))))
  (mSeq (mAsg 3 (mBin dMod (mCall (fn1 dInt) (mCons (mBin dAdd (mBin dAdd (mBin dMul (mVar 2) (mVar 2)) (mBin dMul (mVar 1) (mC (.int 60013)))) (mBin dDiv (mVar 2) (mC (.int 151)))) mNil)) (mC (.int 2147483497))))
  (mRet (mBin dDiv (mCall (fn1 dInt) (mCons (mBin dMod (mCall (fn1 dInt) (mCons (mBin dAdd (mBin dMul (mVar 3) (mC (.int 50021))) (mBin dDiv (mVar 2) (mC (.int 13)))) mNil)) (mC (.int 2147483489))) mNil)) (mC (.int 64))))))
def F__law_mixed : List D → Rf := mkF 4 B__law_mixed
def B__law_draw : M Fl :=
  (mSeq (mIfS (mAnd (mCmp cEq (mBin dIx (mVar 0) (mC (.int 2))) (mC (.int 0))) (mCmp cLt (mBin dIx (mVar 0) (mC (.int 1))) (mCall (fn1 dLen) (mCons (mBin dIx (mVar 0) (mC (.int 0))) mNil)))) (mSeq (mAsg 2 (mBin dIx (mBin dIx (mVar 0) (mC (.int 0))) (mBin dIx (mVar 0) (mC (.int 1)))))
  (mSeq (mSetI 0 (mC (.int 1)) (mBin dAdd (mBin dIx (mVar 0) (mC (.int 1))) (mC (.int 1))))
  (mSeq (mIfS (mCmp cLt (mVar 2) (mBin dPow (mC (.int 10)) (mC (.int 18)))) (mRet (mBin dMod (mCall (fn1 dInt) (mCons (mCallF F__law_mixed (mCons (mBin dMod (mCall (fn1 dInt) (mCons (mVar 2) mNil)) (mC (.int 2147483543))) (mCons (mBin dIx (mVar 0) (mC (.int 1))) mNil))) mNil)) (mVar 1))) mNext)
  (mSetI 0 (mC (.int 2)) (mVar 2))))) mNext)
  (mSeq (mIfS (mCmp cGt (mBin dIx (mVar 0) (mC (.int 2))) (mC (.int 0))) (mSeq (mAsg 3 (mBin dIx (mVar 0) (mC (.int 2))))
  (mSeq (mSetI 0 (mC (.int 2)) (mBin dDiv (mCall (fn1 dInt) (mCons (mVar 3) mNil)) (mVar 1)))
  (mRet (mBin dMod (mCall (fn1 dInt) (mCons (mVar 3) mNil)) (mVar 1))))) mNext)
  (mSeq (mSetI 0 (mC (.int 3)) (mBin dMod (mCall (fn1 dInt) (mCons (mBin dAdd (mBin dIx (mVar 0) (mC (.int 3))) (mC (.int 1))) mNil)) (mC (.int 2147483579))))
  (mRet (mBin dMod (mCall (fn1 dInt) (mCons (mCallF F__law_mixed (mCons (mBin dIx (mVar 0) (mC (.int 3))) (mCons (mBin dIx (mVar 0) (mC (.int 1))) mNil))) mNil)) (mVar 1))))))
def F__law_draw : List D → Rf := mkIO 4 B__law_draw
def B__law_power : M Fl :=
  (mSeq (mAsg 2 (mC (.int 1)))
  (mSeq (mFor (mRng (mCons (mVar 1) mNil)) (gN 3) [3] (mAsg 2 (mBin dMul (mVar 2) (mVar 0))))
  (mRet (mVar 2))))
def F__law_power : List D → Rf := mkF 4 B__law_power
def B__law_gauss : M Fl :=
  (mSeq (mAsg 2 (mLst (mCons (mLst (mCons (mC (.int 1)) mNil)) mNil)))
  (mSeq (mFor (mRng (mCons (mC (.int 1)) (mCons (mBin dAdd (mVar 1) (mC (.int 1))) mNil))) (gN 3) [3, 4, 5, 6] (mSeq (mAsg 4 (mBin dIx (mVar 2) (mBin dSub (mVar 3) (mC (.int 1)))))
  (mSeq (mAsg 5 (mLst (mCons (mC (.int 1)) mNil)))
  (mSeq (mFor (mRng (mCons (mC (.int 1)) (mCons (mVar 3) mNil))) (gN 6) [6] (mDrop (mApp 5 (mBin dAdd (mBin dIx (mVar 4) (mBin dSub (mVar 6) (mC (.int 1)))) (mBin dMul (mCallF F__law_power (mCons (mVar 0) (mCons (mVar 6) mNil))) (mBin dIx (mVar 4) (mVar 6)))))))
  (mDrop (mApp 2 (mBin dAdd (mVar 5) (mLst (mCons (mC (.int 1)) mNil)))))))))
  (mRet (mVar 2))))
def F__law_gauss : List D → Rf := mkF 7 B__law_gauss
def B_is_whole : M Fl :=
  (mSeq (mIfS (mOr (mNot (mTest (mCall (fn2 (dIsi sub0 [])) (mCons (mVar 0) (mCons (mC (.ty "int")) mNil))))) (mTest (mCall (fn2 (dIsi sub0 [])) (mCons (mVar 0) (mCons (mC (.ty "bool")) mNil))))) (mRet (mC (.bl false))) mNext)
  (mSeq (mIfS (mAnd (mCmp cIsNot (mVar 1) (mC .non)) (mCmp cLt (mVar 0) (mVar 1))) (mRet (mC (.bl false))) mNext)
  (mRet (mOrV (mBin (lift cIs) (mVar 2) (mC .non)) (mBin (lift cLe) (mVar 0) (mVar 2))))))
def F_is_whole : List D → Rf := mkF 3 B_is_whole
def B_check_sizes : M Fl :=
  (mSeq (mIfS (mNot (mTest (mCallF F_is_whole (mCons (mVar 0) (mCons (mC (.int 2)) (mCons (mC (.int 3)) mNil)))))) (mRaise 0 ["what"] (mCons (mC (.str "prime")) mNil)) mNext)
  (mSeq (mIfS (mNot (mTest (mCallF F_is_whole (mCons (mVar 1) (mCons (mC (.int 1)) (mCons (mC (.int 12)) mNil)))))) (mRaise 0 ["what"] (mCons (mC (.str "degree")) mNil)) mNext)
  (mIfS (mNot (mTest (mCallF F_is_whole (mCons (mVar 2) (mCons (mC (.int 1)) (mCons (mC (.int 12)) mNil)))))) (mRaise 0 ["what"] (mCons (mC (.str "columns")) mNil)) mNext)))
def F_check_sizes : List D → Rf := mkF 3 B_check_sizes
def B_power_of : M Fl :=
  (mSeq (mAsg 2 (mC (.int 1)))
  (mSeq (mFor (mRng (mCons (mVar 1) mNil)) (gN 3) [3] (mAsg 2 (mBin dMul (mVar 2) (mVar 0))))
  (mRet (mVar 2))))
def F_power_of : List D → Rf := mkF 4 B_power_of
def B_space_count : M Fl :=
  (mSeq (mIfS (mOr (mCmp cLt (mVar 2) (mC (.int 0))) (mCmp cGt (mVar 2) (mVar 1))) (mRet (mC (.int 0))) mNext)
  (mSeq (mAsg 3 (mC (.int 1)))
  (mSeq (mAsg 4 (mC (.int 1)))
  (mSeq (mFor (mRng (mCons (mVar 2) mNil)) (gN 5) [5] (mSeq (mAsg 3 (mBin dMul (mVar 3) (mBin dSub (mCallF F_power_of (mCons (mVar 0) (mCons (mBin dSub (mVar 1) (mVar 5)) mNil))) (mC (.int 1)))))
  (mAsg 4 (mBin dMul (mVar 4) (mBin dSub (mCallF F_power_of (mCons (mVar 0) (mCons (mBin dAdd (mVar 5) (mC (.int 1))) mNil))) (mC (.int 1)))))))
  (mRet (mBin dDiv (mVar 3) (mVar 4)))))))
def F_space_count : List D → Rf := mkF 6 B_space_count
def B_met_counts : M Fl :=
  (mSeq (mDrop (mCallF F_check_sizes (mCons (mVar 0) (mCons (mVar 1) (mCons (mVar 2) mNil)))))
  (mSeq (mIfS (mCmp cGt (mVar 2) (mVar 1)) (mRaise 0 ["what"] (mCons (mC (.str "columns")) mNil)) mNext)
  (mSeq (mIfS (mNot (mTest (mCallF F_is_whole (mCons (mVar 3) (mCons (mC (.int 1)) (mCons (mBin dAdd (mVar 2) (mC (.int 1))) mNil)))))) (mRaise0 1) mNext)
  (mSeq (mAsg 4 (mLst (mCons (mC (.int 1)) mNil)))
  (mSeq (mFor (mRng (mCons (mC (.int 1)) (mCons (mBin dAdd (mVar 2) (mC (.int 1))) mNil))) (gN 5) [5, 6, 7, 8, 9, 10] (mSeq (mAsg 6 (mC (.int 0)))
  (mSeq (mAsg 7 (mC (.int 1)))
  (mSeq (mFor (mRng (mCons (mBin dAdd (mBin dSub (mVar 5) (mVar 3)) (mC (.int 1))) mNil)) (gN 8) [8, 9, 10] (mSeq (mAsg 9 (mCallF F_power_of (mCons (mVar 0) (mCons (mBin dDiv (mBin dMul (mVar 8) (mBin dSub (mVar 8) (mC (.int 1)))) (mC (.int 2))) mNil))))
  (mSeq (mAsg 10 (mBin dSub (mCallF F_power_of (mCons (mVar 0) (mCons (mBin dMul (mVar 1) (mBin dSub (mBin dAdd (mBin dSub (mVar 5) (mVar 3)) (mC (.int 1))) (mVar 8))) mNil))) (mC (.int 1))))
  (mSeq (mAsg 6 (mBin dAdd (mVar 6) (mBin dMul (mBin dMul (mBin dMul (mVar 7) (mVar 9)) (mCallF F_space_count (mCons (mVar 0) (mCons (mVar 5) (mCons (mVar 8) mNil))))) (mVar 10))))
  (mAsg 7 (mUn dNeg (mVar 7)))))))
  (mDrop (mApp 4 (mBin dMul (mCallF F_space_count (mCons (mVar 0) (mCons (mVar 2) (mCons (mVar 5) mNil)))) (mVar 6))))))))
  (mRet (mCall (fn1 dTuple) (mCons (mVar 4) mNil))))))))
def F_met_counts : List D → Rf := mkF 11 B_met_counts
def B__law_met_told : M Fl :=
  (mSeq (mTry subE (mAsg 4 (mCallF F_met_counts (mCons (mVar 0) (mCons (mVar 1) (mCons (mVar 2) (mCons (mVar 3) mNil)))))) [(.cl 0, some 5, (mRet (mTup (mCons (mC (.str "sizes")) (mCons (mXf xs_0 5 "what") mNil))))), (.cl 1, none, (mRet (mTup (mCons (mC (.str "distance")) (mCons (mC (.str "")) mNil)))))])
  (mRet (mTup (mCons (mC (.str "told")) (mCons (mVar 4) mNil)))))
def F__law_met_told : List D → Rf := mkF 6 B__law_met_told
def B__law_whole : M Fl :=
  (mRet (mAndV (mCall (fn2 (dIsi sub0 [])) (mCons (mVar 0) (mCons (mC (.ty "int")) mNil))) (mNotV (mCall (fn2 (dIsi sub0 [])) (mCons (mVar 0) (mCons (mC (.ty "bool")) mNil))))))
def F__law_whole : List D → Rf := mkF 1 B__law_whole
def B__law_shares_hold : M Fl :=
  (mSeq (mIfS (mOr (mNot (mTest (mCall (fn2 (dIsi sub0 [])) (mCons (mVar 1) (mCons (mC (.ty "tuple")) mNil))))) (mCmp cNe (mCall (fn1 dLen) (mCons (mVar 1) mNil)) (mBin dAdd (mVar 0) (mC (.int 1))))) (mRet (mC (.bl false))) mNext)
  (mSeq (mAsg 4 (mLst mNil))
  (mSeq (mFor (mRng (mCons (mBin dAdd (mVar 0) (mC (.int 1))) mNil)) (gN 5) [5] (mSeq (mIfS (mOr (mNot (mTest (mCallF F__law_whole (mCons (mBin dIx (mVar 1) (mVar 5)) mNil)))) (mCmp cNe (mBin dMod (mCall (fn1 dInt) (mCons (mBin dIx (mVar 1) (mVar 5)) mNil)) (mBin dIx (mBin dIx (mVar 3) (mVar 0)) (mVar 5))) (mC (.int 0)))) (mRet (mC (.bl false))) mNext)
  (mDrop (mApp 4 (mBin dDiv (mBin dIx (mVar 1) (mVar 5)) (mBin dIx (mBin dIx (mVar 3) (mVar 0)) (mVar 5)))))))
  (mRet (mBin (lift cEq) (mLc (mRng (mCons (mBin dAdd (mVar 0) (mC (.int 1))) mNil)) (gN 6) [6] mYes (mCall (fn1 dSumA) (mCons (mLc (mRng (mCons (mBin dAdd (mVar 6) (mC (.int 1))) mNil)) (gN 7) [7] mYes (mBin dMul (mBin dIx (mVar 4) (mVar 7)) (mBin dIx (mBin dIx (mVar 3) (mVar 6)) (mVar 7)))) mNil))) (mVar 2))))))
def F__law_shares_hold : List D → Rf := mkF 8 B__law_shares_hold
def B__law_at : M Fl :=
  (mSeq (mIfS (mOr (mCmp cLt (mVar 2) (mC (.int 0))) (mCmp cGt (mVar 2) (mVar 1))) (mRet (mC (.int 0))) mNext)
  (mRet (mBin dIx (mBin dIx (mVar 0) (mVar 1)) (mVar 2))))
def F__law_at : List D → Rf := mkF 3 B__law_at
def B__law_tables : M Fl :=
  (mSeq (mAsg 5 (mLst mNil))
  (mSeq (mFor (mRng (mCons (mBin dAdd (mVar 3) (mC (.int 1))) mNil)) (gN 6) [6, 7, 8] (mSeq (mAsg 7 (mCallF F__law_at (mCons (mVar 4) (mCons (mVar 2) (mCons (mVar 6) mNil)))))
  (mSeq (mFor (mRng (mCons (mVar 6) mNil)) (gN 8) [8] (mAsg 7 (mIf (mCmp cLt (mVar 8) (mVar 1)) (mBin dMul (mVar 7) (mBin dSub (mCallF F__law_power (mCons (mVar 0) (mCons (mVar 1) mNil))) (mCallF F__law_power (mCons (mVar 0) (mCons (mVar 8) mNil))))) (mC (.int 0)))))
  (mDrop (mApp 5 (mVar 7))))))
  (mRet (mVar 5))))
def F__law_tables : List D → Rf := mkF 9 B__law_tables
def B_table_count : M Fl :=
  (mSeq (mAsg 4 (mCallF F_space_count (mCons (mVar 0) (mCons (mVar 2) (mCons (mVar 3) mNil)))))
  (mSeq (mIfS (mOr (mCmp cEq (mVar 4) (mC (.int 0))) (mCmp cGt (mVar 3) (mVar 1))) (mRet (mC (.int 0))) mNext)
  (mSeq (mFor (mRng (mCons (mVar 3) mNil)) (gN 5) [5] (mAsg 4 (mBin dMul (mVar 4) (mBin dSub (mCallF F_power_of (mCons (mVar 0) (mCons (mVar 1) mNil))) (mCallF F_power_of (mCons (mVar 0) (mCons (mVar 5) mNil)))))))
  (mRet (mVar 4)))))
def F_table_count : List D → Rf := mkF 6 B_table_count
def B_words_of_rank : M Fl :=
  (mSeq (mDrop (mCallF F_check_sizes (mCons (mVar 0) (mCons (mVar 1) (mCons (mVar 2) mNil)))))
  (mSeq (mIfS (mNot (mTest (mCallF F_is_whole (mCons (mVar 3) (mCons (mC (.int 0)) (mCons (mVar 2) mNil)))))) (mRaise 0 ["what"] (mCons (mC (.str "rank")) mNil)) mNext)
  (mRet (mCallF F_table_count (mCons (mVar 0) (mCons (mVar 1) (mCons (mVar 2) (mCons (mVar 3) mNil))))))))
def F_words_of_rank : List D → Rf := mkF 4 B_words_of_rank
def B__law_words_told : M Fl :=
  (mSeq (mTry subE (mAsg 4 (mCallF F_words_of_rank (mCons (mVar 0) (mCons (mVar 1) (mCons (mVar 2) (mCons (mVar 3) mNil)))))) [(.cl 0, some 5, (mRet (mTup (mCons (mC (.str "sizes")) (mCons (mXf xs_0 5 "what") mNil)))))])
  (mRet (mTup (mCons (mC (.str "told")) (mCons (mVar 4) mNil)))))
def F__law_words_told : List D → Rf := mkF 6 B__law_words_told
def B__law_words_hold : M Fl :=
  (mSeq (mAsg 4 (mLst mNil))
  (mSeq (mFor (mRng (mCons (mBin dAdd (mVar 2) (mC (.int 1))) mNil)) (gN 5) [5, 6, 7] (mSeq (mAsg 6 (mCallF F__law_words_told (mCons (mVar 0) (mCons (mVar 1) (mCons (mVar 2) (mCons (mVar 5) mNil))))))
  (mSeq (mIfS (mCmp cNe (mBin dIx (mVar 6) (mC (.int 0))) (mC (.str "told"))) (mRet (mC (.bl false))) mNext)
  (mSeq (mDrop (mApp 4 (mBin dIx (mVar 6) (mC (.int 1)))))
  (mSeq (mAsg 7 (mIf (mCmp cLe (mVar 5) (mVar 1)) (mCallF F__law_words_told (mCons (mVar 0) (mCons (mVar 2) (mCons (mVar 1) (mCons (mVar 5) mNil))))) (mTup (mCons (mC (.str "told")) (mCons (mC (.int 0)) mNil)))))
  (mIfS (mCmp cNe (mVar 7) (mVar 6)) (mRet (mC (.bl false))) mNext))))))
  (mRet (mCallF F__law_shares_hold (mCons (mVar 2) (mCons (mCall (fn1 dTuple) (mCons (mVar 4) mNil)) (mCons (mLc (mRng (mCons (mBin dAdd (mVar 2) (mC (.int 1))) mNil)) (gN 8) [8] mYes (mCallF F__law_power (mCons (mVar 0) (mCons (mBin dMul (mVar 1) (mVar 8)) mNil)))) (mCons (mVar 3) mNil))))))))
def F__law_words_hold : List D → Rf := mkF 9 B__law_words_hold
def B__law_pick : M Fl :=
  (mRet (mBin dIx (mVar 1) (mCallIO F__law_draw 0 (mCons (mCall (fn1 dLen) (mCons (mVar 1) mNil)) mNil))))
def F__law_pick : List D → Rf := mkIO 2 B__law_pick
def B__law_odd : M Fl :=
  (mSeq (mAsg 3 (mCallIO F__law_draw 0 (mCons (mBin dPow (mC (.int 10)) (mC (.int 9))) mNil)))
  (mSeq (mAsg 4 (mCallIO F__law_draw 0 (mCons (mC (.int 8)) mNil)))
  (mSeq (mIfS (mCmp cEq (mVar 4) (mC (.int 0))) (mRet (mBin dSub (mVar 1) (mC (.int 1)))) mNext)
  (mSeq (mIfS (mCmp cEq (mVar 4) (mC (.int 1))) (mRet (mBin dAdd (mVar 2) (mC (.int 1)))) mNext)
  (mSeq (mIfS (mCmp cEq (mVar 4) (mC (.int 2))) (mRet (mBin dSub (mBin dSub (mVar 1) (mC (.int 2))) (mVar 3))) mNext)
  (mSeq (mIfS (mCmp cEq (mVar 4) (mC (.int 3))) (mRet (mBin dAdd (mBin dAdd (mVar 2) (mC (.int 2))) (mVar 3))) mNext)
  (mSeq (mIfS (mCmp cEq (mVar 4) (mC (.int 4))) (mRet (mC (.bl true))) mNext)
  (mSeq (mIfS (mCmp cEq (mVar 4) (mC (.int 5))) (mRet (mC .non)) mNext)
  (mSeq (mIfS (mCmp cEq (mVar 4) (mC (.int 6))) (mRet (mCall (fn1 dStr) (mCons (mVar 1) mNil))) mNext)
  (mRet (mLst (mCons (mVar 1) mNil))))))))))))
def F__law_odd : List D → Rf := mkIO 5 B__law_odd
def B__law_first_odd : M Fl :=
  (mSeq (mFor (mWalk wEnum (mCons (mVar 0) mNil)) (gT 2 (gs1 (gN 2) (gs1 (gN 3) gs0))) [2, 3] (mIfS (mCmp cEq (mBin dAnd (mBin dShr (mVar 1) (mVar 2)) (mC (.int 1))) (mC (.int 1))) (mRet (mVar 3)) mNext))
  (mRet (mC (.str ""))))
def F__law_first_odd : List D → Rf := mkF 4 B__law_first_odd
def B__law_refusals_hold : M Fl :=
  (mSeq (mAsg 1 (mBin dAdd (mC (.int 1)) (mCallIO F__law_draw 0 (mCons (mC (.int 12)) mNil))))
  (mSeq (mAsg 2 (mBin dAdd (mVar 1) (mCallIO F__law_draw 0 (mCons (mBin dSub (mC (.int 13)) (mVar 1)) mNil))))
  (mSeq (mAsg 3 (mLst (mCons (mBin dAdd (mC (.int 2)) (mCallIO F__law_draw 0 (mCons (mC (.int 2)) mNil))) (mCons (mVar 2) (mCons (mVar 1) (mCons (mCallIO F__law_pick 0 (mCons (mLst (mCons (mC (.int 0)) (mCons (mVar 1) mNil))) mNil)) mNil))))))
  (mSeq (mAsg 4 (mLst (mCons (mCallIO F__law_odd 0 (mCons (mC (.int 2)) (mCons (mC (.int 3)) mNil))) (mCons (mCallIO F__law_odd 0 (mCons (mC (.int 1)) (mCons (mC (.int 12)) mNil))) (mCons (mCallIO F__law_odd 0 (mCons (mC (.int 1)) (mCons (mC (.int 12)) mNil))) (mCons (mCallIO F__law_odd 0 (mCons (mC (.int 0)) (mCons (mVar 1) mNil))) mNil))))))
  (mSeq (mAsg 5 (mCallIO F__law_draw 0 (mCons (mC (.int 16)) mNil)))
  (mSeq (mAsg 6 (mLc (mRng (mCons (mC (.int 4)) mNil)) (gN 9) [9] mYes (mIf (mCmp cEq (mBin dAnd (mBin dShr (mVar 5) (mVar 9)) (mC (.int 1))) (mC (.int 1))) (mBin dIx (mVar 4) (mVar 9)) (mBin dIx (mVar 3) (mVar 9)))))
  (mSeq (mAsg 7 (mCallF F__law_words_told (mCons (mBin dIx (mVar 6) (mC (.int 0))) (mCons (mBin dIx (mVar 6) (mC (.int 1))) (mCons (mBin dIx (mVar 6) (mC (.int 2))) (mCons (mBin dIx (mVar 6) (mC (.int 3))) mNil))))))
  (mSeq (mAsg 8 (mCallF F__law_first_odd (mCons (mLst (mCons (mC (.str "prime")) (mCons (mC (.str "degree")) (mCons (mC (.str "columns")) (mCons (mC (.str "rank")) mNil))))) (mCons (mVar 5) mNil))))
  (mSeq (mIfS (mOr (mAnd (mCmp cNe (mVar 8) (mC (.str ""))) (mCmp cNe (mVar 7) (mTup (mCons (mC (.str "sizes")) (mCons (mVar 8) mNil))))) (mAnd (mCmp cEq (mVar 8) (mC (.str ""))) (mCmp cNe (mBin dIx (mVar 7) (mC (.int 0))) (mC (.str "told"))))) (mRet (mC (.bl false))) mNext)
  (mSeq (mSetI 3 (mC (.int 3)) (mCallIO F__law_pick 0 (mCons (mLst (mCons (mC (.int 1)) (mCons (mBin dAdd (mVar 1) (mC (.int 1))) mNil))) mNil)))
  (mSeq (mSetI 4 (mC (.int 2)) (mCallIO F__law_odd 0 (mCons (mC (.int 1)) (mCons (mVar 2) mNil))))
  (mSeq (mSetI 4 (mC (.int 3)) (mCallIO F__law_odd 0 (mCons (mC (.int 1)) (mCons (mBin dAdd (mVar 1) (mC (.int 1))) mNil))))
  (mSeq (mAsg 6 (mLc (mRng (mCons (mC (.int 4)) mNil)) (gN 9) [9] mYes (mIf (mCmp cEq (mBin dAnd (mBin dShr (mVar 5) (mVar 9)) (mC (.int 1))) (mC (.int 1))) (mBin dIx (mVar 4) (mVar 9)) (mBin dIx (mVar 3) (mVar 9)))))
  (mSeq (mAsg 7 (mCallF F__law_met_told (mCons (mBin dIx (mVar 6) (mC (.int 0))) (mCons (mBin dIx (mVar 6) (mC (.int 1))) (mCons (mBin dIx (mVar 6) (mC (.int 2))) (mCons (mBin dIx (mVar 6) (mC (.int 3))) mNil))))))
  (mSeq (mIfS (mCmp cEq (mVar 8) (mC (.str ""))) (mRet (mBin (lift cEq) (mBin dIx (mVar 7) (mC (.int 0))) (mC (.str "told")))) mNext)
  (mRet (mBin (lift cEq) (mVar 7) (mIf (mCmp cEq (mVar 8) (mC (.str "rank"))) (mTup (mCons (mC (.str "distance")) (mCons (mC (.str "")) mNil))) (mTup (mCons (mC (.str "sizes")) (mCons (mVar 8) mNil)))))))))))))))))))))
def F__law_refusals_hold : List D → Rf := mkIO 10 B__law_refusals_hold
def B_law : M Fl :=
  (mSeq (mAsg 1 (mCallF F__law_hand (mCons (mVar 0) mNil)))
  (mSeq (mAsg 2 (mBin dAdd (mC (.int 2)) (mCallIO F__law_draw 1 (mCons (mC (.int 2)) mNil))))
  (mSeq (mAsg 3 (mBin dAdd (mC (.int 1)) (mCallIO F__law_draw 1 (mCons (mC (.int 12)) mNil))))
  (mSeq (mAsg 4 (mBin dAdd (mC (.int 1)) (mCallIO F__law_draw 1 (mCons (mVar 3) mNil))))
  (mSeq (mAsg 5 (mBin dAdd (mC (.int 1)) (mCallIO F__law_draw 1 (mCons (mBin dAdd (mVar 4) (mC (.int 1))) mNil))))
  (mSeq (mAsg 6 (mCallF F__law_gauss (mCons (mVar 2) (mCons (mC (.int 12)) mNil))))
  (mSeq (mAsg 7 (mCallF F__law_met_told (mCons (mVar 2) (mCons (mVar 3) (mCons (mVar 4) (mCons (mVar 5) mNil))))))
  (mSeq (mIfS (mCmp cNe (mBin dIx (mVar 7) (mC (.int 0))) (mC (.str "told"))) (mRet (mC (.bl false))) mNext)
  (mSeq (mAsg 8 (mBin dIx (mVar 7) (mC (.int 1))))
  (mSeq (mIfS (mNot (mTest (mCallF F__law_shares_hold (mCons (mVar 4) (mCons (mVar 8) (mCons (mLc (mRng (mCons (mBin dAdd (mVar 4) (mC (.int 1))) mNil)) (gN 10) [10] mYes (mCallF F__law_power (mCons (mVar 2) (mCons (mBin dMul (mVar 3) (mCall (fn2 dMax) (mCons (mC (.int 0)) (mCons (mBin dAdd (mBin dSub (mVar 10) (mVar 5)) (mC (.int 1))) mNil)))) mNil)))) (mCons (mVar 6) mNil))))))) (mRet (mC (.bl false))) mNext)
  (mSeq (mIfS (mOr (mCmp cNe (mBin dIx (mVar 8) (mC (.int 0))) (mC (.int 1))) (mCmp cNe (mCall (fn1 dList) (mCons (mSlice (mVar 8) (mPart (some (mC (.int 1)))) (mPart (some (mVar 5)))) mNil)) (mBin dMul (mLst (mCons (mC (.int 0)) mNil)) (mCall (fn1 dLen) (mCons (mSlice (mVar 8) (mPart (some (mC (.int 1)))) (mPart (some (mVar 5)))) mNil))))) (mRet (mC (.bl false))) mNext)
  (mSeq (mIfS (mCmp cNe (mCall (fn1 dSumA) (mCons (mVar 8) mNil)) (mCallF F__law_power (mCons (mVar 2) (mCons (mBin dMul (mVar 3) (mBin dAdd (mBin dSub (mVar 4) (mVar 5)) (mC (.int 1)))) mNil)))) (mRet (mC (.bl false))) mNext)
  (mSeq (mAsg 9 (mCallF F__law_tables (mCons (mVar 2) (mCons (mVar 3) (mCons (mVar 4) (mCons (mVar 4) (mCons (mVar 6) mNil)))))))
  (mSeq (mIfS (mCmp cNe (mCallF F__law_met_told (mCons (mVar 2) (mCons (mVar 3) (mCons (mVar 4) (mCons (mC (.int 1)) mNil))))) (mTup (mCons (mC (.str "told")) (mCons (mCall (fn1 dTuple) (mCons (mVar 9) mNil)) mNil)))) (mRet (mC (.bl false))) mNext)
  (mSeq (mIfS (mCmp cNe (mLc (mRng (mCons (mBin dAdd (mVar 4) (mC (.int 1))) mNil)) (gN 11) [11] mYes (mCallF F__law_words_told (mCons (mVar 2) (mCons (mVar 3) (mCons (mVar 4) (mCons (mVar 11) mNil)))))) (mLc (mIter (mVar 9)) (gN 12) [12] mYes (mTup (mCons (mC (.str "told")) (mCons (mVar 12) mNil))))) (mRet (mC (.bl false))) mNext)
  (mSeq (mIfS (mNot (mTest (mCallF F__law_words_hold (mCons (mVar 2) (mCons (mVar 3) (mCons (mBin dAdd (mC (.int 1)) (mCallIO F__law_draw 1 (mCons (mC (.int 12)) mNil))) (mCons (mVar 6) mNil))))))) (mRet (mC (.bl false))) mNext)
  (mRet (mCallIO F__law_refusals_hold 1 mNil))))))))))))))))))
def F_law : List D → Rf := mkF 13 B_law
structure Blt (mg : Str → Option Value) : Prop where
  b_abs : mg "abs" = none
  b_bool : mg "bool" = none
  b_enumerate : mg "enumerate" = none
  b_int : mg "int" = none
  b_isinstance : mg "isinstance" = none
  b_len : mg "len" = none
  b_list : mg "list" = none
  b_max : mg "max" = none
  b_range : mg "range" = none
  b_str : mg "str" = none
  b_sum : mg "sum" = none
  b_tuple : mg "tuple" = none
  g_MOST_SIDE : ∃ t, mg "MOST_SIDE" = some (.int 12 t)
section
variable {P : Program} {w : World} {K : PySem.W.Frag} {mg : Str → Option Value} {base : Heap} {cm : Nat → Addr} {f : Addr} {fd : FuncData}
structure Exs (P : Program) (w : World) (K : PySem.W.Frag) (mg : Str → Option Value) (base : Heap) (cm : Nat → Addr) : Prop where
  S : SubX K cm subE
  m_BadSizes : mg "BadSizes" = some (.ref (cm 0))
  m_BadDistance : mg "BadDistance" = some (.ref (cm 1))
  e_BadSizes : EC P w K mg base cm "BadSizes" 0 1 ["what"]
  e_BadDistance : EC P w K mg base cm "BadDistance" 1 1 []
  t_0 : ∀ c ∈ xs_0, XfC K (cm c) ∧ PySem.W.findIn K (.ref (cm c)) "what" = some none
theorem okI_BadSizes {C R fI : Addr} (BR : RB K R) (hR : mg "RankError" = some (.ref R)) (E : EcF K C fI ["what"]) (F : Fun K "__init__" "BadSizes.__init__" sI_BadSizes f fd) : FnOk P w K mg base (L2.CX P w) 1 f fd ["self", "what"] (spX C ["what"]) :=
  have sc := scI_BadSizes
  init1_ok (k := 0) E.o (E.n _ (by simp)) F sc rfl rfl fun cdv A outer s H EE => (pss_cons (ps_expr (pe_rkinit BR hR (pa_cons (pv 0) (pa_cons pe_str pa_nil))) rfl) (pss_one (ps_ost (pv 0) (pv 1))))
theorem okI_BadDistance {C R fI : Addr} (BR : RB K R) (hR : mg "RankError" = some (.ref R)) (E : EcF K C fI []) (F : Fun K "__init__" "BadDistance.__init__" sI_BadDistance f fd) : FnOk P w K mg base (L2.CX P w) 1 f fd ["self"] (spX C []) :=
  have sc := scI_BadDistance
  init0_ok (k := 0) E.o  F sc rfl rfl fun cdv A outer s H EE => (pss_one (ps_expr (pe_rkinit BR hR (pa_cons (pv 0) (pa_cons pe_str pa_nil))) rfl))
theorem ok__law_hand (B : Blt mg) (Z : Exs P w K mg base cm)  (F : Fun K "_law_hand" "_law_hand" s__law_hand f fd) : FnOk P w K mg base (L2.CX P w) 1 f fd ["_law_script"] (spF ⟨K, cm⟩ 1 F__law_hand) :=
  have sc := sc__law_hand
  fn_ok F sc (by decide) fun cdv A outer s H E hr =>
  (pssx_cons (psx_set (i := 1) sc.nd (px_add px_int (px_len B.b_len (pas_cons (px_var (pv 0)) pas_nil))))
  (pssx_cons (psx_set (i := 2) sc.nd (px_lst pas_nil))
  (pssx_cons (psx_for [3] hpF rfl (pix_seq (px_var (pv 0))) (pgx_name (i := 3) sc.nd) (pssx_cons (psx_set (i := 1) sc.nd (px_mod (px_int1 B.b_int (pas_cons (px_add (px_mul (px_var (pv 1)) px_int) (px_int1 B.b_int (pas_cons (px_var (pv 3)) pas_nil))) pas_nil)) px_int))
  (pssx_one (psx_expr (px_app (k := 2) (pv 2) (px_abs B.b_abs (pas_cons (px_int1 B.b_int (pas_cons (px_var (pv 3)) pas_nil)) pas_nil)) (pe_bm PySem.F.plainAttrs_list PySem.F.slot_list_append PySem.F.type_list_append mt_append (pv 2) (pa_cons (PX.pe (px_abs B.b_abs (pas_cons (px_int1 B.b_int (pas_cons (px_var (pv 3)) pas_nil)) pas_nil))) pa_nil)))))))
  (pssx_one (psx_ret (px_lst (pas_cons (px_var (pv 2)) (pas_cons px_int (pas_cons px_int (pas_cons (px_var (pv 1)) pas_nil))))))))))
theorem ok__law_mixed (B : Blt mg) (Z : Exs P w K mg base cm)  (F : Fun K "_law_mixed" "_law_mixed" s__law_mixed f fd) : FnOk P w K mg base (L2.CX P w) 1 f fd ["_law_number", "_law_turn"] (spF ⟨K, cm⟩ 2 F__law_mixed) :=
  have sc := sc__law_mixed
  fn_ok F sc (by decide) fun cdv A outer s H E hr =>
  (pssx_cons (psx_set (i := 2) sc.nd (px_mod (px_int1 B.b_int (pas_cons (px_add (px_add (px_mul (px_var (pv 0)) px_int) (px_mul (px_var (pv 1)) px_int)) px_int) pas_nil)) px_int))
  (pssx_cons (psx_set (i := 3) sc.nd (px_mod (px_int1 B.b_int (pas_cons (px_add (px_add (px_mul (px_var (pv 2)) (px_var (pv 2))) (px_mul (px_var (pv 1)) px_int)) (px_div (px_var (pv 2)) px_int)) pas_nil)) px_int))
  (pssx_one (psx_ret (px_div (px_int1 B.b_int (pas_cons (px_mod (px_int1 B.b_int (pas_cons (px_add (px_mul (px_var (pv 3)) px_int) (px_div (px_var (pv 2)) px_int)) pas_nil)) px_int) pas_nil)) px_int)))))
theorem ok__law_draw (B : Blt mg) (Z : Exs P w K mg base cm) (c__law_mixed : CF P w K mg base cm "_law_mixed" 1 ["_law_number", "_law_turn"] F__law_mixed) (F : Fun K "_law_draw" "_law_draw" s__law_draw f fd) : FnOk P w K mg base (L2.CX P w) 2 f fd ["_law_hand_here", "_law_many"] (spIO ⟨K, cm⟩ 2 F__law_draw) :=
  have sc := sc__law_draw
  fnIO_ok F sc (by decide) fun cdv A outer s H E a hr =>
  (pssx_cons (psx_if (PBW.pb (pb_and (pb_eq hr (px_ix (px_var (pv 0)) px_int) px_int) (pb_and1 (pb_lt (px_ix (px_var (pv 0)) px_int) (px_len B.b_len (pas_cons (px_ix (px_var (pv 0)) px_int) pas_nil)))))) (pssx_cons (psx_set (i := 2) sc.nd (px_ix (px_ix (px_var (pv 0)) px_int) (px_ix (px_var (pv 0)) px_int)))
  (pssx_cons (psx_setI (k := 0) (px_add (px_ix (px_var (pv 0)) px_int) px_int) px_int (ps_asg (PX.pe (px_add (px_ix (px_var (pv 0)) px_int) px_int)) (pg_sub (pv 0) (PX.pe px_int) set_list)))
  (pssx_cons (psx_if (pb_lt (px_var (pv 2)) (px_pow px_int px_int)) (pssx_one (psx_ret (px_mod (px_int1 B.b_int (pas_cons (px_callC c__law_mixed hr tkF (pas_cons (px_mod (px_int1 B.b_int (pas_cons (px_var (pv 2)) pas_nil)) px_int) (pas_cons (px_ix (px_var (pv 0)) px_int) pas_nil))) pas_nil)) (px_var (pv 1))))) pssx_nil)
  (pssx_one (psx_setI (k := 0) (px_var (pv 2)) px_int (ps_asg (PX.pe (px_var (pv 2))) (pg_sub (pv 0) (PX.pe px_int) set_list))))))) pssx_nil)
  (pssx_cons (psx_if (pb_gt (px_ix (px_var (pv 0)) px_int) px_int) (pssx_cons (psx_set (i := 3) sc.nd (px_ix (px_var (pv 0)) px_int))
  (pssx_cons (psx_setI (k := 0) (px_div (px_int1 B.b_int (pas_cons (px_var (pv 3)) pas_nil)) (px_var (pv 1))) px_int (ps_asg (PX.pe (px_div (px_int1 B.b_int (pas_cons (px_var (pv 3)) pas_nil)) (px_var (pv 1)))) (pg_sub (pv 0) (PX.pe px_int) set_list)))
  (pssx_one (psx_ret (px_mod (px_int1 B.b_int (pas_cons (px_var (pv 3)) pas_nil)) (px_var (pv 1))))))) pssx_nil)
  (pssx_cons (psx_setI (k := 0) (px_mod (px_int1 B.b_int (pas_cons (px_add (px_ix (px_var (pv 0)) px_int) px_int) pas_nil)) px_int) px_int (ps_asg (PX.pe (px_mod (px_int1 B.b_int (pas_cons (px_add (px_ix (px_var (pv 0)) px_int) px_int) pas_nil)) px_int)) (pg_sub (pv 0) (PX.pe px_int) set_list)))
  (pssx_one (psx_ret (px_mod (px_int1 B.b_int (pas_cons (px_callC c__law_mixed hr tkF (pas_cons (px_ix (px_var (pv 0)) px_int) (pas_cons (px_ix (px_var (pv 0)) px_int) pas_nil))) pas_nil)) (px_var (pv 1))))))))
theorem ok__law_power (B : Blt mg) (Z : Exs P w K mg base cm)  (F : Fun K "_law_power" "_law_power" s__law_power f fd) : FnOk P w K mg base (L2.CX P w) 1 f fd ["_law_base", "_law_times"] (spF ⟨K, cm⟩ 2 F__law_power) :=
  have sc := sc__law_power
  fn_ok F sc (by decide) fun cdv A outer s H E hr =>
  (pssx_cons (psx_set (i := 2) sc.nd px_int)
  (pssx_cons (psx_for [3] hpF rfl (pix_rng1 B.b_range (pas_cons (px_var (pv 1)) pas_nil) (many_cons many_nil)) (pgx_name (i := 3) sc.nd) (pssx_one (psx_set (i := 2) sc.nd (px_mul (px_var (pv 2)) (px_var (pv 0))))))
  (pssx_one (psx_ret (px_var (pv 2))))))
theorem ok__law_gauss (B : Blt mg) (Z : Exs P w K mg base cm) (c__law_power : CF P w K mg base cm "_law_power" 1 ["_law_base", "_law_times"] F__law_power) (F : Fun K "_law_gauss" "_law_gauss" s__law_gauss f fd) : FnOk P w K mg base (L2.CX P w) 2 f fd ["_law_q", "_law_most"] (spF ⟨K, cm⟩ 2 F__law_gauss) :=
  have sc := sc__law_gauss
  fn_ok F sc (by decide) fun cdv A outer s H E hr =>
  (pssx_cons (psx_set (i := 2) sc.nd (px_lst (pas_cons (px_lst (pas_cons px_int pas_nil)) pas_nil)))
  (pssx_cons (psx_for [3, 4, 5, 6] hpF rfl (pix_rng2 B.b_range (pas_cons px_int (pas_cons (px_add (px_var (pv 1)) px_int) pas_nil)) (many_cons (many_cons many_nil))) (pgx_name (i := 3) sc.nd) (pssx_cons (psx_set (i := 4) sc.nd (px_ix (px_var (pv 2)) (px_sub (px_var (pv 3)) px_int)))
  (pssx_cons (psx_set (i := 5) sc.nd (px_lst (pas_cons px_int pas_nil)))
  (pssx_cons (psx_for [6] hpF rfl (pix_rng2 B.b_range (pas_cons px_int (pas_cons (px_var (pv 3)) pas_nil)) (many_cons (many_cons many_nil))) (pgx_name (i := 6) sc.nd) (pssx_one (psx_expr (px_app (k := 5) (pv 5) (px_add (px_ix (px_var (pv 4)) (px_sub (px_var (pv 6)) px_int)) (px_mul (px_callC c__law_power hr tkF (pas_cons (px_var (pv 0)) (pas_cons (px_var (pv 6)) pas_nil))) (px_ix (px_var (pv 4)) (px_var (pv 6))))) (pe_bm PySem.F.plainAttrs_list PySem.F.slot_list_append PySem.F.type_list_append mt_append (pv 5) (pa_cons (PX.pe (px_add (px_ix (px_var (pv 4)) (px_sub (px_var (pv 6)) px_int)) (px_mul (px_callC c__law_power hr tkF (pas_cons (px_var (pv 0)) (pas_cons (px_var (pv 6)) pas_nil))) (px_ix (px_var (pv 4)) (px_var (pv 6)))))) pa_nil))))))
  (pssx_one (psx_expr (px_app (k := 2) (pv 2) (px_add (px_var (pv 5)) (px_lst (pas_cons px_int pas_nil))) (pe_bm PySem.F.plainAttrs_list PySem.F.slot_list_append PySem.F.type_list_append mt_append (pv 2) (pa_cons (PX.pe (px_add (px_var (pv 5)) (px_lst (pas_cons px_int pas_nil)))) pa_nil)))))))))
  (pssx_one (psx_ret (px_var (pv 2))))))
theorem ok_is_whole (B : Blt mg) (Z : Exs P w K mg base cm)  {dvs : List V} (F : FunD K "is_whole" "is_whole" (defArgs s_is_whole) (defBody s_is_whole) (defScope s_is_whole) dvs [] f fd) : FnOk P w K mg base (L2.CX P w) 1 f fd ["thing", "low", "high"] (spF ⟨K, cm⟩ 3 F_is_whole) :=
  have sc := sc_is_whole
  fn_okD F sc (by decide) fun cdv A outer s H E hr =>
  (pssx_cons (psx_if (PBW.pb (pb_or (pb_not (pb_x (px_isi sub0_ok B.b_isinstance (pas_cons (px_var (pv 0)) (pas_cons (px_ty B.b_int) pas_nil))))) (pb_or1 (pb_x (px_isi sub0_ok B.b_isinstance (pas_cons (px_var (pv 0)) (pas_cons (px_ty B.b_bool) pas_nil))))))) (pssx_one (psx_ret px_bl)) pssx_nil)
  (pssx_cons (psx_if (PBW.pb (pb_and (pb_isnot (px_var (pv 1)) px_non) (pb_and1 (pb_lt (px_var (pv 0)) (px_var (pv 1)))))) (pssx_one (psx_ret px_bl)) pssx_nil)
  (pssx_one (psx_ret (px_or (px_is (px_var (pv 2)) px_non) (px_one (px_le (px_var (pv 0)) (px_var (pv 2)))))))))
theorem ok_check_sizes (B : Blt mg) (Z : Exs P w K mg base cm) (c_is_whole_3 : CF P w K mg base cm "is_whole" 1 ["thing", "low", "high"] F_is_whole) (F : Fun K "check_sizes" "check_sizes" s_check_sizes f fd) : FnOk P w K mg base (L2.CX P w) 3 f fd ["prime", "degree", "columns"] (spF ⟨K, cm⟩ 3 F_check_sizes) :=
  have sc := sc_check_sizes
  fn_ok F sc (by decide) fun cdv A outer s H E hr =>
  (pssx_cons (psx_if (pb_not (pb_x (px_callC c_is_whole_3 hr tkF (pas_cons (px_var (pv 0)) (pas_cons px_int (pas_cons px_int pas_nil)))))) (pssx_one (psx_raise Z.e_BadSizes hr rfl tkF (pas_cons px_str pas_nil))) pssx_nil)
  (pssx_cons (psx_if (pb_not (pb_x (px_callC c_is_whole_3 hr tkF (pas_cons (px_var (pv 1)) (pas_cons px_int (pas_cons (px_glob B.g_MOST_SIDE rfl) pas_nil)))))) (pssx_one (psx_raise Z.e_BadSizes hr rfl tkF (pas_cons px_str pas_nil))) pssx_nil)
  (pssx_one (psx_if (pb_not (pb_x (px_callC c_is_whole_3 hr tkF (pas_cons (px_var (pv 2)) (pas_cons px_int (pas_cons (px_glob B.g_MOST_SIDE rfl) pas_nil)))))) (pssx_one (psx_raise Z.e_BadSizes hr rfl tkF (pas_cons px_str pas_nil))) pssx_nil))))
theorem ok_power_of (B : Blt mg) (Z : Exs P w K mg base cm)  (F : Fun K "power_of" "power_of" s_power_of f fd) : FnOk P w K mg base (L2.CX P w) 1 f fd ["base", "exponent"] (spF ⟨K, cm⟩ 2 F_power_of) :=
  have sc := sc_power_of
  fn_ok F sc (by decide) fun cdv A outer s H E hr =>
  (pssx_cons (psx_set (i := 2) sc.nd px_int)
  (pssx_cons (psx_for [3] hpF rfl (pix_rng1 B.b_range (pas_cons (px_var (pv 1)) pas_nil) (many_cons many_nil)) (pgx_name (i := 3) sc.nd) (pssx_one (psx_set (i := 2) sc.nd (px_mul (px_var (pv 2)) (px_var (pv 0))))))
  (pssx_one (psx_ret (px_var (pv 2))))))
theorem ok_space_count (B : Blt mg) (Z : Exs P w K mg base cm) (c_power_of : CF P w K mg base cm "power_of" 1 ["base", "exponent"] F_power_of) (F : Fun K "space_count" "space_count" s_space_count f fd) : FnOk P w K mg base (L2.CX P w) 2 f fd ["prime", "whole", "part"] (spF ⟨K, cm⟩ 3 F_space_count) :=
  have sc := sc_space_count
  fn_ok F sc (by decide) fun cdv A outer s H E hr =>
  (pssx_cons (psx_if (PBW.pb (pb_or (pb_lt (px_var (pv 2)) px_int) (pb_or1 (pb_gt (px_var (pv 2)) (px_var (pv 1)))))) (pssx_one (psx_ret px_int)) pssx_nil)
  (pssx_cons (psx_set (i := 3) sc.nd px_int)
  (pssx_cons (psx_set (i := 4) sc.nd px_int)
  (pssx_cons (psx_for [5] hpF rfl (pix_rng1 B.b_range (pas_cons (px_var (pv 2)) pas_nil) (many_cons many_nil)) (pgx_name (i := 5) sc.nd) (pssx_cons (psx_set (i := 3) sc.nd (px_mul (px_var (pv 3)) (px_sub (px_callC c_power_of hr tkF (pas_cons (px_var (pv 0)) (pas_cons (px_sub (px_var (pv 1)) (px_var (pv 5))) pas_nil))) px_int)))
  (pssx_one (psx_set (i := 4) sc.nd (px_mul (px_var (pv 4)) (px_sub (px_callC c_power_of hr tkF (pas_cons (px_var (pv 0)) (pas_cons (px_add (px_var (pv 5)) px_int) pas_nil))) px_int))))))
  (pssx_one (psx_ret (px_div (px_var (pv 3)) (px_var (pv 4)))))))))
theorem ok_met_counts (B : Blt mg) (Z : Exs P w K mg base cm) (c_check_sizes : CF P w K mg base cm "check_sizes" 3 ["prime", "degree", "columns"] F_check_sizes) (c_power_of : CF P w K mg base cm "power_of" 1 ["base", "exponent"] F_power_of) (c_space_count : CF P w K mg base cm "space_count" 2 ["prime", "whole", "part"] F_space_count) (c_is_whole_3 : CF P w K mg base cm "is_whole" 1 ["thing", "low", "high"] F_is_whole) (F : Fun K "met_counts" "met_counts" s_met_counts f fd) : FnOk P w K mg base (L2.CX P w) 4 f fd ["prime", "degree", "columns", "distance"] (spF ⟨K, cm⟩ 4 F_met_counts) :=
  have sc := sc_met_counts
  fn_ok F sc (by decide) fun cdv A outer s H E hr =>
  (pssx_cons (psx_expr (px_callC c_check_sizes hr tkF (pas_cons (px_var (pv 0)) (pas_cons (px_var (pv 1)) (pas_cons (px_var (pv 2)) pas_nil)))))
  (pssx_cons (psx_if (pb_gt (px_var (pv 2)) (px_var (pv 1))) (pssx_one (psx_raise Z.e_BadSizes hr rfl tkF (pas_cons px_str pas_nil))) pssx_nil)
  (pssx_cons (psx_if (pb_not (pb_x (px_callC c_is_whole_3 hr tkF (pas_cons (px_var (pv 3)) (pas_cons px_int (pas_cons (px_add (px_var (pv 2)) px_int) pas_nil)))))) (pssx_one (psx_raise0 Z.e_BadDistance hr rfl tkF)) pssx_nil)
  (pssx_cons (psx_set (i := 4) sc.nd (px_lst (pas_cons px_int pas_nil)))
  (pssx_cons (psx_for [5, 6, 7, 8, 9, 10] hpF rfl (pix_rng2 B.b_range (pas_cons px_int (pas_cons (px_add (px_var (pv 2)) px_int) pas_nil)) (many_cons (many_cons many_nil))) (pgx_name (i := 5) sc.nd) (pssx_cons (psx_set (i := 6) sc.nd px_int)
  (pssx_cons (psx_set (i := 7) sc.nd px_int)
  (pssx_cons (psx_for [8, 9, 10] hpF rfl (pix_rng1 B.b_range (pas_cons (px_add (px_sub (px_var (pv 5)) (px_var (pv 3))) px_int) pas_nil) (many_cons many_nil)) (pgx_name (i := 8) sc.nd) (pssx_cons (psx_set (i := 9) sc.nd (px_callC c_power_of hr tkF (pas_cons (px_var (pv 0)) (pas_cons (px_div (px_mul (px_var (pv 8)) (px_sub (px_var (pv 8)) px_int)) px_int) pas_nil))))
  (pssx_cons (psx_set (i := 10) sc.nd (px_sub (px_callC c_power_of hr tkF (pas_cons (px_var (pv 0)) (pas_cons (px_mul (px_var (pv 1)) (px_sub (px_add (px_sub (px_var (pv 5)) (px_var (pv 3))) px_int) (px_var (pv 8)))) pas_nil))) px_int))
  (pssx_cons (psx_set (i := 6) sc.nd (px_add (px_var (pv 6)) (px_mul (px_mul (px_mul (px_var (pv 7)) (px_var (pv 9))) (px_callC c_space_count hr tkF (pas_cons (px_var (pv 0)) (pas_cons (px_var (pv 5)) (pas_cons (px_var (pv 8)) pas_nil))))) (px_var (pv 10)))))
  (pssx_one (psx_set (i := 7) sc.nd (px_neg (px_var (pv 7)))))))))
  (pssx_one (psx_expr (px_app (k := 4) (pv 4) (px_mul (px_callC c_space_count hr tkF (pas_cons (px_var (pv 0)) (pas_cons (px_var (pv 2)) (pas_cons (px_var (pv 5)) pas_nil)))) (px_var (pv 6))) (pe_bm PySem.F.plainAttrs_list PySem.F.slot_list_append PySem.F.type_list_append mt_append (pv 4) (pa_cons (PX.pe (px_mul (px_callC c_space_count hr tkF (pas_cons (px_var (pv 0)) (pas_cons (px_var (pv 2)) (pas_cons (px_var (pv 5)) pas_nil)))) (px_var (pv 6)))) pa_nil)))))))))
  (pssx_one (psx_ret (px_tuple B.b_tuple (pas_cons (px_var (pv 4)) pas_nil)))))))))
theorem ok__law_met_told (B : Blt mg) (Z : Exs P w K mg base cm) (c_met_counts : CF P w K mg base cm "met_counts" 4 ["prime", "degree", "columns", "distance"] F_met_counts) (F : Fun K "_law_met_told" "_law_met_told" s__law_met_told f fd) : FnOk P w K mg base (L2.CX P w) 5 f fd ["_law_prime", "_law_degree", "_law_columns", "_law_distance"] (spF ⟨K, cm⟩ 4 F__law_met_told) :=
  have sc := sc__law_met_told
  fn_ok F sc (by decide) fun cdv A outer s H E hr =>
  (pssx_cons (psx_try Z.S tkF (fun W1 pn1 xe1 t1 p1 => (pssx_one (psx_set (i := 4) sc.nd (px_callC c_met_counts hr t1 (pas_cons (px_var (pv 0)) (pas_cons (px_var (pv 1)) (pas_cons (px_var (pv 2)) (pas_cons (px_var (pv 3)) pas_nil)))))))) (.consN sc.nd rfl rfl rfl ⟨rfl, by decide, .inl Z.m_BadSizes⟩ (fun _ _ _ _ _ hz hf => (pssx_one (psx_ret (px_tup (pas_cons px_str (pas_cons (px_xf Z.t_0 hz hf (pv 5)) pas_nil)))))) (.cons rfl ⟨rfl, by decide, .inl Z.m_BadDistance⟩ (fun _ _ _ _ _ hz hf => (pssx_one (psx_ret (px_tup (pas_cons px_str (pas_cons px_str pas_nil)))))) .nil)))
  (pssx_one (psx_ret (px_tup (pas_cons px_str (pas_cons (px_var (pv 4)) pas_nil))))))
theorem ok__law_whole (B : Blt mg) (Z : Exs P w K mg base cm)  (F : Fun K "_law_whole" "_law_whole" s__law_whole f fd) : FnOk P w K mg base (L2.CX P w) 1 f fd ["_law_thing"] (spF ⟨K, cm⟩ 1 F__law_whole) :=
  have sc := sc__law_whole
  fn_ok F sc (by decide) fun cdv A outer s H E hr =>
  (pssx_one (psx_ret (px_and (px_isi sub0_ok B.b_isinstance (pas_cons (px_var (pv 0)) (pas_cons (px_ty B.b_int) pas_nil))) (px_one (px_not (px_isi sub0_ok B.b_isinstance (pas_cons (px_var (pv 0)) (pas_cons (px_ty B.b_bool) pas_nil))))))))
theorem ok__law_shares_hold (B : Blt mg) (Z : Exs P w K mg base cm) (c__law_whole : CF P w K mg base cm "_law_whole" 1 ["_law_thing"] F__law_whole) (F : Fun K "_law_shares_hold" "_law_shares_hold" s__law_shares_hold f fd) : FnOk P w K mg base (L2.CX P w) 2 f fd ["_law_n", "_law_counts", "_law_sums", "_law_rows"] (spF ⟨K, cm⟩ 4 F__law_shares_hold) :=
  have sc := sc__law_shares_hold
  fn_ok F sc (by decide) fun cdv A outer s H E hr =>
  (pssx_cons (psx_if (PBW.pb (pb_or (pb_not (pb_x (px_isi sub0_ok B.b_isinstance (pas_cons (px_var (pv 1)) (pas_cons (px_ty B.b_tuple) pas_nil))))) (pb_or1 (pb_ne hr (px_len B.b_len (pas_cons (px_var (pv 1)) pas_nil)) (px_add (px_var (pv 0)) px_int))))) (pssx_one (psx_ret px_bl)) pssx_nil)
  (pssx_cons (psx_set (i := 4) sc.nd (px_lst pas_nil))
  (pssx_cons (psx_for [5] hpF rfl (pix_rng1 B.b_range (pas_cons (px_add (px_var (pv 0)) px_int) pas_nil) (many_cons many_nil)) (pgx_name (i := 5) sc.nd) (pssx_cons (psx_if (PBW.pb (pb_or (pb_not (pb_x (px_callC c__law_whole hr tkF (pas_cons (px_ix (px_var (pv 1)) (px_var (pv 5))) pas_nil)))) (pb_or1 (pb_ne hr (px_mod (px_int1 B.b_int (pas_cons (px_ix (px_var (pv 1)) (px_var (pv 5))) pas_nil)) (px_ix (px_ix (px_var (pv 3)) (px_var (pv 0))) (px_var (pv 5)))) px_int)))) (pssx_one (psx_ret px_bl)) pssx_nil)
  (pssx_one (psx_expr (px_app (k := 4) (pv 4) (px_div (px_ix (px_var (pv 1)) (px_var (pv 5))) (px_ix (px_ix (px_var (pv 3)) (px_var (pv 0))) (px_var (pv 5)))) (pe_bm PySem.F.plainAttrs_list PySem.F.slot_list_append PySem.F.type_list_append mt_append (pv 4) (pa_cons (PX.pe (px_div (px_ix (px_var (pv 1)) (px_var (pv 5))) (px_ix (px_ix (px_var (pv 3)) (px_var (pv 0))) (px_var (pv 5))))) pa_nil)))))))
  (pssx_one (psx_ret (px_eq hr (px_lc rfl sc.nd (pix_rng1 B.b_range (pas_cons (px_add (px_var (pv 0)) px_int) pas_nil) (many_cons many_nil)) (blkOk_by (own := [("_law_s", 6)]) (by first | (show blkC N__law_shares_hold (defScope s__law_shares_hold) _ _ = true; decide +kernel) | rfl)) (fun _ _ _ _ _ => (pgx_name (i := 6) sc.nd)) (fun _ _ _ _ _ => pbs_nil) (fun _ _ _ _ _ => (px_sumA rfl B.b_sum (pas_cons (px_lc rfl sc.nd (pix_rng1 B.b_range (pas_cons (px_add (px_var (pv 6)) px_int) pas_nil) (many_cons many_nil)) (blkOk_by (own := [("_law_r", 7)]) (by first | (show blkC N__law_shares_hold (defScope s__law_shares_hold) _ _ = true; decide +kernel) | rfl)) (fun _ _ _ _ _ => (pgx_name (i := 7) sc.nd)) (fun _ _ _ _ _ => pbs_nil) (fun _ _ _ _ _ => (px_mul (px_ix (px_var (pv 4)) (px_var (pv 7))) (px_ix (px_ix (px_var (pv 3)) (px_var (pv 6))) (px_var (pv 7)))))) pas_nil)))) (px_var (pv 2))))))))
theorem ok__law_at (B : Blt mg) (Z : Exs P w K mg base cm)  (F : Fun K "_law_at" "_law_at" s__law_at f fd) : FnOk P w K mg base (L2.CX P w) 1 f fd ["_law_rows", "_law_a", "_law_b"] (spF ⟨K, cm⟩ 3 F__law_at) :=
  have sc := sc__law_at
  fn_ok F sc (by decide) fun cdv A outer s H E hr =>
  (pssx_cons (psx_if (PBW.pb (pb_or (pb_lt (px_var (pv 2)) px_int) (pb_or1 (pb_gt (px_var (pv 2)) (px_var (pv 1)))))) (pssx_one (psx_ret px_int)) pssx_nil)
  (pssx_one (psx_ret (px_ix (px_ix (px_var (pv 0)) (px_var (pv 1))) (px_var (pv 2))))))
theorem ok__law_tables (B : Blt mg) (Z : Exs P w K mg base cm) (c__law_at : CF P w K mg base cm "_law_at" 1 ["_law_rows", "_law_a", "_law_b"] F__law_at) (c__law_power : CF P w K mg base cm "_law_power" 1 ["_law_base", "_law_times"] F__law_power) (F : Fun K "_law_tables" "_law_tables" s__law_tables f fd) : FnOk P w K mg base (L2.CX P w) 2 f fd ["_law_q", "_law_tall", "_law_wide", "_law_ranks", "_law_rows"] (spF ⟨K, cm⟩ 5 F__law_tables) :=
  have sc := sc__law_tables
  fn_ok F sc (by decide) fun cdv A outer s H E hr =>
  (pssx_cons (psx_set (i := 5) sc.nd (px_lst pas_nil))
  (pssx_cons (psx_for [6, 7, 8] hpF rfl (pix_rng1 B.b_range (pas_cons (px_add (px_var (pv 3)) px_int) pas_nil) (many_cons many_nil)) (pgx_name (i := 6) sc.nd) (pssx_cons (psx_set (i := 7) sc.nd (px_callC c__law_at hr tkF (pas_cons (px_var (pv 4)) (pas_cons (px_var (pv 2)) (pas_cons (px_var (pv 6)) pas_nil)))))
  (pssx_cons (psx_for [8] hpF rfl (pix_rng1 B.b_range (pas_cons (px_var (pv 6)) pas_nil) (many_cons many_nil)) (pgx_name (i := 8) sc.nd) (pssx_one (psx_set (i := 7) sc.nd (px_if (pb_lt (px_var (pv 8)) (px_var (pv 1))) (px_mul (px_var (pv 7)) (px_sub (px_callC c__law_power hr tkF (pas_cons (px_var (pv 0)) (pas_cons (px_var (pv 1)) pas_nil))) (px_callC c__law_power hr tkF (pas_cons (px_var (pv 0)) (pas_cons (px_var (pv 8)) pas_nil))))) px_int))))
  (pssx_one (psx_expr (px_app (k := 5) (pv 5) (px_var (pv 7)) (pe_bm PySem.F.plainAttrs_list PySem.F.slot_list_append PySem.F.type_list_append mt_append (pv 5) (pa_cons (PX.pe (px_var (pv 7))) pa_nil))))))))
  (pssx_one (psx_ret (px_var (pv 5))))))
theorem ok_table_count (B : Blt mg) (Z : Exs P w K mg base cm) (c_space_count : CF P w K mg base cm "space_count" 2 ["prime", "whole", "part"] F_space_count) (c_power_of : CF P w K mg base cm "power_of" 1 ["base", "exponent"] F_power_of) (F : Fun K "table_count" "table_count" s_table_count f fd) : FnOk P w K mg base (L2.CX P w) 3 f fd ["prime", "tall", "wide", "rank"] (spF ⟨K, cm⟩ 4 F_table_count) :=
  have sc := sc_table_count
  fn_ok F sc (by decide) fun cdv A outer s H E hr =>
  (pssx_cons (psx_set (i := 4) sc.nd (px_callC c_space_count hr tkF (pas_cons (px_var (pv 0)) (pas_cons (px_var (pv 2)) (pas_cons (px_var (pv 3)) pas_nil)))))
  (pssx_cons (psx_if (PBW.pb (pb_or (pb_eq hr (px_var (pv 4)) px_int) (pb_or1 (pb_gt (px_var (pv 3)) (px_var (pv 1)))))) (pssx_one (psx_ret px_int)) pssx_nil)
  (pssx_cons (psx_for [5] hpF rfl (pix_rng1 B.b_range (pas_cons (px_var (pv 3)) pas_nil) (many_cons many_nil)) (pgx_name (i := 5) sc.nd) (pssx_one (psx_set (i := 4) sc.nd (px_mul (px_var (pv 4)) (px_sub (px_callC c_power_of hr tkF (pas_cons (px_var (pv 0)) (pas_cons (px_var (pv 1)) pas_nil))) (px_callC c_power_of hr tkF (pas_cons (px_var (pv 0)) (pas_cons (px_var (pv 5)) pas_nil))))))))
  (pssx_one (psx_ret (px_var (pv 4)))))))
theorem ok_words_of_rank (B : Blt mg) (Z : Exs P w K mg base cm) (c_check_sizes : CF P w K mg base cm "check_sizes" 3 ["prime", "degree", "columns"] F_check_sizes) (c_table_count : CF P w K mg base cm "table_count" 3 ["prime", "tall", "wide", "rank"] F_table_count) (c_is_whole_3 : CF P w K mg base cm "is_whole" 1 ["thing", "low", "high"] F_is_whole) (F : Fun K "words_of_rank" "words_of_rank" s_words_of_rank f fd) : FnOk P w K mg base (L2.CX P w) 4 f fd ["prime", "degree", "columns", "rank"] (spF ⟨K, cm⟩ 4 F_words_of_rank) :=
  have sc := sc_words_of_rank
  fn_ok F sc (by decide) fun cdv A outer s H E hr =>
  (pssx_cons (psx_expr (px_callC c_check_sizes hr tkF (pas_cons (px_var (pv 0)) (pas_cons (px_var (pv 1)) (pas_cons (px_var (pv 2)) pas_nil)))))
  (pssx_cons (psx_if (pb_not (pb_x (px_callC c_is_whole_3 hr tkF (pas_cons (px_var (pv 3)) (pas_cons px_int (pas_cons (px_var (pv 2)) pas_nil)))))) (pssx_one (psx_raise Z.e_BadSizes hr rfl tkF (pas_cons px_str pas_nil))) pssx_nil)
  (pssx_one (psx_ret (px_callC c_table_count hr tkF (pas_cons (px_var (pv 0)) (pas_cons (px_var (pv 1)) (pas_cons (px_var (pv 2)) (pas_cons (px_var (pv 3)) pas_nil)))))))))
theorem ok__law_words_told (B : Blt mg) (Z : Exs P w K mg base cm) (c_words_of_rank : CF P w K mg base cm "words_of_rank" 4 ["prime", "degree", "columns", "rank"] F_words_of_rank) (F : Fun K "_law_words_told" "_law_words_told" s__law_words_told f fd) : FnOk P w K mg base (L2.CX P w) 5 f fd ["_law_prime", "_law_degree", "_law_columns", "_law_rank"] (spF ⟨K, cm⟩ 4 F__law_words_told) :=
  have sc := sc__law_words_told
  fn_ok F sc (by decide) fun cdv A outer s H E hr =>
  (pssx_cons (psx_try Z.S tkF (fun W1 pn1 xe1 t1 p1 => (pssx_one (psx_set (i := 4) sc.nd (px_callC c_words_of_rank hr t1 (pas_cons (px_var (pv 0)) (pas_cons (px_var (pv 1)) (pas_cons (px_var (pv 2)) (pas_cons (px_var (pv 3)) pas_nil)))))))) (.consN sc.nd rfl rfl rfl ⟨rfl, by decide, .inl Z.m_BadSizes⟩ (fun _ _ _ _ _ hz hf => (pssx_one (psx_ret (px_tup (pas_cons px_str (pas_cons (px_xf Z.t_0 hz hf (pv 5)) pas_nil)))))) .nil))
  (pssx_one (psx_ret (px_tup (pas_cons px_str (pas_cons (px_var (pv 4)) pas_nil))))))
theorem ok__law_words_hold (B : Blt mg) (Z : Exs P w K mg base cm) (c__law_words_told : CF P w K mg base cm "_law_words_told" 5 ["_law_prime", "_law_degree", "_law_columns", "_law_rank"] F__law_words_told) (c__law_shares_hold : CF P w K mg base cm "_law_shares_hold" 2 ["_law_n", "_law_counts", "_law_sums", "_law_rows"] F__law_shares_hold) (c__law_power : CF P w K mg base cm "_law_power" 1 ["_law_base", "_law_times"] F__law_power) (F : Fun K "_law_words_hold" "_law_words_hold" s__law_words_hold f fd) : FnOk P w K mg base (L2.CX P w) 6 f fd ["_law_q", "_law_m", "_law_n", "_law_rows"] (spF ⟨K, cm⟩ 4 F__law_words_hold) :=
  have sc := sc__law_words_hold
  fn_ok F sc (by decide) fun cdv A outer s H E hr =>
  (pssx_cons (psx_set (i := 4) sc.nd (px_lst pas_nil))
  (pssx_cons (psx_for [5, 6, 7] hpF rfl (pix_rng1 B.b_range (pas_cons (px_add (px_var (pv 2)) px_int) pas_nil) (many_cons many_nil)) (pgx_name (i := 5) sc.nd) (pssx_cons (psx_set (i := 6) sc.nd (px_callC c__law_words_told hr tkF (pas_cons (px_var (pv 0)) (pas_cons (px_var (pv 1)) (pas_cons (px_var (pv 2)) (pas_cons (px_var (pv 5)) pas_nil))))))
  (pssx_cons (psx_if (pb_ne hr (px_ix (px_var (pv 6)) px_int) px_str) (pssx_one (psx_ret px_bl)) pssx_nil)
  (pssx_cons (psx_expr (px_app (k := 4) (pv 4) (px_ix (px_var (pv 6)) px_int) (pe_bm PySem.F.plainAttrs_list PySem.F.slot_list_append PySem.F.type_list_append mt_append (pv 4) (pa_cons (PX.pe (px_ix (px_var (pv 6)) px_int)) pa_nil))))
  (pssx_cons (psx_set (i := 7) sc.nd (px_if (pb_le (px_var (pv 5)) (px_var (pv 1))) (px_callC c__law_words_told hr tkF (pas_cons (px_var (pv 0)) (pas_cons (px_var (pv 2)) (pas_cons (px_var (pv 1)) (pas_cons (px_var (pv 5)) pas_nil))))) (px_tup (pas_cons px_str (pas_cons px_int pas_nil)))))
  (pssx_one (psx_if (pb_ne hr (px_var (pv 7)) (px_var (pv 6))) (pssx_one (psx_ret px_bl)) pssx_nil)))))))
  (pssx_one (psx_ret (px_callC c__law_shares_hold hr tkF (pas_cons (px_var (pv 2)) (pas_cons (px_tuple B.b_tuple (pas_cons (px_var (pv 4)) pas_nil)) (pas_cons (px_lc rfl sc.nd (pix_rng1 B.b_range (pas_cons (px_add (px_var (pv 2)) px_int) pas_nil) (many_cons many_nil)) (blkOk_by (own := [("_law_s", 8)]) (by first | (show blkC N__law_words_hold (defScope s__law_words_hold) _ _ = true; decide +kernel) | rfl)) (fun _ _ _ _ _ => (pgx_name (i := 8) sc.nd)) (fun _ _ _ _ _ => pbs_nil) (fun _ _ _ _ _ => (px_callC c__law_power hr takes0 (pas_cons (px_var (pv 0)) (pas_cons (px_mul (px_var (pv 1)) (px_var (pv 8))) pas_nil))))) (pas_cons (px_var (pv 3)) pas_nil)))))))))
theorem ok__law_pick (B : Blt mg) (Z : Exs P w K mg base cm) (c__law_draw : CIO P w K mg base cm "_law_draw" 2 ["_law_hand_here", "_law_many"] F__law_draw) (F : Fun K "_law_pick" "_law_pick" s__law_pick f fd) : FnOk P w K mg base (L2.CX P w) 3 f fd ["_law_hand_here", "_law_things"] (spIO ⟨K, cm⟩ 2 F__law_pick) :=
  have sc := sc__law_pick
  fnIO_ok F sc (by decide) fun cdv A outer s H E a hr =>
  (pssx_one (psx_ret (px_ix (px_var (pv 1)) (px_callI 0 c__law_draw hr tkF (pv 0) (pas_cons (px_len B.b_len (pas_cons (px_var (pv 1)) pas_nil)) pas_nil)))))
theorem ok__law_odd (B : Blt mg) (Z : Exs P w K mg base cm) (c__law_draw : CIO P w K mg base cm "_law_draw" 2 ["_law_hand_here", "_law_many"] F__law_draw) (F : Fun K "_law_odd" "_law_odd" s__law_odd f fd) : FnOk P w K mg base (L2.CX P w) 3 f fd ["_law_hand_here", "_law_low", "_law_high"] (spIO ⟨K, cm⟩ 3 F__law_odd) :=
  have sc := sc__law_odd
  fnIO_ok F sc (by decide) fun cdv A outer s H E a hr =>
  (pssx_cons (psx_set (i := 3) sc.nd (px_callI 0 c__law_draw hr tkF (pv 0) (pas_cons (px_pow px_int px_int) pas_nil)))
  (pssx_cons (psx_set (i := 4) sc.nd (px_callI 0 c__law_draw hr tkF (pv 0) (pas_cons px_int pas_nil)))
  (pssx_cons (psx_if (pb_eq hr (px_var (pv 4)) px_int) (pssx_one (psx_ret (px_sub (px_var (pv 1)) px_int))) pssx_nil)
  (pssx_cons (psx_if (pb_eq hr (px_var (pv 4)) px_int) (pssx_one (psx_ret (px_add (px_var (pv 2)) px_int))) pssx_nil)
  (pssx_cons (psx_if (pb_eq hr (px_var (pv 4)) px_int) (pssx_one (psx_ret (px_sub (px_sub (px_var (pv 1)) px_int) (px_var (pv 3))))) pssx_nil)
  (pssx_cons (psx_if (pb_eq hr (px_var (pv 4)) px_int) (pssx_one (psx_ret (px_add (px_add (px_var (pv 2)) px_int) (px_var (pv 3))))) pssx_nil)
  (pssx_cons (psx_if (pb_eq hr (px_var (pv 4)) px_int) (pssx_one (psx_ret px_bl)) pssx_nil)
  (pssx_cons (psx_if (pb_eq hr (px_var (pv 4)) px_int) (pssx_one (psx_ret px_non)) pssx_nil)
  (pssx_cons (psx_if (pb_eq hr (px_var (pv 4)) px_int) (pssx_one (psx_ret (px_str1 B.b_str (pas_cons (px_var (pv 1)) pas_nil)))) pssx_nil)
  (pssx_one (psx_ret (px_lst (pas_cons (px_var (pv 1)) pas_nil)))))))))))))
theorem ok__law_first_odd (B : Blt mg) (Z : Exs P w K mg base cm)  (F : Fun K "_law_first_odd" "_law_first_odd" s__law_first_odd f fd) : FnOk P w K mg base (L2.CX P w) 1 f fd ["_law_names", "_law_flags"] (spF ⟨K, cm⟩ 2 F__law_first_odd) :=
  have sc := sc__law_first_odd
  fn_ok F sc (by decide) fun cdv A outer s H E hr =>
  (pssx_cons (psx_for [2, 3] hpF rfl (pix_enum B.b_enumerate (pas_cons (px_var (pv 0)) pas_nil)) (pgx_tup rfl (pgsx_cons (pgx_name (i := 2) sc.nd) (pgsx_cons (pgx_name (i := 3) sc.nd) pgsx_nil))) (pssx_one (psx_if (pb_eq hr (px_band (px_shr (px_var (pv 1)) (px_var (pv 2))) px_int) px_int) (pssx_one (psx_ret (px_var (pv 3)))) pssx_nil)))
  (pssx_one (psx_ret px_str)))
theorem ok__law_refusals_hold (B : Blt mg) (Z : Exs P w K mg base cm) (c__law_draw : CIO P w K mg base cm "_law_draw" 2 ["_law_hand_here", "_law_many"] F__law_draw) (c__law_pick : CIO P w K mg base cm "_law_pick" 3 ["_law_hand_here", "_law_things"] F__law_pick) (c__law_odd : CIO P w K mg base cm "_law_odd" 3 ["_law_hand_here", "_law_low", "_law_high"] F__law_odd) (c__law_words_told : CF P w K mg base cm "_law_words_told" 5 ["_law_prime", "_law_degree", "_law_columns", "_law_rank"] F__law_words_told) (c__law_first_odd : CF P w K mg base cm "_law_first_odd" 1 ["_law_names", "_law_flags"] F__law_first_odd) (c__law_met_told : CF P w K mg base cm "_law_met_told" 5 ["_law_prime", "_law_degree", "_law_columns", "_law_distance"] F__law_met_told) (F : Fun K "_law_refusals_hold" "_law_refusals_hold" s__law_refusals_hold f fd) : FnOk P w K mg base (L2.CX P w) 6 f fd ["_law_hand_here"] (spIO ⟨K, cm⟩ 1 F__law_refusals_hold) :=
  have sc := sc__law_refusals_hold
  fnIO_ok F sc (by decide) fun cdv A outer s H E a hr =>
  (pssx_cons (psx_set (i := 1) sc.nd (px_add px_int (px_callI 0 c__law_draw hr tkF (pv 0) (pas_cons px_int pas_nil))))
  (pssx_cons (psx_set (i := 2) sc.nd (px_add (px_var (pv 1)) (px_callI 0 c__law_draw hr tkF (pv 0) (pas_cons (px_sub px_int (px_var (pv 1))) pas_nil))))
  (pssx_cons (psx_set (i := 3) sc.nd (px_lst (pas_cons (px_add px_int (px_callI 0 c__law_draw hr tkF (pv 0) (pas_cons px_int pas_nil))) (pas_cons (px_var (pv 2)) (pas_cons (px_var (pv 1)) (pas_cons (px_callI 0 c__law_pick hr tkF (pv 0) (pas_cons (px_lst (pas_cons px_int (pas_cons (px_var (pv 1)) pas_nil))) pas_nil)) pas_nil))))))
  (pssx_cons (psx_set (i := 4) sc.nd (px_lst (pas_cons (px_callI 0 c__law_odd hr tkF (pv 0) (pas_cons px_int (pas_cons px_int pas_nil))) (pas_cons (px_callI 0 c__law_odd hr tkF (pv 0) (pas_cons px_int (pas_cons px_int pas_nil))) (pas_cons (px_callI 0 c__law_odd hr tkF (pv 0) (pas_cons px_int (pas_cons px_int pas_nil))) (pas_cons (px_callI 0 c__law_odd hr tkF (pv 0) (pas_cons px_int (pas_cons (px_var (pv 1)) pas_nil))) pas_nil))))))
  (pssx_cons (psx_set (i := 5) sc.nd (px_callI 0 c__law_draw hr tkF (pv 0) (pas_cons px_int pas_nil)))
  (pssx_cons (psx_setLc (i := 6) rfl sc.nd (pix_rng1 B.b_range (pas_cons px_int pas_nil) (many_cons many_nil)) (blkOk_by (own := [("_law_k", 9)]) (by first | (show blkC N__law_refusals_hold (defScope s__law_refusals_hold) _ _ = true; decide +kernel) | rfl)) (fun _ _ _ _ _ => (pgx_name (i := 9) sc.nd)) (fun _ _ _ _ _ => pbs_nil) (fun _ _ _ _ _ => (px_if (pb_eq hr (px_band (px_shr (px_var (pv 5)) (px_var (pv 9))) px_int) px_int) (px_ix (px_var (pv 4)) (px_var (pv 9))) (px_ix (px_var (pv 3)) (px_var (pv 9))))))
  (pssx_cons (psx_set (i := 7) sc.nd (px_callC c__law_words_told hr tkF (pas_cons (px_ix (px_var (pv 6)) px_int) (pas_cons (px_ix (px_var (pv 6)) px_int) (pas_cons (px_ix (px_var (pv 6)) px_int) (pas_cons (px_ix (px_var (pv 6)) px_int) pas_nil))))))
  (pssx_cons (psx_set (i := 8) sc.nd (px_callC c__law_first_odd hr tkF (pas_cons (px_lst (pas_cons px_str (pas_cons px_str (pas_cons px_str (pas_cons px_str pas_nil))))) (pas_cons (px_var (pv 5)) pas_nil))))
  (pssx_cons (psx_if (PBW.pb (pb_or (PBW.pb (pb_and (pb_ne hr (px_var (pv 8)) px_str) (pb_and1 (pb_ne hr (px_var (pv 7)) (px_tup (pas_cons px_str (pas_cons (px_var (pv 8)) pas_nil))))))) (pb_or1 (PBW.pb (pb_and (pb_eq hr (px_var (pv 8)) px_str) (pb_and1 (pb_ne hr (px_ix (px_var (pv 7)) px_int) px_str))))))) (pssx_one (psx_ret px_bl)) pssx_nil)
  (pssx_cons (psx_setI (k := 3) (px_callI 0 c__law_pick hr tkF (pv 0) (pas_cons (px_lst (pas_cons px_int (pas_cons (px_add (px_var (pv 1)) px_int) pas_nil))) pas_nil)) px_int (ps_asg (PX.pe (px_callI 0 c__law_pick hr tkF (pv 0) (pas_cons (px_lst (pas_cons px_int (pas_cons (px_add (px_var (pv 1)) px_int) pas_nil))) pas_nil))) (pg_sub (pv 3) (PX.pe px_int) set_list)))
  (pssx_cons (psx_setI (k := 4) (px_callI 0 c__law_odd hr tkF (pv 0) (pas_cons px_int (pas_cons (px_var (pv 2)) pas_nil))) px_int (ps_asg (PX.pe (px_callI 0 c__law_odd hr tkF (pv 0) (pas_cons px_int (pas_cons (px_var (pv 2)) pas_nil)))) (pg_sub (pv 4) (PX.pe px_int) set_list)))
  (pssx_cons (psx_setI (k := 4) (px_callI 0 c__law_odd hr tkF (pv 0) (pas_cons px_int (pas_cons (px_add (px_var (pv 1)) px_int) pas_nil))) px_int (ps_asg (PX.pe (px_callI 0 c__law_odd hr tkF (pv 0) (pas_cons px_int (pas_cons (px_add (px_var (pv 1)) px_int) pas_nil)))) (pg_sub (pv 4) (PX.pe px_int) set_list)))
  (pssx_cons (psx_setLc (i := 6) rfl sc.nd (pix_rng1 B.b_range (pas_cons px_int pas_nil) (many_cons many_nil)) (blkOk_by (own := [("_law_k", 9)]) (by first | (show blkC N__law_refusals_hold (defScope s__law_refusals_hold) _ _ = true; decide +kernel) | rfl)) (fun _ _ _ _ _ => (pgx_name (i := 9) sc.nd)) (fun _ _ _ _ _ => pbs_nil) (fun _ _ _ _ _ => (px_if (pb_eq hr (px_band (px_shr (px_var (pv 5)) (px_var (pv 9))) px_int) px_int) (px_ix (px_var (pv 4)) (px_var (pv 9))) (px_ix (px_var (pv 3)) (px_var (pv 9))))))
  (pssx_cons (psx_set (i := 7) sc.nd (px_callC c__law_met_told hr tkF (pas_cons (px_ix (px_var (pv 6)) px_int) (pas_cons (px_ix (px_var (pv 6)) px_int) (pas_cons (px_ix (px_var (pv 6)) px_int) (pas_cons (px_ix (px_var (pv 6)) px_int) pas_nil))))))
  (pssx_cons (psx_if (pb_eq hr (px_var (pv 8)) px_str) (pssx_one (psx_ret (px_eq hr (px_ix (px_var (pv 7)) px_int) px_str))) pssx_nil)
  (pssx_one (psx_ret (px_eq hr (px_var (pv 7)) (px_if (pb_eq hr (px_var (pv 8)) px_str) (px_tup (pas_cons px_str (pas_cons px_str pas_nil))) (px_tup (pas_cons px_str (pas_cons (px_var (pv 8)) pas_nil))))))))))))))))))))))
theorem ok_law (B : Blt mg) (Z : Exs P w K mg base cm) (c__law_hand : CF P w K mg base cm "_law_hand" 1 ["_law_script"] F__law_hand) (c__law_draw : CIO P w K mg base cm "_law_draw" 2 ["_law_hand_here", "_law_many"] F__law_draw) (c__law_gauss : CF P w K mg base cm "_law_gauss" 2 ["_law_q", "_law_most"] F__law_gauss) (c__law_met_told : CF P w K mg base cm "_law_met_told" 5 ["_law_prime", "_law_degree", "_law_columns", "_law_distance"] F__law_met_told) (c__law_shares_hold : CF P w K mg base cm "_law_shares_hold" 2 ["_law_n", "_law_counts", "_law_sums", "_law_rows"] F__law_shares_hold) (c__law_power : CF P w K mg base cm "_law_power" 1 ["_law_base", "_law_times"] F__law_power) (c__law_tables : CF P w K mg base cm "_law_tables" 2 ["_law_q", "_law_tall", "_law_wide", "_law_ranks", "_law_rows"] F__law_tables) (c__law_words_told : CF P w K mg base cm "_law_words_told" 5 ["_law_prime", "_law_degree", "_law_columns", "_law_rank"] F__law_words_told) (c__law_words_hold : CF P w K mg base cm "_law_words_hold" 6 ["_law_q", "_law_m", "_law_n", "_law_rows"] F__law_words_hold) (c__law_refusals_hold : CIO P w K mg base cm "_law_refusals_hold" 6 ["_law_hand_here"] F__law_refusals_hold) (F : Fun K "law" "law" s_law f fd) : FnOk P w K mg base (L2.CX P w) 7 f fd ["_law_script"] (spF ⟨K, cm⟩ 1 F_law) :=
  have sc := sc_law
  fn_ok F sc (by decide) fun cdv A outer s H E hr =>
  (pssx_cons (psx_set (i := 1) sc.nd (px_callC c__law_hand hr tkF (pas_cons (px_var (pv 0)) pas_nil)))
  (pssx_cons (psx_set (i := 2) sc.nd (px_add px_int (px_callI 1 c__law_draw hr tkF (pv 1) (pas_cons px_int pas_nil))))
  (pssx_cons (psx_set (i := 3) sc.nd (px_add px_int (px_callI 1 c__law_draw hr tkF (pv 1) (pas_cons px_int pas_nil))))
  (pssx_cons (psx_set (i := 4) sc.nd (px_add px_int (px_callI 1 c__law_draw hr tkF (pv 1) (pas_cons (px_var (pv 3)) pas_nil))))
  (pssx_cons (psx_set (i := 5) sc.nd (px_add px_int (px_callI 1 c__law_draw hr tkF (pv 1) (pas_cons (px_add (px_var (pv 4)) px_int) pas_nil))))
  (pssx_cons (psx_set (i := 6) sc.nd (px_callC c__law_gauss hr tkF (pas_cons (px_var (pv 2)) (pas_cons px_int pas_nil))))
  (pssx_cons (psx_set (i := 7) sc.nd (px_callC c__law_met_told hr tkF (pas_cons (px_var (pv 2)) (pas_cons (px_var (pv 3)) (pas_cons (px_var (pv 4)) (pas_cons (px_var (pv 5)) pas_nil))))))
  (pssx_cons (psx_if (pb_ne hr (px_ix (px_var (pv 7)) px_int) px_str) (pssx_one (psx_ret px_bl)) pssx_nil)
  (pssx_cons (psx_set (i := 8) sc.nd (px_ix (px_var (pv 7)) px_int))
  (pssx_cons (psx_if (pb_not (pb_x (px_callC c__law_shares_hold hr tkF (pas_cons (px_var (pv 4)) (pas_cons (px_var (pv 8)) (pas_cons (px_lc rfl sc.nd (pix_rng1 B.b_range (pas_cons (px_add (px_var (pv 4)) px_int) pas_nil) (many_cons many_nil)) (blkOk_by (own := [("_law_s", 10)]) (by first | (show blkC N_law (defScope s_law) _ _ = true; decide +kernel) | rfl)) (fun _ _ _ _ _ => (pgx_name (i := 10) sc.nd)) (fun _ _ _ _ _ => pbs_nil) (fun _ _ _ _ _ => (px_callC c__law_power hr takes0 (pas_cons (px_var (pv 2)) (pas_cons (px_mul (px_var (pv 3)) (px_max2 rfl B.b_max (pas_cons px_int (pas_cons (px_add (px_sub (px_var (pv 10)) (px_var (pv 5))) px_int) pas_nil)))) pas_nil))))) (pas_cons (px_var (pv 6)) pas_nil))))))) (pssx_one (psx_ret px_bl)) pssx_nil)
  (pssx_cons (psx_if (PBW.pb (pb_or (pb_ne hr (px_ix (px_var (pv 8)) px_int) px_int) (pb_or1 (pb_ne hr (px_list B.b_list (pas_cons (px_slice (px_var (pv 8)) (pp_some px_int) (pp_some (px_var (pv 5)))) pas_nil)) (px_mul (px_lst (pas_cons px_int pas_nil)) (px_len B.b_len (pas_cons (px_slice (px_var (pv 8)) (pp_some px_int) (pp_some (px_var (pv 5)))) pas_nil))))))) (pssx_one (psx_ret px_bl)) pssx_nil)
  (pssx_cons (psx_if (pb_ne hr (px_sumA rfl B.b_sum (pas_cons (px_var (pv 8)) pas_nil)) (px_callC c__law_power hr tkF (pas_cons (px_var (pv 2)) (pas_cons (px_mul (px_var (pv 3)) (px_add (px_sub (px_var (pv 4)) (px_var (pv 5))) px_int)) pas_nil)))) (pssx_one (psx_ret px_bl)) pssx_nil)
  (pssx_cons (psx_set (i := 9) sc.nd (px_callC c__law_tables hr tkF (pas_cons (px_var (pv 2)) (pas_cons (px_var (pv 3)) (pas_cons (px_var (pv 4)) (pas_cons (px_var (pv 4)) (pas_cons (px_var (pv 6)) pas_nil)))))))
  (pssx_cons (psx_if (pb_ne hr (px_callC c__law_met_told hr tkF (pas_cons (px_var (pv 2)) (pas_cons (px_var (pv 3)) (pas_cons (px_var (pv 4)) (pas_cons px_int pas_nil))))) (px_tup (pas_cons px_str (pas_cons (px_tuple B.b_tuple (pas_cons (px_var (pv 9)) pas_nil)) pas_nil)))) (pssx_one (psx_ret px_bl)) pssx_nil)
  (pssx_cons (psx_if (pb_ne hr (px_lc rfl sc.nd (pix_rng1 B.b_range (pas_cons (px_add (px_var (pv 4)) px_int) pas_nil) (many_cons many_nil)) (blkOk_by (own := [("_law_rank", 11)]) (by first | (show blkC N_law (defScope s_law) _ _ = true; decide +kernel) | rfl)) (fun _ _ _ _ _ => (pgx_name (i := 11) sc.nd)) (fun _ _ _ _ _ => pbs_nil) (fun _ _ _ _ _ => (px_callC c__law_words_told hr takes0 (pas_cons (px_var (pv 2)) (pas_cons (px_var (pv 3)) (pas_cons (px_var (pv 4)) (pas_cons (px_var (pv 11)) pas_nil))))))) (px_lc rfl sc.nd (pix_seq (px_var (pv 9))) (blkOk_by (own := [("_law_one", 12)]) (by first | (show blkC N_law (defScope s_law) _ _ = true; decide +kernel) | rfl)) (fun _ _ _ _ _ => (pgx_name (i := 12) sc.nd)) (fun _ _ _ _ _ => pbs_nil) (fun _ _ _ _ _ => (px_tup (pas_cons px_str (pas_cons (px_var (pv 12)) pas_nil)))))) (pssx_one (psx_ret px_bl)) pssx_nil)
  (pssx_cons (psx_if (pb_not (pb_x (px_callC c__law_words_hold hr tkF (pas_cons (px_var (pv 2)) (pas_cons (px_var (pv 3)) (pas_cons (px_add px_int (px_callI 1 c__law_draw hr tkF (pv 1) (pas_cons px_int pas_nil))) (pas_cons (px_var (pv 6)) pas_nil))))))) (pssx_one (psx_ret px_bl)) pssx_nil)
  (pssx_one (psx_ret (px_callI 1 c__law_refusals_hold hr tkF (pv 1) pas_nil)))))))))))))))))))
theorem all_mk {h : Heap} {fa : Addr} (X : K.In h) (G : h.Ns mainGlobals mg) (hfa : mg "law" = some (.ref fa))
    {f0 f1 f2 f3 f4 f5 T5 f6 f7 f8 f9 f10 f11 f12 f13 f14 f15 f16 f17 f18 f19 f20 f21 f22 f23 RR C0 C1 fI0 fI1 : Addr} {od0 an0 od1 an1 od2 an2 od3 an3 od4 an4 td5 od5 an5 od6 an6 od7 an7 od8 an8 od9 an9 od10 an10 od11 an11 od12 an12 od13 an13 od14 an14 od15 an15 od16 an16 od17 an17 od18 an18 od19 an19 od20 an20 od21 an21 od22 an22 od23 an23 odI0 anI0 odI1 anI1 : Option Addr} {sl0 sl1 sl2 sl3 sl4 ts5 sl5 sl6 sl7 sl8 sl9 sl10 sl11 sl12 sl13 sl14 sl15 sl16 sl17 sl18 sl19 sl20 sl21 sl22 sl23 slI0 slI1 : Array (Option Value)} {oc0 kV0 dc0 pm0 cd0 ct0 oc1 kV1 dc1 pm1 cd1 ct1 oc2 kV2 dc2 pm2 cd2 ct2 oc3 kV3 dc3 pm3 cd3 ct3 oc4 kV4 dc4 pm4 cd4 ct4 tc5 oc5 kV5 dc5 pm5 cd5 ct5 oc6 kV6 dc6 pm6 cd6 ct6 oc7 kV7 dc7 pm7 cd7 ct7 oc8 kV8 dc8 pm8 cd8 ct8 oc9 kV9 dc9 pm9 cd9 ct9 oc10 kV10 dc10 pm10 cd10 ct10 oc11 kV11 dc11 pm11 cd11 ct11 oc12 kV12 dc12 pm12 cd12 ct12 oc13 kV13 dc13 pm13 cd13 ct13 oc14 kV14 dc14 pm14 cd14 ct14 oc15 kV15 dc15 pm15 cd15 ct15 oc16 kV16 dc16 pm16 cd16 ct16 oc17 kV17 dc17 pm17 cd17 ct17 oc18 kV18 dc18 pm18 cd18 ct18 oc19 kV19 dc19 pm19 cd19 ct19 oc20 kV20 dc20 pm20 cd20 ct20 oc21 kV21 dc21 pm21 cd21 ct21 oc22 kV22 dc22 pm22 cd22 ct22 oc23 kV23 dc23 pm23 cd23 ct23 ocI0 kVI0 dcI0 pmI0 cdI0 ctI0 ocI1 kVI1 dcI1 pmI1 cdI1 ctI1 : Value} {tn5 gt_MOST_SIDE : Nat}
    (a0 : PySem.W.nsIn K mainGlobals "_law_hand" = some (some (.ref f0))) (l0 : K.lookup f0 = some ⟨oc0, od0, .func (PySem.W.fnOf "_law_hand" "_law_hand" (defArgs s__law_hand) (defBody s__law_hand) (defScope s__law_hand) .none kV0 dc0 pm0 an0 cd0 ct0), sl0⟩) (e0 : PySem.W.codeIn K cd0 "_law_hand" = true) (k0 : PySem.W.keepIn K (.ref f0) = true)
    (a1 : PySem.W.nsIn K mainGlobals "_law_mixed" = some (some (.ref f1))) (l1 : K.lookup f1 = some ⟨oc1, od1, .func (PySem.W.fnOf "_law_mixed" "_law_mixed" (defArgs s__law_mixed) (defBody s__law_mixed) (defScope s__law_mixed) .none kV1 dc1 pm1 an1 cd1 ct1), sl1⟩) (e1 : PySem.W.codeIn K cd1 "_law_mixed" = true) (k1 : PySem.W.keepIn K (.ref f1) = true)
    (a2 : PySem.W.nsIn K mainGlobals "_law_draw" = some (some (.ref f2))) (l2 : K.lookup f2 = some ⟨oc2, od2, .func (PySem.W.fnOf "_law_draw" "_law_draw" (defArgs s__law_draw) (defBody s__law_draw) (defScope s__law_draw) .none kV2 dc2 pm2 an2 cd2 ct2), sl2⟩) (e2 : PySem.W.codeIn K cd2 "_law_draw" = true) (k2 : PySem.W.keepIn K (.ref f2) = true)
    (a3 : PySem.W.nsIn K mainGlobals "_law_power" = some (some (.ref f3))) (l3 : K.lookup f3 = some ⟨oc3, od3, .func (PySem.W.fnOf "_law_power" "_law_power" (defArgs s__law_power) (defBody s__law_power) (defScope s__law_power) .none kV3 dc3 pm3 an3 cd3 ct3), sl3⟩) (e3 : PySem.W.codeIn K cd3 "_law_power" = true) (k3 : PySem.W.keepIn K (.ref f3) = true)
    (a4 : PySem.W.nsIn K mainGlobals "_law_gauss" = some (some (.ref f4))) (l4 : K.lookup f4 = some ⟨oc4, od4, .func (PySem.W.fnOf "_law_gauss" "_law_gauss" (defArgs s__law_gauss) (defBody s__law_gauss) (defScope s__law_gauss) .none kV4 dc4 pm4 an4 cd4 ct4), sl4⟩) (e4 : PySem.W.codeIn K cd4 "_law_gauss" = true) (k4 : PySem.W.keepIn K (.ref f4) = true)
    (a5 : PySem.W.nsIn K mainGlobals "is_whole" = some (some (.ref f5))) (l5 : K.lookup f5 = some ⟨oc5, od5, .func (PySem.W.fnOf "is_whole" "is_whole" (defArgs s_is_whole) (defBody s_is_whole) (defScope s_is_whole) (.ref T5) kV5 dc5 pm5 an5 cd5 ct5), sl5⟩) (t5 : K.lookup T5 = some ⟨tc5, td5, .seq #[.none, .none] tn5, ts5⟩) (e5 : PySem.W.codeIn K cd5 "is_whole" = true) (k5 : PySem.W.keepIn K (.ref f5) = true)
    (a6 : PySem.W.nsIn K mainGlobals "check_sizes" = some (some (.ref f6))) (l6 : K.lookup f6 = some ⟨oc6, od6, .func (PySem.W.fnOf "check_sizes" "check_sizes" (defArgs s_check_sizes) (defBody s_check_sizes) (defScope s_check_sizes) .none kV6 dc6 pm6 an6 cd6 ct6), sl6⟩) (e6 : PySem.W.codeIn K cd6 "check_sizes" = true) (k6 : PySem.W.keepIn K (.ref f6) = true)
    (a7 : PySem.W.nsIn K mainGlobals "power_of" = some (some (.ref f7))) (l7 : K.lookup f7 = some ⟨oc7, od7, .func (PySem.W.fnOf "power_of" "power_of" (defArgs s_power_of) (defBody s_power_of) (defScope s_power_of) .none kV7 dc7 pm7 an7 cd7 ct7), sl7⟩) (e7 : PySem.W.codeIn K cd7 "power_of" = true) (k7 : PySem.W.keepIn K (.ref f7) = true)
    (a8 : PySem.W.nsIn K mainGlobals "space_count" = some (some (.ref f8))) (l8 : K.lookup f8 = some ⟨oc8, od8, .func (PySem.W.fnOf "space_count" "space_count" (defArgs s_space_count) (defBody s_space_count) (defScope s_space_count) .none kV8 dc8 pm8 an8 cd8 ct8), sl8⟩) (e8 : PySem.W.codeIn K cd8 "space_count" = true) (k8 : PySem.W.keepIn K (.ref f8) = true)
    (a9 : PySem.W.nsIn K mainGlobals "met_counts" = some (some (.ref f9))) (l9 : K.lookup f9 = some ⟨oc9, od9, .func (PySem.W.fnOf "met_counts" "met_counts" (defArgs s_met_counts) (defBody s_met_counts) (defScope s_met_counts) .none kV9 dc9 pm9 an9 cd9 ct9), sl9⟩) (e9 : PySem.W.codeIn K cd9 "met_counts" = true) (k9 : PySem.W.keepIn K (.ref f9) = true)
    (a10 : PySem.W.nsIn K mainGlobals "_law_met_told" = some (some (.ref f10))) (l10 : K.lookup f10 = some ⟨oc10, od10, .func (PySem.W.fnOf "_law_met_told" "_law_met_told" (defArgs s__law_met_told) (defBody s__law_met_told) (defScope s__law_met_told) .none kV10 dc10 pm10 an10 cd10 ct10), sl10⟩) (e10 : PySem.W.codeIn K cd10 "_law_met_told" = true) (k10 : PySem.W.keepIn K (.ref f10) = true)
    (a11 : PySem.W.nsIn K mainGlobals "_law_whole" = some (some (.ref f11))) (l11 : K.lookup f11 = some ⟨oc11, od11, .func (PySem.W.fnOf "_law_whole" "_law_whole" (defArgs s__law_whole) (defBody s__law_whole) (defScope s__law_whole) .none kV11 dc11 pm11 an11 cd11 ct11), sl11⟩) (e11 : PySem.W.codeIn K cd11 "_law_whole" = true) (k11 : PySem.W.keepIn K (.ref f11) = true)
    (a12 : PySem.W.nsIn K mainGlobals "_law_shares_hold" = some (some (.ref f12))) (l12 : K.lookup f12 = some ⟨oc12, od12, .func (PySem.W.fnOf "_law_shares_hold" "_law_shares_hold" (defArgs s__law_shares_hold) (defBody s__law_shares_hold) (defScope s__law_shares_hold) .none kV12 dc12 pm12 an12 cd12 ct12), sl12⟩) (e12 : PySem.W.codeIn K cd12 "_law_shares_hold" = true) (k12 : PySem.W.keepIn K (.ref f12) = true)
    (a13 : PySem.W.nsIn K mainGlobals "_law_at" = some (some (.ref f13))) (l13 : K.lookup f13 = some ⟨oc13, od13, .func (PySem.W.fnOf "_law_at" "_law_at" (defArgs s__law_at) (defBody s__law_at) (defScope s__law_at) .none kV13 dc13 pm13 an13 cd13 ct13), sl13⟩) (e13 : PySem.W.codeIn K cd13 "_law_at" = true) (k13 : PySem.W.keepIn K (.ref f13) = true)
    (a14 : PySem.W.nsIn K mainGlobals "_law_tables" = some (some (.ref f14))) (l14 : K.lookup f14 = some ⟨oc14, od14, .func (PySem.W.fnOf "_law_tables" "_law_tables" (defArgs s__law_tables) (defBody s__law_tables) (defScope s__law_tables) .none kV14 dc14 pm14 an14 cd14 ct14), sl14⟩) (e14 : PySem.W.codeIn K cd14 "_law_tables" = true) (k14 : PySem.W.keepIn K (.ref f14) = true)
    (a15 : PySem.W.nsIn K mainGlobals "table_count" = some (some (.ref f15))) (l15 : K.lookup f15 = some ⟨oc15, od15, .func (PySem.W.fnOf "table_count" "table_count" (defArgs s_table_count) (defBody s_table_count) (defScope s_table_count) .none kV15 dc15 pm15 an15 cd15 ct15), sl15⟩) (e15 : PySem.W.codeIn K cd15 "table_count" = true) (k15 : PySem.W.keepIn K (.ref f15) = true)
    (a16 : PySem.W.nsIn K mainGlobals "words_of_rank" = some (some (.ref f16))) (l16 : K.lookup f16 = some ⟨oc16, od16, .func (PySem.W.fnOf "words_of_rank" "words_of_rank" (defArgs s_words_of_rank) (defBody s_words_of_rank) (defScope s_words_of_rank) .none kV16 dc16 pm16 an16 cd16 ct16), sl16⟩) (e16 : PySem.W.codeIn K cd16 "words_of_rank" = true) (k16 : PySem.W.keepIn K (.ref f16) = true)
    (a17 : PySem.W.nsIn K mainGlobals "_law_words_told" = some (some (.ref f17))) (l17 : K.lookup f17 = some ⟨oc17, od17, .func (PySem.W.fnOf "_law_words_told" "_law_words_told" (defArgs s__law_words_told) (defBody s__law_words_told) (defScope s__law_words_told) .none kV17 dc17 pm17 an17 cd17 ct17), sl17⟩) (e17 : PySem.W.codeIn K cd17 "_law_words_told" = true) (k17 : PySem.W.keepIn K (.ref f17) = true)
    (a18 : PySem.W.nsIn K mainGlobals "_law_words_hold" = some (some (.ref f18))) (l18 : K.lookup f18 = some ⟨oc18, od18, .func (PySem.W.fnOf "_law_words_hold" "_law_words_hold" (defArgs s__law_words_hold) (defBody s__law_words_hold) (defScope s__law_words_hold) .none kV18 dc18 pm18 an18 cd18 ct18), sl18⟩) (e18 : PySem.W.codeIn K cd18 "_law_words_hold" = true) (k18 : PySem.W.keepIn K (.ref f18) = true)
    (a19 : PySem.W.nsIn K mainGlobals "_law_pick" = some (some (.ref f19))) (l19 : K.lookup f19 = some ⟨oc19, od19, .func (PySem.W.fnOf "_law_pick" "_law_pick" (defArgs s__law_pick) (defBody s__law_pick) (defScope s__law_pick) .none kV19 dc19 pm19 an19 cd19 ct19), sl19⟩) (e19 : PySem.W.codeIn K cd19 "_law_pick" = true) (k19 : PySem.W.keepIn K (.ref f19) = true)
    (a20 : PySem.W.nsIn K mainGlobals "_law_odd" = some (some (.ref f20))) (l20 : K.lookup f20 = some ⟨oc20, od20, .func (PySem.W.fnOf "_law_odd" "_law_odd" (defArgs s__law_odd) (defBody s__law_odd) (defScope s__law_odd) .none kV20 dc20 pm20 an20 cd20 ct20), sl20⟩) (e20 : PySem.W.codeIn K cd20 "_law_odd" = true) (k20 : PySem.W.keepIn K (.ref f20) = true)
    (a21 : PySem.W.nsIn K mainGlobals "_law_first_odd" = some (some (.ref f21))) (l21 : K.lookup f21 = some ⟨oc21, od21, .func (PySem.W.fnOf "_law_first_odd" "_law_first_odd" (defArgs s__law_first_odd) (defBody s__law_first_odd) (defScope s__law_first_odd) .none kV21 dc21 pm21 an21 cd21 ct21), sl21⟩) (e21 : PySem.W.codeIn K cd21 "_law_first_odd" = true) (k21 : PySem.W.keepIn K (.ref f21) = true)
    (a22 : PySem.W.nsIn K mainGlobals "_law_refusals_hold" = some (some (.ref f22))) (l22 : K.lookup f22 = some ⟨oc22, od22, .func (PySem.W.fnOf "_law_refusals_hold" "_law_refusals_hold" (defArgs s__law_refusals_hold) (defBody s__law_refusals_hold) (defScope s__law_refusals_hold) .none kV22 dc22 pm22 an22 cd22 ct22), sl22⟩) (e22 : PySem.W.codeIn K cd22 "_law_refusals_hold" = true) (k22 : PySem.W.keepIn K (.ref f22) = true)
    (a23 : PySem.W.nsIn K mainGlobals "law" = some (some (.ref f23))) (l23 : K.lookup f23 = some ⟨oc23, od23, .func (PySem.W.fnOf "law" "law" (defArgs s_law) (defBody s_law) (defScope s_law) .none kV23 dc23 pm23 an23 cd23 ct23), sl23⟩) (e23 : PySem.W.codeIn K cd23 "law" = true) (k23 : PySem.W.keepIn K (.ref f23) = true)
    (aC0 : PySem.W.nsIn K mainGlobals "BadSizes" = some (some (.ref C0)))
    (aC1 : PySem.W.nsIn K mainGlobals "BadDistance" = some (some (.ref C1)))
    (aRR : PySem.W.nsIn K mainGlobals "RankError" = some (some (.ref RR)))
    (rR : rbB K RR = true) (cR : PySem.W.findCls K (.ref RR) (.type "type") "__init__" = some (.val (.builtin "ValueError.__init__")))
    (iI0 : PySem.W.findIn K (.ref C0) "__init__" = some (some (.ref fI0))) (lI0 : K.lookup fI0 = some ⟨ocI0, odI0, .func (PySem.W.fnOf "__init__" "BadSizes.__init__" (defArgs sI_BadSizes) (defBody sI_BadSizes) (defScope sI_BadSizes) .none kVI0 dcI0 pmI0 anI0 cdI0 ctI0), slI0⟩) (eI0 : PySem.W.codeIn K cdI0 "BadSizes.__init__" = true) (kI0 : PySem.W.keepIn K (.ref fI0) = true) (xI0 : ecB K C0 fI0 ["what"] = true)
    (iI1 : PySem.W.findIn K (.ref C1) "__init__" = some (some (.ref fI1))) (lI1 : K.lookup fI1 = some ⟨ocI1, odI1, .func (PySem.W.fnOf "__init__" "BadDistance.__init__" (defArgs sI_BadDistance) (defBody sI_BadDistance) (defScope sI_BadDistance) .none kVI1 dcI1 pmI1 anI1 cdI1 ctI1), slI1⟩) (eI1 : PySem.W.codeIn K cdI1 "BadDistance.__init__" = true) (kI1 : PySem.W.keepIn K (.ref fI1) = true) (xI1 : ecB K C1 fI1 [] = true)
    (y_BadSizes_BadSizes : PySem.W.exmOne K (.ref C0) (.ref C0) = some true)
    (y_BadSizes_BadDistance : PySem.W.exmOne K (.ref C0) (.ref C1) = some false)
    (y_BadDistance_BadSizes : PySem.W.exmOne K (.ref C1) (.ref C0) = some false)
    (y_BadDistance_BadDistance : PySem.W.exmOne K (.ref C1) (.ref C1) = some true)
    (z_abs : PySem.W.nsIn K mainGlobals "abs" = some none)
    (z_bool : PySem.W.nsIn K mainGlobals "bool" = some none)
    (z_enumerate : PySem.W.nsIn K mainGlobals "enumerate" = some none)
    (z_int : PySem.W.nsIn K mainGlobals "int" = some none)
    (z_isinstance : PySem.W.nsIn K mainGlobals "isinstance" = some none)
    (z_len : PySem.W.nsIn K mainGlobals "len" = some none)
    (z_list : PySem.W.nsIn K mainGlobals "list" = some none)
    (z_max : PySem.W.nsIn K mainGlobals "max" = some none)
    (z_range : PySem.W.nsIn K mainGlobals "range" = some none)
    (z_str : PySem.W.nsIn K mainGlobals "str" = some none)
    (z_sum : PySem.W.nsIn K mainGlobals "sum" = some none)
    (z_tuple : PySem.W.nsIn K mainGlobals "tuple" = some none)
    (g_MOST_SIDE : PySem.W.nsIn K mainGlobals "MOST_SIDE" = some (some (.int 12 gt_MOST_SIDE))) :
    ∃ fd : FuncData, (∀ (s : Shared) (v : Value), BindsTo s fd ⟨[v], []⟩ [("_law_script", v)]) ∧ ∀ base : Heap, K.In base → base.Ns mainGlobals mg → FnOk P w K mg base (L2.CX P w) 7 fa fd ["_law_script"] (spL K F_law) := by
  have e := hfa.symm.trans (PySem.W.mg_of X G a23)
  cases e
  have B : Blt mg := ⟨PySem.W.mg_none_of X G z_abs, PySem.W.mg_none_of X G z_bool, PySem.W.mg_none_of X G z_enumerate, PySem.W.mg_none_of X G z_int, PySem.W.mg_none_of X G z_isinstance, PySem.W.mg_none_of X G z_len, PySem.W.mg_none_of X G z_list, PySem.W.mg_none_of X G z_max, PySem.W.mg_none_of X G z_range, PySem.W.mg_none_of X G z_str, PySem.W.mg_none_of X G z_sum, PySem.W.mg_none_of X G z_tuple, ⟨_, PySem.W.mg_of X G g_MOST_SIDE⟩⟩
  have F0 := fun_mk (st := s__law_hand) l0 e0 k0
  have F1 := fun_mk (st := s__law_mixed) l1 e1 k1
  have F2 := fun_mk (st := s__law_draw) l2 e2 k2
  have F3 := fun_mk (st := s__law_power) l3 e3 k3
  have F4 := fun_mk (st := s__law_gauss) l4 e4 k4
  have F5 := funD_mk (st := s_is_whole) (dvs := [.non, .non]) (its := [.none, .none]) l5 e5 k5 t5 (by simp) (.cons rfl (.cons rfl (.nil)))
  have F6 := fun_mk (st := s_check_sizes) l6 e6 k6
  have F7 := fun_mk (st := s_power_of) l7 e7 k7
  have F8 := fun_mk (st := s_space_count) l8 e8 k8
  have F9 := fun_mk (st := s_met_counts) l9 e9 k9
  have F10 := fun_mk (st := s__law_met_told) l10 e10 k10
  have F11 := fun_mk (st := s__law_whole) l11 e11 k11
  have F12 := fun_mk (st := s__law_shares_hold) l12 e12 k12
  have F13 := fun_mk (st := s__law_at) l13 e13 k13
  have F14 := fun_mk (st := s__law_tables) l14 e14 k14
  have F15 := fun_mk (st := s_table_count) l15 e15 k15
  have F16 := fun_mk (st := s_words_of_rank) l16 e16 k16
  have F17 := fun_mk (st := s__law_words_told) l17 e17 k17
  have F18 := fun_mk (st := s__law_words_hold) l18 e18 k18
  have F19 := fun_mk (st := s__law_pick) l19 e19 k19
  have F20 := fun_mk (st := s__law_odd) l20 e20 k20
  have F21 := fun_mk (st := s__law_first_odd) l21 e21 k21
  have F22 := fun_mk (st := s__law_refusals_hold) l22 e22 k22
  have F23 := fun_mk (st := s_law) l23 e23 k23
  refine ⟨PySem.W.fnOf "law" "law" (defArgs s_law) (defBody s_law) (defScope s_law) .none kV23 dc23 pm23 an23 cd23 ct23, fun s v => .of_eq rfl, fun base _ _ => ?_⟩
  have BR : RB K RR := rbB_ok rR cR
  have hR : mg "RankError" = some (.ref RR) := PySem.W.mg_of X G aRR
  have EI0 := ecB_ok xI0
  have FI0 := fun_mk (st := sI_BadSizes) lI0 eI0 kI0
  have e_BadSizes : EC P w K mg base (fun i => [C0, C1].getD i 0) "BadSizes" 0 1 ["what"] := ⟨_, _, _, EI0.o, EI0.i, EI0.t, okI_BadSizes BR hR EI0 FI0, FI0.binds (ps := ["self", "what"]) fun _ _ _ _ _ _ us hl => match us, hl with | [_, _], _ => rfl, PySem.W.mg_of X G aC0⟩
  have EI1 := ecB_ok xI1
  have FI1 := fun_mk (st := sI_BadDistance) lI1 eI1 kI1
  have e_BadDistance : EC P w K mg base (fun i => [C0, C1].getD i 0) "BadDistance" 1 1 [] := ⟨_, _, _, EI1.o, EI1.i, EI1.t, okI_BadDistance BR hR EI1 FI1, FI1.binds (ps := ["self"]) fun _ _ _ _ _ _ us hl => match us, hl with | [_], _ => rfl, PySem.W.mg_of X G aC1⟩
  have Z : Exs P w K mg base (fun i => [C0, C1].getD i 0) := ⟨subOf_ok (List.forall_mem_cons.mpr ⟨fun _ h => by cases h; exact y_BadSizes_BadSizes, List.forall_mem_cons.mpr ⟨fun _ h => by cases h; exact y_BadSizes_BadDistance, List.forall_mem_cons.mpr ⟨fun _ h => by cases h; exact y_BadDistance_BadSizes, List.forall_mem_cons.mpr ⟨fun _ h => by cases h; exact y_BadDistance_BadDistance, fun _ h => nomatch h⟩⟩⟩⟩), PySem.W.mg_of X G aC0, PySem.W.mg_of X G aC1, e_BadSizes, e_BadDistance, List.forall_mem_cons.mpr ⟨⟨EI0.x, EI0.n _ (by simp)⟩, fun _ h => nomatch h⟩⟩
  have c__law_hand : CF P w K mg base (fun i => [C0, C1].getD i 0) "_law_hand" 1 ["_law_script"] F__law_hand := ⟨_, _, ok__law_hand B Z  F0, PySem.W.mg_of X G a0, F0.kp, F0.binds (ps := ["_law_script"]) fun _ _ _ _ _ _ us hl => match us, hl with | [_], _ => rfl⟩
  have c__law_mixed : CF P w K mg base (fun i => [C0, C1].getD i 0) "_law_mixed" 1 ["_law_number", "_law_turn"] F__law_mixed := ⟨_, _, ok__law_mixed B Z  F1, PySem.W.mg_of X G a1, F1.kp, F1.binds (ps := ["_law_number", "_law_turn"]) fun _ _ _ _ _ _ us hl => match us, hl with | [_, _], _ => rfl⟩
  have c__law_draw : CIO P w K mg base (fun i => [C0, C1].getD i 0) "_law_draw" 2 ["_law_hand_here", "_law_many"] F__law_draw := ⟨_, _, ok__law_draw B Z c__law_mixed F2, PySem.W.mg_of X G a2, F2.kp, F2.binds (ps := ["_law_hand_here", "_law_many"]) fun _ _ _ _ _ _ us hl => match us, hl with | [_, _], _ => rfl⟩
  have c__law_power : CF P w K mg base (fun i => [C0, C1].getD i 0) "_law_power" 1 ["_law_base", "_law_times"] F__law_power := ⟨_, _, ok__law_power B Z  F3, PySem.W.mg_of X G a3, F3.kp, F3.binds (ps := ["_law_base", "_law_times"]) fun _ _ _ _ _ _ us hl => match us, hl with | [_, _], _ => rfl⟩
  have c__law_gauss : CF P w K mg base (fun i => [C0, C1].getD i 0) "_law_gauss" 2 ["_law_q", "_law_most"] F__law_gauss := ⟨_, _, ok__law_gauss B Z c__law_power F4, PySem.W.mg_of X G a4, F4.kp, F4.binds (ps := ["_law_q", "_law_most"]) fun _ _ _ _ _ _ us hl => match us, hl with | [_, _], _ => rfl⟩
  have c_is_whole_3 : CF P w K mg base (fun i => [C0, C1].getD i 0) "is_whole" 1 ["thing", "low", "high"] F_is_whole := cf_mk (ok_is_whole B Z  F5) (PySem.W.mg_of X G a5) F5.kp (F5.binds1 (ps := ["thing", "low", "high"]) 3 2 (by simp) rfl fun _ _ _ _ _ _ _ us its hl hi => match us, its, hl, hi with | [_, _, _], [_, _], _, _ => ⟨_, rfl, rfl⟩)
  have c_check_sizes : CF P w K mg base (fun i => [C0, C1].getD i 0) "check_sizes" 3 ["prime", "degree", "columns"] F_check_sizes := ⟨_, _, ok_check_sizes B Z c_is_whole_3 F6, PySem.W.mg_of X G a6, F6.kp, F6.binds (ps := ["prime", "degree", "columns"]) fun _ _ _ _ _ _ us hl => match us, hl with | [_, _, _], _ => rfl⟩
  have c_power_of : CF P w K mg base (fun i => [C0, C1].getD i 0) "power_of" 1 ["base", "exponent"] F_power_of := ⟨_, _, ok_power_of B Z  F7, PySem.W.mg_of X G a7, F7.kp, F7.binds (ps := ["base", "exponent"]) fun _ _ _ _ _ _ us hl => match us, hl with | [_, _], _ => rfl⟩
  have c_space_count : CF P w K mg base (fun i => [C0, C1].getD i 0) "space_count" 2 ["prime", "whole", "part"] F_space_count := ⟨_, _, ok_space_count B Z c_power_of F8, PySem.W.mg_of X G a8, F8.kp, F8.binds (ps := ["prime", "whole", "part"]) fun _ _ _ _ _ _ us hl => match us, hl with | [_, _, _], _ => rfl⟩
  have c_met_counts : CF P w K mg base (fun i => [C0, C1].getD i 0) "met_counts" 4 ["prime", "degree", "columns", "distance"] F_met_counts := ⟨_, _, ok_met_counts B Z c_check_sizes c_power_of c_space_count c_is_whole_3 F9, PySem.W.mg_of X G a9, F9.kp, F9.binds (ps := ["prime", "degree", "columns", "distance"]) fun _ _ _ _ _ _ us hl => match us, hl with | [_, _, _, _], _ => rfl⟩
  have c__law_met_told : CF P w K mg base (fun i => [C0, C1].getD i 0) "_law_met_told" 5 ["_law_prime", "_law_degree", "_law_columns", "_law_distance"] F__law_met_told := ⟨_, _, ok__law_met_told B Z c_met_counts F10, PySem.W.mg_of X G a10, F10.kp, F10.binds (ps := ["_law_prime", "_law_degree", "_law_columns", "_law_distance"]) fun _ _ _ _ _ _ us hl => match us, hl with | [_, _, _, _], _ => rfl⟩
  have c__law_whole : CF P w K mg base (fun i => [C0, C1].getD i 0) "_law_whole" 1 ["_law_thing"] F__law_whole := ⟨_, _, ok__law_whole B Z  F11, PySem.W.mg_of X G a11, F11.kp, F11.binds (ps := ["_law_thing"]) fun _ _ _ _ _ _ us hl => match us, hl with | [_], _ => rfl⟩
  have c__law_shares_hold : CF P w K mg base (fun i => [C0, C1].getD i 0) "_law_shares_hold" 2 ["_law_n", "_law_counts", "_law_sums", "_law_rows"] F__law_shares_hold := ⟨_, _, ok__law_shares_hold B Z c__law_whole F12, PySem.W.mg_of X G a12, F12.kp, F12.binds (ps := ["_law_n", "_law_counts", "_law_sums", "_law_rows"]) fun _ _ _ _ _ _ us hl => match us, hl with | [_, _, _, _], _ => rfl⟩
  have c__law_at : CF P w K mg base (fun i => [C0, C1].getD i 0) "_law_at" 1 ["_law_rows", "_law_a", "_law_b"] F__law_at := ⟨_, _, ok__law_at B Z  F13, PySem.W.mg_of X G a13, F13.kp, F13.binds (ps := ["_law_rows", "_law_a", "_law_b"]) fun _ _ _ _ _ _ us hl => match us, hl with | [_, _, _], _ => rfl⟩
  have c__law_tables : CF P w K mg base (fun i => [C0, C1].getD i 0) "_law_tables" 2 ["_law_q", "_law_tall", "_law_wide", "_law_ranks", "_law_rows"] F__law_tables := ⟨_, _, ok__law_tables B Z c__law_at c__law_power F14, PySem.W.mg_of X G a14, F14.kp, F14.binds (ps := ["_law_q", "_law_tall", "_law_wide", "_law_ranks", "_law_rows"]) fun _ _ _ _ _ _ us hl => match us, hl with | [_, _, _, _, _], _ => rfl⟩
  have c_table_count : CF P w K mg base (fun i => [C0, C1].getD i 0) "table_count" 3 ["prime", "tall", "wide", "rank"] F_table_count := ⟨_, _, ok_table_count B Z c_space_count c_power_of F15, PySem.W.mg_of X G a15, F15.kp, F15.binds (ps := ["prime", "tall", "wide", "rank"]) fun _ _ _ _ _ _ us hl => match us, hl with | [_, _, _, _], _ => rfl⟩
  have c_words_of_rank : CF P w K mg base (fun i => [C0, C1].getD i 0) "words_of_rank" 4 ["prime", "degree", "columns", "rank"] F_words_of_rank := ⟨_, _, ok_words_of_rank B Z c_check_sizes c_table_count c_is_whole_3 F16, PySem.W.mg_of X G a16, F16.kp, F16.binds (ps := ["prime", "degree", "columns", "rank"]) fun _ _ _ _ _ _ us hl => match us, hl with | [_, _, _, _], _ => rfl⟩
  have c__law_words_told : CF P w K mg base (fun i => [C0, C1].getD i 0) "_law_words_told" 5 ["_law_prime", "_law_degree", "_law_columns", "_law_rank"] F__law_words_told := ⟨_, _, ok__law_words_told B Z c_words_of_rank F17, PySem.W.mg_of X G a17, F17.kp, F17.binds (ps := ["_law_prime", "_law_degree", "_law_columns", "_law_rank"]) fun _ _ _ _ _ _ us hl => match us, hl with | [_, _, _, _], _ => rfl⟩
  have c__law_words_hold : CF P w K mg base (fun i => [C0, C1].getD i 0) "_law_words_hold" 6 ["_law_q", "_law_m", "_law_n", "_law_rows"] F__law_words_hold := ⟨_, _, ok__law_words_hold B Z c__law_words_told c__law_shares_hold c__law_power F18, PySem.W.mg_of X G a18, F18.kp, F18.binds (ps := ["_law_q", "_law_m", "_law_n", "_law_rows"]) fun _ _ _ _ _ _ us hl => match us, hl with | [_, _, _, _], _ => rfl⟩
  have c__law_pick : CIO P w K mg base (fun i => [C0, C1].getD i 0) "_law_pick" 3 ["_law_hand_here", "_law_things"] F__law_pick := ⟨_, _, ok__law_pick B Z c__law_draw F19, PySem.W.mg_of X G a19, F19.kp, F19.binds (ps := ["_law_hand_here", "_law_things"]) fun _ _ _ _ _ _ us hl => match us, hl with | [_, _], _ => rfl⟩
  have c__law_odd : CIO P w K mg base (fun i => [C0, C1].getD i 0) "_law_odd" 3 ["_law_hand_here", "_law_low", "_law_high"] F__law_odd := ⟨_, _, ok__law_odd B Z c__law_draw F20, PySem.W.mg_of X G a20, F20.kp, F20.binds (ps := ["_law_hand_here", "_law_low", "_law_high"]) fun _ _ _ _ _ _ us hl => match us, hl with | [_, _, _], _ => rfl⟩
  have c__law_first_odd : CF P w K mg base (fun i => [C0, C1].getD i 0) "_law_first_odd" 1 ["_law_names", "_law_flags"] F__law_first_odd := ⟨_, _, ok__law_first_odd B Z  F21, PySem.W.mg_of X G a21, F21.kp, F21.binds (ps := ["_law_names", "_law_flags"]) fun _ _ _ _ _ _ us hl => match us, hl with | [_, _], _ => rfl⟩
  have c__law_refusals_hold : CIO P w K mg base (fun i => [C0, C1].getD i 0) "_law_refusals_hold" 6 ["_law_hand_here"] F__law_refusals_hold := ⟨_, _, ok__law_refusals_hold B Z c__law_draw c__law_pick c__law_odd c__law_words_told c__law_first_odd c__law_met_told F22, PySem.W.mg_of X G a22, F22.kp, F22.binds (ps := ["_law_hand_here"]) fun _ _ _ _ _ _ us hl => match us, hl with | [_], _ => rfl⟩
  exact fnOk_imp (ok_law (cm := (fun i => [C0, C1].getD i 0)) B Z c__law_hand c__law_draw c__law_gauss c__law_met_told c__law_shares_hold c__law_power c__law_tables c__law_words_told c__law_words_hold c__law_refusals_hold F23) fun vs H Q E h => h _
end
--SIMP subE_BadSizes_BadSizes, subE_BadSizes_BadDistance, subE_BadDistance_BadSizes, subE_BadDistance_BadDistance
/-! ### the drawing hand -/
def handD (cells : List Int) (place : Nat) (great total : Int) : D := .lst [.lst (cells.map .int), .int place, .int great, .int total]
structure GoodHand (h : D) : Prop where
  ex : ∃ cells place great total, h = handD cells place great total ∧ (∀ c ∈ cells, 0 ≤ c) ∧ place ≤ cells.length ∧ 0 ≤ great ∧ 0 ≤ total ∧ total < 2147483648 ∧ cells.length ≤ 63
theorem mixed_eq {a b : Int} (ha : 0 ≤ a ∧ a < 2147483648) (hb : 0 ≤ b ∧ b ≤ 1000) : ∃ r, F__law_mixed [.int a, .int b] = .ok false (.int r) .non ∧ 0 ≤ r := by
  have e1 : mulOk a 44497 = true := mulOk_le (a := 31) (b := 20) (by omega) (by omega) (by omega)
  have e2 : mulOk b 9973 = true := mulOk_le (a := 31) (b := 20) (by omega) (by omega) (by omega)
  have e3 : mulOk b 60013 = true := mulOk_le (a := 31) (b := 20) (by omega) (by omega) (by omega)
  generalize hx : (a * 44497 + b * 9973 + 30011) % 2147483543 = x
  have x0 : 0 ≤ x ∧ x < 2147483543 := by omega
  have e4 : mulOk x x = true := mulOk_le (a := 31) (b := 31) (by omega) (by omega) (by omega)
  generalize hz : (x * x + b * 60013 + x / 151) % 2147483497 = z
  have z0 : 0 ≤ z ∧ z < 2147483497 := by
    subst hz
    exact ⟨Int.emod_nonneg _ (by decide), Int.emod_lt_of_pos _ (by decide)⟩
  have e5 : mulOk z 50021 = true := mulOk_le (a := 31) (b := 20) (by omega) (by omega) (by omega)
  have d1 : divOk 151 = true := by decide
  have d2 : divOk 13 = true := by decide
  have d3 : divOk 64 = true := by decide
  refine ⟨(z * 50021 + x / 13) % 2147483489 / 64, ?_, by omega⟩
  simp only [F__law_mixed, B__law_mixed, bindR_ok, bindR_ex, a_bind, a_of_some, a_var, a_c, a_bin, a_un, a_test, a_tru, a_cmp, a_and, a_or, a_not, a_if, a_andV, a_orV, a_notV, a_bl, a_nil, a_cons, a_tup, a_lst, a_call, a_callF, a_callIO, a_seq, a_next, a_ret, a_retN, a_drop, a_break, a_cont, a_ifS, a_asg, a_asgG, a_app, a_setI, a_iter, a_rng, a_for, a_slice, a_part0, a_part1, a_lc, a_yes, l_val, l_new, l_slot, f_val, f_new, f_slot, t_val, t_new, t_slot, s_val, s_new, s_slot, a_look2, a_look1, a_fa0, a_fa1, a_la0, a_la1, a_fn1, a_fn2, a_gN, a_gs0, a_gs1, a_gT, a_turn, a_fg0, a_fg1, a_wp0, a_wp1, a_rs0, a_rs1, a_mkF, a_mkIO, a_owL, a_owD, a_tkT, a_tkF, a_apf, a_apb, a_apn, a_aps, e_addI, e_subI, e_mulI, e_divI, e_modI, e_negI, e_lt, e_le, e_gt, e_ge, e_is, e_isnot, a_lift, e_lenL, e_lenT, e_lenS, e_intI, e_intB, e_absI, e_truB, e_truI, e_truN, e_truL, e_truT, e_ixL, e_ixT, e_tupL, e_tupT, e_lstL, e_lstT, e_sum, cEq_int, cNe_int, fin, finIO, outTk, own0, isS0, entry, entryIO, atI_0, atI_1, atI_2, atI_3, Option.map_some, List.set_cons_zero, List.set_cons_succ, List.getElem?_cons_zero, List.getElem?_cons_succ, List.getElem?_nil, List.getD_cons_zero, List.getD_cons_succ, List.map_cons, List.map_nil, List.length_cons, List.length_nil, List.length_map, List.replicate, List.cons_append, List.nil_append, Nat.reduceAdd, Nat.reduceSub, Nat.reduceLeDiff, Nat.reduceLT, Nat.zero_le, Int.reduceLT, Int.reduceLE, Int.reduceEq, Int.reduceNeg, if_true, if_false, Bool.false_eq_true, Bool.true_eq_false, reduceIte, Bool.or_true, Bool.true_or, Bool.false_or, Bool.or_false, Bool.and_true, Bool.and_false, Bool.true_and, Bool.false_and, Bool.not_true, Bool.not_false, decide_true, decide_false, decide_eq_true_eq, and_self, not_true_eq_false, not_false_eq_true, ite_self, a_try_ok, a_raise0, a_raise, a_h0, a_h1, a_en0, a_en1, a_se_nx, a_se_rt, a_lv0, a_lv1, a_un0, a_un1, a_cx0, a_cx1, a_cx2, a_cx3, a_xf, a_pad, a_walk, a_rev, w_enum, w_zipL, w_zipT, e_max, e_min, e_and, e_sumA, e_sumAT, List.reverse_cons, List.reverse_nil, List.zip_cons_cons, List.zip_nil_left, List.zip_nil_right, subE_BadSizes_BadSizes, subE_BadSizes_BadDistance, subE_BadDistance_BadSizes, subE_BadDistance_BadDistance, e1, e2, e3, hx, e4, hz, e5, d1, d2, d3]
theorem hand_good (ns : List Int) (h : ns.length ≤ 63) : ∃ d, F__law_hand [.scr ns] = .ok true d .non ∧ GoodHand d := by
  have key := loop_inv (g := gN 3) (junk := [3]) (body := (mSeq (mAsg 1 (mBin dMod (mCall (fn1 dInt) (mCons (mBin dAdd (mBin dMul (mVar 1) (mC (.int 2903))) (mCall (fn1 dInt) (mCons (mVar 3) mNil))) mNil)) (mC (.int 2147483587))))
  (mDrop (mApp 2 (mCall (fn1 dAbs) (mCons (mCall (fn1 dInt) (mCons (mVar 3) mNil)) mNil)))))) (fun i e => ∃ t cells, 0 ≤ t ∧ t < 2147483648 ∧ cells.length = i ∧ (∀ c ∈ cells, 0 ≤ c) ∧ e = [.sh (.scr ns), .sh (.int t), .ow (.lst (cells.map D.int)), .no]) (ns.map D.int) 0
    (env := [.sh (.scr ns), .sh (.int (83 + (ns.length : Int))), .ow (.lst []), .no]) (fun i d e hi hp => by
      rw [Nat.zero_add] at hp ⊢
      obtain ⟨t, cells, t0, t1, hc, hp, rfl⟩ := hp
      rw [List.getElem?_map] at hi
      cases z : ns[i]? with
      | none => rw [z] at hi; cases hi
      | some n =>
        rw [z] at hi
        cases hi
        have hin : i < ns.length := (List.getElem?_eq_some_iff.mp z).1
        have e1 : mulOk t 2903 = true := mulOk_le (a := 31) (b := 20) (by omega) (by omega) (by omega)
        have hl : cells.length < lim := by unfold lim; omega
        refine ⟨[.sh (.scr ns), .sh (.int ((t * 2903 + n) % 2147483587)), .ow (.lst ((cells ++ [if n < 0 then -n else n]).map D.int)), .no], ?_, (t * 2903 + n) % 2147483587, cells ++ [if n < 0 then -n else n], Int.emod_nonneg _ (by decide), Int.lt_of_lt_of_le (Int.emod_lt_of_pos _ (by decide)) (by decide), by simp [hc], ?_, rfl⟩
        · simp only [bindR_ok, bindR_ex, a_bind, a_of_some, a_var, a_c, a_bin, a_un, a_test, a_tru, a_cmp, a_and, a_or, a_not, a_if, a_andV, a_orV, a_notV, a_bl, a_nil, a_cons, a_tup, a_lst, a_call, a_callF, a_callIO, a_seq, a_next, a_ret, a_retN, a_drop, a_break, a_cont, a_ifS, a_asg, a_asgG, a_app, a_setI, a_iter, a_rng, a_for, a_slice, a_part0, a_part1, a_lc, a_yes, l_val, l_new, l_slot, f_val, f_new, f_slot, t_val, t_new, t_slot, s_val, s_new, s_slot, a_look2, a_look1, a_fa0, a_fa1, a_la0, a_la1, a_fn1, a_fn2, a_gN, a_gs0, a_gs1, a_gT, a_turn, a_fg0, a_fg1, a_wp0, a_wp1, a_rs0, a_rs1, a_mkF, a_mkIO, a_owL, a_owD, a_tkT, a_tkF, a_apf, a_apb, a_apn, a_aps, e_addI, e_subI, e_mulI, e_divI, e_modI, e_negI, e_lt, e_le, e_gt, e_ge, e_is, e_isnot, a_lift, e_lenL, e_lenT, e_lenS, e_intI, e_intB, e_absI, e_truB, e_truI, e_truN, e_truL, e_truT, e_ixL, e_ixT, e_tupL, e_tupT, e_lstL, e_lstT, e_sum, cEq_int, cNe_int, fin, finIO, outTk, own0, isS0, entry, entryIO, atI_0, atI_1, atI_2, atI_3, Option.map_some, List.set_cons_zero, List.set_cons_succ, List.getElem?_cons_zero, List.getElem?_cons_succ, List.getElem?_nil, List.getD_cons_zero, List.getD_cons_succ, List.map_cons, List.map_nil, List.length_cons, List.length_nil, List.length_map, List.replicate, List.cons_append, List.nil_append, Nat.reduceAdd, Nat.reduceSub, Nat.reduceLeDiff, Nat.reduceLT, Nat.zero_le, Int.reduceLT, Int.reduceLE, Int.reduceEq, Int.reduceNeg, if_true, if_false, Bool.false_eq_true, Bool.true_eq_false, reduceIte, Bool.or_true, Bool.true_or, Bool.false_or, Bool.or_false, Bool.and_true, Bool.and_false, Bool.true_and, Bool.false_and, Bool.not_true, Bool.not_false, decide_true, decide_false, decide_eq_true_eq, and_self, not_true_eq_false, not_false_eq_true, ite_self, a_try_ok, a_raise0, a_raise, a_h0, a_h1, a_en0, a_en1, a_se_nx, a_se_rt, a_lv0, a_lv1, a_un0, a_un1, a_cx0, a_cx1, a_cx2, a_cx3, a_xf, a_pad, a_walk, a_rev, w_enum, w_zipL, w_zipT, e_max, e_min, e_and, e_sumA, e_sumAT, List.reverse_cons, List.reverse_nil, List.zip_cons_cons, List.zip_nil_left, List.zip_nil_right, subE_BadSizes_BadSizes, subE_BadSizes_BadDistance, subE_BadDistance_BadSizes, subE_BadDistance_BadDistance, e1, hl, List.map_append]
        · intro c hc
          rw [List.mem_append] at hc
          rcases hc with hc | hc
          · exact hp c hc
          · simp only [List.mem_singleton] at hc
            subst hc
            split <;> omega) ⟨_, [], by omega, by omega, rfl, by simp, rfl⟩
  obtain ⟨e', h1, t, cells, t0, t1, hc, hp, rfl⟩ := key
  refine ⟨handD cells 0 0 t, ?_, ⟨cells, 0, 0, t, rfl, hp, Nat.zero_le _, Int.le_refl _, t0, t1, by rw [hc]; simp; exact h⟩⟩
  simp only [F__law_hand, B__law_hand, bindR_ok, bindR_ex, a_bind, a_of_some, a_var, a_c, a_bin, a_un, a_test, a_tru, a_cmp, a_and, a_or, a_not, a_if, a_andV, a_orV, a_notV, a_bl, a_nil, a_cons, a_tup, a_lst, a_call, a_callF, a_callIO, a_seq, a_next, a_ret, a_retN, a_drop, a_break, a_cont, a_ifS, a_asg, a_asgG, a_app, a_setI, a_iter, a_rng, a_for, a_slice, a_part0, a_part1, a_lc, a_yes, l_val, l_new, l_slot, f_val, f_new, f_slot, t_val, t_new, t_slot, s_val, s_new, s_slot, a_look2, a_look1, a_fa0, a_fa1, a_la0, a_la1, a_fn1, a_fn2, a_gN, a_gs0, a_gs1, a_gT, a_turn, a_fg0, a_fg1, a_wp0, a_wp1, a_rs0, a_rs1, a_mkF, a_mkIO, a_owL, a_owD, a_tkT, a_tkF, a_apf, a_apb, a_apn, a_aps, e_addI, e_subI, e_mulI, e_divI, e_modI, e_negI, e_lt, e_le, e_gt, e_ge, e_is, e_isnot, a_lift, e_lenL, e_lenT, e_lenS, e_intI, e_intB, e_absI, e_truB, e_truI, e_truN, e_truL, e_truT, e_ixL, e_ixT, e_tupL, e_tupT, e_lstL, e_lstT, e_sum, cEq_int, cNe_int, fin, finIO, outTk, own0, isS0, entry, entryIO, atI_0, atI_1, atI_2, atI_3, Option.map_some, List.set_cons_zero, List.set_cons_succ, List.getElem?_cons_zero, List.getElem?_cons_succ, List.getElem?_nil, List.getD_cons_zero, List.getD_cons_succ, List.map_cons, List.map_nil, List.length_cons, List.length_nil, List.length_map, List.replicate, List.cons_append, List.nil_append, Nat.reduceAdd, Nat.reduceSub, Nat.reduceLeDiff, Nat.reduceLT, Nat.zero_le, Int.reduceLT, Int.reduceLE, Int.reduceEq, Int.reduceNeg, if_true, if_false, Bool.false_eq_true, Bool.true_eq_false, reduceIte, Bool.or_true, Bool.true_or, Bool.false_or, Bool.or_false, Bool.and_true, Bool.and_false, Bool.true_and, Bool.false_and, Bool.not_true, Bool.not_false, decide_true, decide_false, decide_eq_true_eq, and_self, not_true_eq_false, not_false_eq_true, ite_self, a_try_ok, a_raise0, a_raise, a_h0, a_h1, a_en0, a_en1, a_se_nx, a_se_rt, a_lv0, a_lv1, a_un0, a_un1, a_cx0, a_cx1, a_cx2, a_cx3, a_xf, a_pad, a_walk, a_rev, w_enum, w_zipL, w_zipT, e_max, e_min, e_and, e_sumA, e_sumAT, List.reverse_cons, List.reverse_nil, List.zip_cons_cons, List.zip_nil_left, List.zip_nil_right, subE_BadSizes_BadSizes, subE_BadSizes_BadDistance, subE_BadDistance_BadSizes, subE_BadDistance_BadDistance]
  rw [h1]
  simp only [bindR_ok, bindR_ex, a_bind, a_of_some, a_var, a_c, a_bin, a_un, a_test, a_tru, a_cmp, a_and, a_or, a_not, a_if, a_andV, a_orV, a_notV, a_bl, a_nil, a_cons, a_tup, a_lst, a_call, a_callF, a_callIO, a_seq, a_next, a_ret, a_retN, a_drop, a_break, a_cont, a_ifS, a_asg, a_asgG, a_app, a_setI, a_iter, a_rng, a_for, a_slice, a_part0, a_part1, a_lc, a_yes, l_val, l_new, l_slot, f_val, f_new, f_slot, t_val, t_new, t_slot, s_val, s_new, s_slot, a_look2, a_look1, a_fa0, a_fa1, a_la0, a_la1, a_fn1, a_fn2, a_gN, a_gs0, a_gs1, a_gT, a_turn, a_fg0, a_fg1, a_wp0, a_wp1, a_rs0, a_rs1, a_mkF, a_mkIO, a_owL, a_owD, a_tkT, a_tkF, a_apf, a_apb, a_apn, a_aps, e_addI, e_subI, e_mulI, e_divI, e_modI, e_negI, e_lt, e_le, e_gt, e_ge, e_is, e_isnot, a_lift, e_lenL, e_lenT, e_lenS, e_intI, e_intB, e_absI, e_truB, e_truI, e_truN, e_truL, e_truT, e_ixL, e_ixT, e_tupL, e_tupT, e_lstL, e_lstT, e_sum, cEq_int, cNe_int, fin, finIO, outTk, own0, isS0, entry, entryIO, atI_0, atI_1, atI_2, atI_3, Option.map_some, List.set_cons_zero, List.set_cons_succ, List.getElem?_cons_zero, List.getElem?_cons_succ, List.getElem?_nil, List.getD_cons_zero, List.getD_cons_succ, List.map_cons, List.map_nil, List.length_cons, List.length_nil, List.length_map, List.replicate, List.cons_append, List.nil_append, Nat.reduceAdd, Nat.reduceSub, Nat.reduceLeDiff, Nat.reduceLT, Nat.zero_le, Int.reduceLT, Int.reduceLE, Int.reduceEq, Int.reduceNeg, if_true, if_false, Bool.false_eq_true, Bool.true_eq_false, reduceIte, Bool.or_true, Bool.true_or, Bool.false_or, Bool.or_false, Bool.and_true, Bool.and_false, Bool.true_and, Bool.false_and, Bool.not_true, Bool.not_false, decide_true, decide_false, decide_eq_true_eq, and_self, not_true_eq_false, not_false_eq_true, ite_self, a_try_ok, a_raise0, a_raise, a_h0, a_h1, a_en0, a_en1, a_se_nx, a_se_rt, a_lv0, a_lv1, a_un0, a_un1, a_cx0, a_cx1, a_cx2, a_cx3, a_xf, a_pad, a_walk, a_rev, w_enum, w_zipL, w_zipT, e_max, e_min, e_and, e_sumA, e_sumAT, List.reverse_cons, List.reverse_nil, List.zip_cons_cons, List.zip_nil_left, List.zip_nil_right, subE_BadSizes_BadSizes, subE_BadSizes_BadDistance, subE_BadDistance_BadSizes, subE_BadDistance_BadDistance, handD]
  rfl
theorem take_good {h : D} {many : Int} (g : GoodHand h) (m1 : 1 ≤ many) (m2 : divOk many = true) : ∃ r h', F__law_draw [h, .int many] = .ok false (.int r) h' ∧ GoodHand h' ∧ 0 ≤ r ∧ r < many := by
  obtain ⟨cells, place, great, total, rfl, hc, hp, hg, ht0, ht1, hl⟩ := g
  have mm : decide (0 < many) = true := decide_eq_true (by omega)
  have rr : ∀ x : Int, 0 ≤ x % many ∧ x % many < many := fun x => ⟨Int.emod_nonneg _ (by omega), Int.emod_lt_of_pos _ (by omega)⟩
  -- the last way: the mixed sum
  have last : great = 0 → ¬ place < cells.length → ∃ r h', F__law_draw [handD cells place great total, .int many] = .ok false (.int r) h' ∧ GoodHand h' ∧ 0 ≤ r ∧ r < many := fun z np => by
    subst z
    have t2 : 0 ≤ (total + 1) % 2147483579 ∧ (total + 1) % 2147483579 < 2147483648 := by omega
    obtain ⟨x, hx, x0⟩ := mixed_eq t2 (b := (place : Int)) (by omega)
    refine ⟨x % many, handD cells place 0 ((total + 1) % 2147483579), ?_, ⟨cells, place, 0, _, rfl, hc, hp, Int.le_refl _, t2.1, t2.2, hl⟩, rr x⟩
    simp only [F__law_draw, B__law_draw, handD, bindR_ok, bindR_ex, a_bind, a_of_some, a_var, a_c, a_bin, a_un, a_test, a_tru, a_cmp, a_and, a_or, a_not, a_if, a_andV, a_orV, a_notV, a_bl, a_nil, a_cons, a_tup, a_lst, a_call, a_callF, a_callIO, a_seq, a_next, a_ret, a_retN, a_drop, a_break, a_cont, a_ifS, a_asg, a_asgG, a_app, a_setI, a_iter, a_rng, a_for, a_slice, a_part0, a_part1, a_lc, a_yes, l_val, l_new, l_slot, f_val, f_new, f_slot, t_val, t_new, t_slot, s_val, s_new, s_slot, a_look2, a_look1, a_fa0, a_fa1, a_la0, a_la1, a_fn1, a_fn2, a_gN, a_gs0, a_gs1, a_gT, a_turn, a_fg0, a_fg1, a_wp0, a_wp1, a_rs0, a_rs1, a_mkF, a_mkIO, a_owL, a_owD, a_tkT, a_tkF, a_apf, a_apb, a_apn, a_aps, e_addI, e_subI, e_mulI, e_divI, e_modI, e_negI, e_lt, e_le, e_gt, e_ge, e_is, e_isnot, a_lift, e_lenL, e_lenT, e_lenS, e_intI, e_intB, e_absI, e_truB, e_truI, e_truN, e_truL, e_truT, e_ixL, e_ixT, e_tupL, e_tupT, e_lstL, e_lstT, e_sum, cEq_int, cNe_int, fin, finIO, outTk, own0, isS0, entry, entryIO, atI_0, atI_1, atI_2, atI_3, Option.map_some, List.set_cons_zero, List.set_cons_succ, List.getElem?_cons_zero, List.getElem?_cons_succ, List.getElem?_nil, List.getD_cons_zero, List.getD_cons_succ, List.map_cons, List.map_nil, List.length_cons, List.length_nil, List.length_map, List.replicate, List.cons_append, List.nil_append, Nat.reduceAdd, Nat.reduceSub, Nat.reduceLeDiff, Nat.reduceLT, Nat.zero_le, Int.reduceLT, Int.reduceLE, Int.reduceEq, Int.reduceNeg, if_true, if_false, Bool.false_eq_true, Bool.true_eq_false, reduceIte, Bool.or_true, Bool.true_or, Bool.false_or, Bool.or_false, Bool.and_true, Bool.and_false, Bool.true_and, Bool.false_and, Bool.not_true, Bool.not_false, decide_true, decide_false, decide_eq_true_eq, and_self, not_true_eq_false, not_false_eq_true, ite_self, a_try_ok, a_raise0, a_raise, a_h0, a_h1, a_en0, a_en1, a_se_nx, a_se_rt, a_lv0, a_lv1, a_un0, a_un1, a_cx0, a_cx1, a_cx2, a_cx3, a_xf, a_pad, a_walk, a_rev, w_enum, w_zipL, w_zipT, e_max, e_min, e_and, e_sumA, e_sumAT, List.reverse_cons, List.reverse_nil, List.zip_cons_cons, List.zip_nil_left, List.zip_nil_right, subE_BadSizes_BadSizes, subE_BadSizes_BadDistance, subE_BadDistance_BadSizes, subE_BadDistance_BadDistance, show ¬ ((place : Int) < (cells.length : Int)) from by omega, ixN_3 (show 3 < 4 by decide), hx, show 0 < many from by omega]
  -- a great number, taken digit by digit
  have great_go : 0 < great → ∃ r h', F__law_draw [handD cells place great total, .int many] = .ok false (.int r) h' ∧ GoodHand h' ∧ 0 ≤ r ∧ r < many := fun z => by
    have g0 : 0 ≤ great / many := Int.ediv_nonneg hg (by omega)
    refine ⟨great % many, handD cells place (great / many) total, ?_, ⟨cells, place, _, _, rfl, hc, hp, g0, ht0, ht1, hl⟩, rr great⟩
    simp only [F__law_draw, B__law_draw, handD, bindR_ok, bindR_ex, a_bind, a_of_some, a_var, a_c, a_bin, a_un, a_test, a_tru, a_cmp, a_and, a_or, a_not, a_if, a_andV, a_orV, a_notV, a_bl, a_nil, a_cons, a_tup, a_lst, a_call, a_callF, a_callIO, a_seq, a_next, a_ret, a_retN, a_drop, a_break, a_cont, a_ifS, a_asg, a_asgG, a_app, a_setI, a_iter, a_rng, a_for, a_slice, a_part0, a_part1, a_lc, a_yes, l_val, l_new, l_slot, f_val, f_new, f_slot, t_val, t_new, t_slot, s_val, s_new, s_slot, a_look2, a_look1, a_fa0, a_fa1, a_la0, a_la1, a_fn1, a_fn2, a_gN, a_gs0, a_gs1, a_gT, a_turn, a_fg0, a_fg1, a_wp0, a_wp1, a_rs0, a_rs1, a_mkF, a_mkIO, a_owL, a_owD, a_tkT, a_tkF, a_apf, a_apb, a_apn, a_aps, e_addI, e_subI, e_mulI, e_divI, e_modI, e_negI, e_lt, e_le, e_gt, e_ge, e_is, e_isnot, a_lift, e_lenL, e_lenT, e_lenS, e_intI, e_intB, e_absI, e_truB, e_truI, e_truN, e_truL, e_truT, e_ixL, e_ixT, e_tupL, e_tupT, e_lstL, e_lstT, e_sum, cEq_int, cNe_int, fin, finIO, outTk, own0, isS0, entry, entryIO, atI_0, atI_1, atI_2, atI_3, Option.map_some, List.set_cons_zero, List.set_cons_succ, List.getElem?_cons_zero, List.getElem?_cons_succ, List.getElem?_nil, List.getD_cons_zero, List.getD_cons_succ, List.map_cons, List.map_nil, List.length_cons, List.length_nil, List.length_map, List.replicate, List.cons_append, List.nil_append, Nat.reduceAdd, Nat.reduceSub, Nat.reduceLeDiff, Nat.reduceLT, Nat.zero_le, Int.reduceLT, Int.reduceLE, Int.reduceEq, Int.reduceNeg, if_true, if_false, Bool.false_eq_true, Bool.true_eq_false, reduceIte, Bool.or_true, Bool.true_or, Bool.false_or, Bool.or_false, Bool.and_true, Bool.and_false, Bool.true_and, Bool.false_and, Bool.not_true, Bool.not_false, decide_true, decide_false, decide_eq_true_eq, and_self, not_true_eq_false, not_false_eq_true, ite_self, a_try_ok, a_raise0, a_raise, a_h0, a_h1, a_en0, a_en1, a_se_nx, a_se_rt, a_lv0, a_lv1, a_un0, a_un1, a_cx0, a_cx1, a_cx2, a_cx3, a_xf, a_pad, a_walk, a_rev, w_enum, w_zipL, w_zipT, e_max, e_min, e_and, e_sumA, e_sumAT, List.reverse_cons, List.reverse_nil, List.zip_cons_cons, List.zip_nil_left, List.zip_nil_right, subE_BadSizes_BadSizes, subE_BadSizes_BadDistance, subE_BadDistance_BadSizes, subE_BadDistance_BadDistance, show ¬ great = 0 from by omega, z, ixN_2 (show 2 < 4 by decide), m2, show 0 < many from by omega]
  rcases Int.lt_or_eq_of_le hg with z | z
  · exact great_go z
  · by_cases np : place < cells.length
    · have hcell : cells[place]? = some cells[place] := List.getElem?_eq_getElem np
      have c0 : 0 ≤ cells[place] := hc _ (List.getElem_mem np)
      have at1 : atI (cells.map D.int) (place : Int) = some (.int cells[place]) := atI_nat (by rw [List.getElem?_map, hcell]; rfl)
      have p18 : dPow (.int 10) (.int 18) = some (.val (.int 1000000000000000000)) := rfl
      subst z
      by_cases big : cells[place] < 1000000000000000000
      · obtain ⟨x, hx, x0⟩ := mixed_eq (a := cells[place] % 2147483543) (by omega) (b := (place : Int) + 1) (by omega)
        refine ⟨x % many, handD cells (place + 1) 0 total, ?_, ⟨cells, place + 1, 0, _, rfl, hc, by omega, Int.le_refl _, ht0, ht1, hl⟩, rr x⟩
        simp only [F__law_draw, B__law_draw, handD, bindR_ok, bindR_ex, a_bind, a_of_some, a_var, a_c, a_bin, a_un, a_test, a_tru, a_cmp, a_and, a_or, a_not, a_if, a_andV, a_orV, a_notV, a_bl, a_nil, a_cons, a_tup, a_lst, a_call, a_callF, a_callIO, a_seq, a_next, a_ret, a_retN, a_drop, a_break, a_cont, a_ifS, a_asg, a_asgG, a_app, a_setI, a_iter, a_rng, a_for, a_slice, a_part0, a_part1, a_lc, a_yes, l_val, l_new, l_slot, f_val, f_new, f_slot, t_val, t_new, t_slot, s_val, s_new, s_slot, a_look2, a_look1, a_fa0, a_fa1, a_la0, a_la1, a_fn1, a_fn2, a_gN, a_gs0, a_gs1, a_gT, a_turn, a_fg0, a_fg1, a_wp0, a_wp1, a_rs0, a_rs1, a_mkF, a_mkIO, a_owL, a_owD, a_tkT, a_tkF, a_apf, a_apb, a_apn, a_aps, e_addI, e_subI, e_mulI, e_divI, e_modI, e_negI, e_lt, e_le, e_gt, e_ge, e_is, e_isnot, a_lift, e_lenL, e_lenT, e_lenS, e_intI, e_intB, e_absI, e_truB, e_truI, e_truN, e_truL, e_truT, e_ixL, e_ixT, e_tupL, e_tupT, e_lstL, e_lstT, e_sum, cEq_int, cNe_int, fin, finIO, outTk, own0, isS0, entry, entryIO, atI_0, atI_1, atI_2, atI_3, Option.map_some, List.set_cons_zero, List.set_cons_succ, List.getElem?_cons_zero, List.getElem?_cons_succ, List.getElem?_nil, List.getD_cons_zero, List.getD_cons_succ, List.map_cons, List.map_nil, List.length_cons, List.length_nil, List.length_map, List.replicate, List.cons_append, List.nil_append, Nat.reduceAdd, Nat.reduceSub, Nat.reduceLeDiff, Nat.reduceLT, Nat.zero_le, Int.reduceLT, Int.reduceLE, Int.reduceEq, Int.reduceNeg, if_true, if_false, Bool.false_eq_true, Bool.true_eq_false, reduceIte, Bool.or_true, Bool.true_or, Bool.false_or, Bool.or_false, Bool.and_true, Bool.and_false, Bool.true_and, Bool.false_and, Bool.not_true, Bool.not_false, decide_true, decide_false, decide_eq_true_eq, and_self, not_true_eq_false, not_false_eq_true, ite_self, a_try_ok, a_raise0, a_raise, a_h0, a_h1, a_en0, a_en1, a_se_nx, a_se_rt, a_lv0, a_lv1, a_un0, a_un1, a_cx0, a_cx1, a_cx2, a_cx3, a_xf, a_pad, a_walk, a_rev, w_enum, w_zipL, w_zipT, e_max, e_min, e_and, e_sumA, e_sumAT, List.reverse_cons, List.reverse_nil, List.zip_cons_cons, List.zip_nil_left, List.zip_nil_right, subE_BadSizes_BadSizes, subE_BadSizes_BadDistance, subE_BadDistance_BadSizes, subE_BadDistance_BadDistance, show ((place : Int) < (cells.length : Int)) from by omega, at1, ixN_1 (show 1 < 4 by decide), p18, big, hx, show 0 < many from by omega]
        rfl
      · have g0 : 0 ≤ cells[place] / many := Int.ediv_nonneg c0 (by omega)
        refine ⟨cells[place] % many, handD cells (place + 1) (cells[place] / many) total, ?_, ⟨cells, place + 1, _, _, rfl, hc, by omega, g0, ht0, ht1, hl⟩, rr _⟩
        simp only [F__law_draw, B__law_draw, handD, bindR_ok, bindR_ex, a_bind, a_of_some, a_var, a_c, a_bin, a_un, a_test, a_tru, a_cmp, a_and, a_or, a_not, a_if, a_andV, a_orV, a_notV, a_bl, a_nil, a_cons, a_tup, a_lst, a_call, a_callF, a_callIO, a_seq, a_next, a_ret, a_retN, a_drop, a_break, a_cont, a_ifS, a_asg, a_asgG, a_app, a_setI, a_iter, a_rng, a_for, a_slice, a_part0, a_part1, a_lc, a_yes, l_val, l_new, l_slot, f_val, f_new, f_slot, t_val, t_new, t_slot, s_val, s_new, s_slot, a_look2, a_look1, a_fa0, a_fa1, a_la0, a_la1, a_fn1, a_fn2, a_gN, a_gs0, a_gs1, a_gT, a_turn, a_fg0, a_fg1, a_wp0, a_wp1, a_rs0, a_rs1, a_mkF, a_mkIO, a_owL, a_owD, a_tkT, a_tkF, a_apf, a_apb, a_apn, a_aps, e_addI, e_subI, e_mulI, e_divI, e_modI, e_negI, e_lt, e_le, e_gt, e_ge, e_is, e_isnot, a_lift, e_lenL, e_lenT, e_lenS, e_intI, e_intB, e_absI, e_truB, e_truI, e_truN, e_truL, e_truT, e_ixL, e_ixT, e_tupL, e_tupT, e_lstL, e_lstT, e_sum, cEq_int, cNe_int, fin, finIO, outTk, own0, isS0, entry, entryIO, atI_0, atI_1, atI_2, atI_3, Option.map_some, List.set_cons_zero, List.set_cons_succ, List.getElem?_cons_zero, List.getElem?_cons_succ, List.getElem?_nil, List.getD_cons_zero, List.getD_cons_succ, List.map_cons, List.map_nil, List.length_cons, List.length_nil, List.length_map, List.replicate, List.cons_append, List.nil_append, Nat.reduceAdd, Nat.reduceSub, Nat.reduceLeDiff, Nat.reduceLT, Nat.zero_le, Int.reduceLT, Int.reduceLE, Int.reduceEq, Int.reduceNeg, if_true, if_false, Bool.false_eq_true, Bool.true_eq_false, reduceIte, Bool.or_true, Bool.true_or, Bool.false_or, Bool.or_false, Bool.and_true, Bool.and_false, Bool.true_and, Bool.false_and, Bool.not_true, Bool.not_false, decide_true, decide_false, decide_eq_true_eq, and_self, not_true_eq_false, not_false_eq_true, ite_self, a_try_ok, a_raise0, a_raise, a_h0, a_h1, a_en0, a_en1, a_se_nx, a_se_rt, a_lv0, a_lv1, a_un0, a_un1, a_cx0, a_cx1, a_cx2, a_cx3, a_xf, a_pad, a_walk, a_rev, w_enum, w_zipL, w_zipT, e_max, e_min, e_and, e_sumA, e_sumAT, List.reverse_cons, List.reverse_nil, List.zip_cons_cons, List.zip_nil_left, List.zip_nil_right, subE_BadSizes_BadSizes, subE_BadSizes_BadDistance, subE_BadDistance_BadSizes, subE_BadDistance_BadDistance, show ((place : Int) < (cells.length : Int)) from by omega, at1, ixN_1 (show 1 < 4 by decide), ixN_2 (show 2 < 4 by decide), p18, big, show 0 < cells[place] from by omega, m2, show 0 < many from by omega]
        rfl
    · exact last z.symm np

/-! ### numbers of spaces and tables: the mathematics -/
def gR (q : Int) : Nat → Nat → Int
  | 0, 0 => 1
  | 0, _ + 1 => 0
  | _ + 1, 0 => 1
  | w + 1, p + 1 => gR q w p + q ^ (p + 1) * gR q w (p + 1)
def gT (q : Int) (w : Nat) : Nat → Int
  | 0 => 1
  | p + 1 => gT q w p * (q ^ (w - p) - 1)
def gB (q : Int) : Nat → Int
  | 0 => 1
  | p + 1 => gB q p * (q ^ (p + 1) - 1)
def gP (q : Int) (t : Nat) : Nat → Int
  | 0 => 1
  | r + 1 => gP q t r * (q ^ t - q ^ r)
theorem gR_zero (q : Int) (w : Nat) : gR q w 0 = 1 := by cases w <;> rfl
theorem gR_out (q : Int) : ∀ w p : Nat, w < p → gR q w p = 0
  | 0, 0, h => by omega
  | 0, p + 1, _ => rfl
  | w + 1, 0, h => by omega
  | w + 1, p + 1, h => by
    show gR q w p + q ^ (p + 1) * gR q w (p + 1) = 0
    rw [gR_out q w p (by omega), gR_out q w (p + 1) (by omega)]
    simp
theorem gR_diag (q : Int) : ∀ w : Nat, gR q w w = 1
  | 0 => rfl
  | w + 1 => by
    show gR q w w + q ^ (w + 1) * gR q w (w + 1) = 1
    rw [gR_diag q w, gR_out q w (w + 1) (by omega)]
    simp
theorem gT_out (q : Int) (w : Nat) : ∀ p, w < p → gT q w p = 0
  | 0, h => by omega
  | p + 1, h => by
    show gT q w p * (q ^ (w - p) - 1) = 0
    by_cases e : w = p
    · subst e; simp
    · rw [gT_out q w p (by omega)]; simp
theorem gT_up (q : Int) (w : Nat) : ∀ p, gT q (w + 1) (p + 1) = (q ^ (w + 1) - 1) * gT q w p
  | 0 => by show (1 : Int) * (q ^ (w + 1 - 0) - 1) = _ * 1; rw [Int.one_mul, Int.mul_one, Nat.sub_zero]
  | p + 1 => by
    show gT q (w + 1) (p + 1) * (q ^ (w + 1 - (p + 1)) - 1) = (q ^ (w + 1) - 1) * (gT q w p * (q ^ (w - p) - 1))
    rw [gT_up q w p, Nat.add_sub_add_right, Int.mul_assoc]
theorem gTB (q : Int) : ∀ w p : Nat, gT q w p = gB q p * gR q w p
  | 0, 0 => rfl
  | 0, p + 1 => by rw [gT_out q 0 (p + 1) (by omega), gR_out q 0 (p + 1) (by omega)]; simp
  | w + 1, 0 => by rw [gR_zero]; rfl
  | w + 1, p + 1 => by
    rw [gT_up]
    show _ = gB q p * (q ^ (p + 1) - 1) * (gR q w p + q ^ (p + 1) * gR q w (p + 1))
    have h1 := gTB q w p
    have h2 := gTB q w (p + 1)
    have h2' : gT q w p * (q ^ (w - p) - 1) = gB q p * (q ^ (p + 1) - 1) * gR q w (p + 1) := h2
    have e1 : gB q p * (q ^ (p + 1) - 1) * (gR q w p + q ^ (p + 1) * gR q w (p + 1)) = (q ^ (p + 1) - 1) * (gB q p * gR q w p) + q ^ (p + 1) * (gB q p * (q ^ (p + 1) - 1) * gR q w (p + 1)) := by
      rw [Int.mul_add]
      congr 1
      · rw [Int.mul_comm (gB q p) (q ^ (p + 1) - 1), Int.mul_assoc]
      · rw [← Int.mul_assoc, Int.mul_comm (gB q p * (q ^ (p + 1) - 1)) (q ^ (p + 1)), Int.mul_assoc]
    rw [e1, ← h1, ← h2']
    by_cases hp : p ≤ w
    · have ep : q ^ (w + 1) = q ^ (p + 1) * q ^ (w - p) := by rw [← Int.pow_add]; congr 1; omega
      have e2 : q ^ (p + 1) * (gT q w p * (q ^ (w - p) - 1)) = (q ^ (p + 1) * q ^ (w - p) - q ^ (p + 1)) * gT q w p := by
        rw [Int.mul_comm (gT q w p), ← Int.mul_assoc, Int.mul_sub, Int.mul_one]
      rw [e2, ← Int.add_mul, ep]
      congr 1
      omega
    · rw [gT_out q w p (by omega)]; simp
theorem gT_B (q : Int) : ∀ w p : Nat, p ≤ w → gT q w p * gB q (w - p) = gB q w
  | w, 0, _ => by show 1 * gB q (w - 0) = _; rw [Int.one_mul, Nat.sub_zero]
  | w, p + 1, h => by
    show gT q w p * (q ^ (w - p) - 1) * gB q (w - (p + 1)) = _
    rw [← gT_B q w p (by omega)]
    have e : w - p = (w - (p + 1)) + 1 := by omega
    rw [Int.mul_assoc, e]
    congr 1
    show _ = gB q (w - (p + 1)) * (q ^ (w - (p + 1) + 1) - 1)
    rw [Int.mul_comm]
theorem pow_ge {q : Int} (h : 2 ≤ q) : ∀ n : Nat, 1 ≤ n → 2 ≤ q ^ n
  | 0, hn => by omega
  | 1, _ => by rw [Int.pow_one]; exact h
  | n + 2, _ => by
    have := pow_ge h (n + 1) (by omega)
    rw [Int.pow_succ]
    have h2 : q ^ (n + 1) * 1 ≤ q ^ (n + 1) * q := Int.mul_le_mul_of_nonneg_left (by omega) (by omega)
    omega
theorem pow_pos1 {q : Int} (h : 2 ≤ q) (n : Nat) : 1 ≤ q ^ n := by
  cases n with
  | zero => simp
  | succ n => have := pow_ge h (n + 1) (by omega); omega
theorem gB_pos {q : Int} (h : 2 ≤ q) : ∀ p, 1 ≤ gB q p
  | 0 => Int.le_refl _
  | p + 1 => by
    show 1 ≤ gB q p * (q ^ (p + 1) - 1)
    have h1 := gB_pos h p
    have h2 := pow_ge h (p + 1) (by omega)
    have := Int.mul_pos (show 0 < gB q p by omega) (show 0 < q ^ (p + 1) - 1 by omega)
    omega
theorem gR_nonneg {q : Int} (h : 2 ≤ q) : ∀ w p : Nat, 0 ≤ gR q w p
  | 0, 0 => by show (0 : Int) ≤ 1; decide
  | 0, _ + 1 => Int.le_refl _
  | _ + 1, 0 => by show (0 : Int) ≤ 1; decide
  | w + 1, p + 1 => by
    show 0 ≤ gR q w p + q ^ (p + 1) * gR q w (p + 1)
    have h1 := gR_nonneg h w p
    have h2 := gR_nonneg h w (p + 1)
    have h3 := pow_pos1 h (p + 1)
    have := Int.mul_nonneg (show 0 ≤ q ^ (p + 1) by omega) h2
    omega
theorem gR_pos {q : Int} (h : 2 ≤ q) : ∀ w p : Nat, p ≤ w → 1 ≤ gR q w p
  | w, 0, _ => by rw [gR_zero]; exact Int.le_refl _
  | 0, p + 1, hp => by omega
  | w + 1, p + 1, hp => by
    show 1 ≤ gR q w p + q ^ (p + 1) * gR q w (p + 1)
    have h1 := gR_pos h w p (by omega)
    have h3 := pow_pos1 h (p + 1)
    have := Int.mul_nonneg (show 0 ≤ q ^ (p + 1) by omega) (gR_nonneg h w (p + 1))
    omega
theorem gR_sym {q : Int} (h : 2 ≤ q) (w p : Nat) (hp : p ≤ w) : gR q w (w - p) = gR q w p := by
  have h1 := gT_B q w p hp
  have h2 := gT_B q w (w - p) (by omega)
  rw [gTB] at h1 h2
  rw [show w - (w - p) = p by omega] at h2
  have b1 := gB_pos h p
  have b2 := gB_pos h (w - p)
  have : gB q p * gB q (w - p) * gR q w (w - p) = gB q p * gB q (w - p) * gR q w p := by
    have e1 : gB q p * gB q (w - p) * gR q w (w - p) = gB q w := by
      rw [← h2]
      rw [Int.mul_comm (gB q p), Int.mul_assoc, Int.mul_assoc, Int.mul_comm (gB q p)]
    have e2 : gB q p * gB q (w - p) * gR q w p = gB q w := by
      rw [← h1]
      rw [Int.mul_assoc, Int.mul_assoc, Int.mul_comm (gB q (w - p))]
    rw [e1, e2]
  exact Int.eq_of_mul_eq_mul_left (by have := Int.mul_pos (show 0 < gB q p by omega) (show 0 < gB q (w - p) by omega); omega) this
theorem gP_out (q : Int) (t : Nat) : ∀ r, t < r → gP q t r = 0
  | 0, h => by omega
  | r + 1, h => by
    show gP q t r * (q ^ t - q ^ r) = 0
    by_cases e : t = r
    · subst e; simp
    · rw [gP_out q t r (by omega)]; simp
/-- the same power beside the same product -/
def gC (q : Int) : Nat → Int
  | 0 => 1
  | r + 1 => gC q r * q ^ r
theorem gP_T (q : Int) (t : Nat) : ∀ r, r ≤ t → gP q t r = gC q r * gT q t r
  | 0, _ => rfl
  | r + 1, h => by
    show gP q t r * (q ^ t - q ^ r) = gC q r * q ^ r * (gT q t r * (q ^ (t - r) - 1))
    rw [gP_T q t r (by omega)]
    have e : q ^ t = q ^ r * q ^ (t - r) := by rw [← Int.pow_add]; congr 1; omega
    have e2 : q ^ r * (q ^ (t - r) - 1) = q ^ t - q ^ r := by rw [Int.mul_sub, Int.mul_one, ← e]
    rw [← e2]
    rw [Int.mul_assoc (gC q r) (q ^ r), ← Int.mul_assoc (q ^ r) (gT q t r), Int.mul_comm (q ^ r) (gT q t r), Int.mul_assoc (gC q r) (gT q t r), Int.mul_assoc (gT q t r)]
theorem exchange {q : Int} (h : 2 ≤ q) (t w r : Nat) (h1 : r ≤ t) (h2 : r ≤ w) : gR q w r * gP q t r = gR q t r * gP q w r := by
  rw [gP_T q t r h1, gP_T q w r h2]
  have b := gB_pos h r
  have : gB q r * (gR q w r * (gC q r * gT q t r)) = gB q r * (gR q t r * (gC q r * gT q w r)) := by
    rw [← Int.mul_assoc, ← gTB, ← Int.mul_assoc (gB q r) (gR q t r), ← gTB]
    rw [Int.mul_left_comm, Int.mul_left_comm (gT q t r), Int.mul_comm (gT q w r)]
  exact Int.eq_of_mul_eq_mul_left (by omega) this
def sumTo (f : Nat → Int) : Nat → Int
  | 0 => 0
  | n + 1 => sumTo f n + f n
theorem sumTo_front (f : Nat → Int) : ∀ n, sumTo f (n + 1) = f 0 + sumTo (fun i => f (i + 1)) n
  | 0 => by show (0 : Int) + f 0 = f 0 + 0; omega
  | n + 1 => by
    show sumTo f (n + 1) + f (n + 1) = f 0 + (sumTo (fun i => f (i + 1)) n + f (n + 1))
    rw [sumTo_front f n]; omega
theorem sumTo_add (f g : Nat → Int) : ∀ n, sumTo (fun i => f i + g i) n = sumTo f n + sumTo g n
  | 0 => rfl
  | n + 1 => by show sumTo _ n + (f n + g n) = sumTo f n + f n + (sumTo g n + g n); rw [sumTo_add f g n]; omega
theorem sumTo_mul (c : Int) (f : Nat → Int) : ∀ n, sumTo (fun i => c * f i) n = c * sumTo f n
  | 0 => by show (0 : Int) = c * 0; simp
  | n + 1 => by show sumTo _ n + c * f n = c * (sumTo f n + f n); rw [sumTo_mul c f n, Int.mul_add]
theorem sumTo_ext {f g : Nat → Int} : ∀ n, (∀ i, i < n → f i = g i) → sumTo f n = sumTo g n
  | 0, _ => rfl
  | n + 1, h => by show sumTo f n + f n = sumTo g n + g n; rw [sumTo_ext n (fun i hi => h i (by omega)), h n (by omega)]
theorem all_tables (q : Int) (t : Nat) : ∀ w : Nat, sumTo (fun r => gR q w r * gP q t r) (w + 1) = q ^ (t * w)
  | 0 => by show (0 : Int) + 1 * 1 = _; rw [Nat.mul_zero]; simp
  | w + 1 => by
    rw [sumTo_front]
    have e1 : sumTo (fun r => gR q (w + 1) (r + 1) * gP q t (r + 1)) (w + 1) = sumTo (fun r => gR q w r * gP q t (r + 1)) (w + 1) + sumTo (fun r => q ^ (r + 1) * gR q w (r + 1) * gP q t (r + 1)) (w + 1) := by
      rw [← sumTo_add]
      refine sumTo_ext _ fun r _ => ?_
      show (gR q w r + q ^ (r + 1) * gR q w (r + 1)) * gP q t (r + 1) = _
      rw [Int.add_mul]
    have e2 : gR q (w + 1) 0 * gP q t 0 + sumTo (fun r => q ^ (r + 1) * gR q w (r + 1) * gP q t (r + 1)) (w + 1) = sumTo (fun r => q ^ r * gR q w r * gP q t r) (w + 1) := by
      have := sumTo_front (fun r => q ^ r * gR q w r * gP q t r) (w + 1)
      have h0 : sumTo (fun r => q ^ r * gR q w r * gP q t r) (w + 1 + 1) = sumTo (fun r => q ^ r * gR q w r * gP q t r) (w + 1) + q ^ (w + 1) * gR q w (w + 1) * gP q t (w + 1) := rfl
      rw [gR_out q w (w + 1) (by omega)] at h0
      simp only [Int.mul_zero, Int.zero_mul, Int.add_zero] at h0
      rw [← h0, this]
      congr 1
      show _ = q ^ 0 * gR q w 0 * gP q t 0
      rw [gR_zero, gR_zero]
      simp
    have e3 : sumTo (fun r => gR q w r * gP q t (r + 1)) (w + 1) + sumTo (fun r => q ^ r * gR q w r * gP q t r) (w + 1) = q ^ t * sumTo (fun r => gR q w r * gP q t r) (w + 1) := by
      rw [← sumTo_add, ← sumTo_mul]
      refine sumTo_ext _ fun r _ => ?_
      show gR q w r * (gP q t r * (q ^ t - q ^ r)) + q ^ r * gR q w r * gP q t r = q ^ t * (gR q w r * gP q t r)
      rw [← Int.mul_assoc, Int.mul_sub, Int.mul_assoc (q ^ r), Int.mul_comm (q ^ r)]
      rw [Int.mul_comm (q ^ t)]
      omega
    rw [e1]
    have : gR q (w + 1) 0 * gP q t 0 + (sumTo (fun r => gR q w r * gP q t (r + 1)) (w + 1) + sumTo (fun r => q ^ (r + 1) * gR q w (r + 1) * gP q t (r + 1)) (w + 1)) = q ^ t * sumTo (fun r => gR q w r * gP q t r) (w + 1) := by
      rw [← e3, ← e2]; omega
    rw [this, all_tables q t w, ← Int.pow_add, Nat.mul_succ, Nat.add_comm]
/-! ### sizes -/
theorem abs_mul {a b : Int} {m n : Nat} (ha : a.natAbs ≤ 2 ^ m) (hb : b.natAbs ≤ 2 ^ n) : (a * b).natAbs ≤ 2 ^ (m + n) := by
  rw [Int.natAbs_mul, Nat.pow_add]
  exact Nat.mul_le_mul ha hb
theorem abs_mono {a : Int} {m n : Nat} (ha : a.natAbs ≤ 2 ^ m) (h : m ≤ n) : a.natAbs ≤ 2 ^ n := Nat.le_trans ha (Nat.pow_le_pow_right (by decide) h)
theorem lt_two {a : Int} {m : Nat} (h : a.natAbs ≤ 2 ^ m) : a.natAbs < 2 ^ (m + 1) := Nat.lt_of_le_of_lt h (Nat.pow_lt_pow_right (by decide) (by omega))
theorem mulOk2 {a b : Int} {m n : Nat} (ha : a.natAbs ≤ 2 ^ m) (hb : b.natAbs ≤ 2 ^ n) (h : m + n < 1000000) : mulOk a b = true := mulOk_le (lt_two ha) (lt_two hb) h
theorem abs_pow {b : Int} {c : Nat} (h : b.natAbs ≤ 2 ^ c) (n : Nat) : (b ^ n).natAbs ≤ 2 ^ (c * n) := by
  rw [natAbs_powI, Nat.pow_mul]
  exact Nat.pow_le_pow_left h n
theorem q_abs {q : Int} (h : q = 2 ∨ q = 3) : q.natAbs ≤ 2 ^ 2 := by rcases h with rfl | rfl <;> decide
theorem q_two {q : Int} (h : q = 2 ∨ q = 3) : 2 ≤ q := by rcases h with rfl | rfl <;> decide
theorem abs_sub1 {a : Int} {m : Nat} (h0 : 1 ≤ a) (h : a.natAbs ≤ 2 ^ m) : (a - 1).natAbs ≤ 2 ^ m := by omega
theorem abs_diff {a b : Int} {m : Nat} (h0 : 0 ≤ a) (h1 : 0 ≤ b) (h : a.natAbs ≤ 2 ^ m) (h2 : b.natAbs ≤ 2 ^ m) : (a - b).natAbs ≤ 2 ^ m := by omega
theorem q_pow {q : Int} (h : q = 2 ∨ q = 3) {n : Nat} (hn : n ≤ 41) : (q ^ n).natAbs ≤ 2 ^ 82 := abs_mono (abs_pow (q_abs h) n) (by omega)
theorem gT_abs {q : Int} (h : q = 2 ∨ q = 3) {w : Nat} (hw : w ≤ 40) : ∀ p, (gT q w p).natAbs ≤ 2 ^ (82 * p)
  | 0 => by show (1 : Int).natAbs ≤ _; simp
  | p + 1 => by
    have := abs_mul (gT_abs h hw p) (abs_sub1 (pow_pos1 (q_two h) (w - p)) (q_pow h (by omega)))
    exact this
theorem gB_abs {q : Int} (h : q = 2 ∨ q = 3) : ∀ p, p ≤ 40 → (gB q p).natAbs ≤ 2 ^ (82 * p)
  | 0, _ => by show (1 : Int).natAbs ≤ _; simp
  | p + 1, hp => by
    have := abs_mul (gB_abs h p (by omega)) (abs_sub1 (pow_pos1 (q_two h) (p + 1)) (q_pow h (by omega)))
    exact this
theorem gP_abs {q : Int} (h : q = 2 ∨ q = 3) {t : Nat} (ht : t ≤ 40) : ∀ r, r ≤ 40 → (gP q t r).natAbs ≤ 2 ^ (82 * r)
  | 0, _ => by show (1 : Int).natAbs ≤ _; simp
  | r + 1, hr => by
    have := abs_mul (gP_abs h ht r (by omega)) (abs_diff (by have := pow_pos1 (q_two h) t; omega) (by have := pow_pos1 (q_two h) r; omega) (q_pow h (show t ≤ 41 by omega)) (q_pow h (show r ≤ 41 by omega)))
    exact this
theorem gR_abs {q : Int} (h : q = 2 ∨ q = 3) {w p : Nat} (hw : w ≤ 40) (hp : p ≤ 40) : (gR q w p).natAbs ≤ 2 ^ 3280 := by
  have h1 := gT_abs h hw p
  rw [gTB, Int.natAbs_mul] at h1
  have h2 := gB_pos (q_two h) p
  have h3 : 1 * (gR q w p).natAbs ≤ (gB q p).natAbs * (gR q w p).natAbs := Nat.mul_le_mul_right _ (by omega)
  have h4 : 2 ^ (82 * p) ≤ 2 ^ 3280 := Nat.pow_le_pow_right (by decide) (by omega)
  omega
theorem gT_0 (q : Int) (w : Nat) : gT q w 0 = 1 := rfl
theorem gB_0 (q : Int) : gB q 0 = 1 := rfl
theorem gP_0 (q : Int) (w : Nat) : gP q w 0 = 1 := rfl
theorem gT_s (q : Int) (w p : Nat) : gT q w (p + 1) = gT q w p * (q ^ (w - p) - 1) := rfl
theorem gB_s (q : Int) (p : Nat) : gB q (p + 1) = gB q p * (q ^ (p + 1) - 1) := rfl
theorem gP_s (q : Int) (t r : Nat) : gP q t (r + 1) = gP q t r * (q ^ t - q ^ r) := rfl
/-! ### what the defs hand back -/
theorem power_of_eq {b e : Int} (hb : b.natAbs ≤ 2 ^ 100) (h0 : 0 ≤ e) (he : e ≤ 2000) : F_power_of [.int b, .int e] = .ok false (.int (b ^ e.toNat)) .non := by
  have hr : okR e = true := okR_of (by omega)
  have hm : ∀ i : Nat, i < e.toNat → mulOk (b ^ i) b = true := fun i hi => mulOk2 (abs_pow hb i) hb (by omega)
  have L := loop_rng (g := gN 3) (junk := [3]) (body := mAsg 2 (mBin dMul (mVar 2) (mVar 0))) (fun i => [.sh (.int b), .sh (.int e), .sh (.int (b ^ i)), .no]) 0 e.toNat (fun i hi => by
    simp only [bindR_ok, bindR_ex, a_bind, a_of_some, a_var, a_c, a_bin, a_un, a_test, a_tru, a_cmp, a_and, a_or, a_not, a_if, a_andV, a_orV, a_notV, a_bl, a_nil, a_cons, a_tup, a_lst, a_call, a_callF, a_callIO, a_seq, a_next, a_ret, a_retN, a_drop, a_break, a_cont, a_ifS, a_asg, a_asgG, a_app, a_setI, a_iter, a_rng, a_for, a_slice, a_part0, a_part1, a_lc, a_yes, l_val, l_new, l_slot, f_val, f_new, f_slot, t_val, t_new, t_slot, s_val, s_new, s_slot, a_look2, a_look1, a_fa0, a_fa1, a_la0, a_la1, a_fn1, a_fn2, a_gN, a_gs0, a_gs1, a_gT, a_turn, a_fg0, a_fg1, a_wp0, a_wp1, a_rs0, a_rs1, a_mkF, a_mkIO, a_owL, a_owD, a_tkT, a_tkF, a_apf, a_apb, a_apn, a_aps, e_addI, e_subI, e_mulI, e_divI, e_modI, e_negI, e_lt, e_le, e_gt, e_ge, e_is, e_isnot, a_lift, e_lenL, e_lenT, e_lenS, e_intI, e_intB, e_absI, e_truB, e_truI, e_truN, e_truL, e_truT, e_ixL, e_ixT, e_tupL, e_tupT, e_lstL, e_lstT, e_sum, cEq_int, cNe_int, fin, finIO, outTk, own0, isS0, entry, entryIO, atI_0, atI_1, atI_2, atI_3, Option.map_some, List.set_cons_zero, List.set_cons_succ, List.getElem?_cons_zero, List.getElem?_cons_succ, List.getElem?_nil, List.getD_cons_zero, List.getD_cons_succ, List.map_cons, List.map_nil, List.length_cons, List.length_nil, List.length_map, List.replicate, List.cons_append, List.nil_append, Nat.reduceAdd, Nat.reduceSub, Nat.reduceLeDiff, Nat.reduceLT, Nat.zero_le, Int.reduceLT, Int.reduceLE, Int.reduceEq, Int.reduceNeg, if_true, if_false, Bool.false_eq_true, Bool.true_eq_false, reduceIte, Bool.or_true, Bool.true_or, Bool.false_or, Bool.or_false, Bool.and_true, Bool.and_false, Bool.true_and, Bool.false_and, Bool.not_true, Bool.not_false, decide_true, decide_false, decide_eq_true_eq, and_self, not_true_eq_false, not_false_eq_true, ite_self, a_try_ok, a_raise0, a_raise, a_h0, a_h1, a_en0, a_en1, a_se_nx, a_se_rt, a_lv0, a_lv1, a_un0, a_un1, a_cx0, a_cx1, a_cx2, a_cx3, a_xf, a_pad, a_walk, a_rev, w_enum, w_zipL, w_zipT, e_max, e_min, e_and, e_sumA, e_sumAT, List.reverse_cons, List.reverse_nil, List.zip_cons_cons, List.zip_nil_left, List.zip_nil_right, subE_BadSizes_BadSizes, subE_BadSizes_BadDistance, subE_BadDistance_BadSizes, subE_BadDistance_BadDistance, hm i hi, Int.pow_succ])
  rw [Int.pow_zero] at L
  simp only [F_power_of, B_power_of, bindR_ok, bindR_ex, a_bind, a_of_some, a_var, a_c, a_bin, a_un, a_test, a_tru, a_cmp, a_and, a_or, a_not, a_if, a_andV, a_orV, a_notV, a_bl, a_nil, a_cons, a_tup, a_lst, a_call, a_callF, a_callIO, a_seq, a_next, a_ret, a_retN, a_drop, a_break, a_cont, a_ifS, a_asg, a_asgG, a_app, a_setI, a_iter, a_rng, a_for, a_slice, a_part0, a_part1, a_lc, a_yes, l_val, l_new, l_slot, f_val, f_new, f_slot, t_val, t_new, t_slot, s_val, s_new, s_slot, a_look2, a_look1, a_fa0, a_fa1, a_la0, a_la1, a_fn1, a_fn2, a_gN, a_gs0, a_gs1, a_gT, a_turn, a_fg0, a_fg1, a_wp0, a_wp1, a_rs0, a_rs1, a_mkF, a_mkIO, a_owL, a_owD, a_tkT, a_tkF, a_apf, a_apb, a_apn, a_aps, e_addI, e_subI, e_mulI, e_divI, e_modI, e_negI, e_lt, e_le, e_gt, e_ge, e_is, e_isnot, a_lift, e_lenL, e_lenT, e_lenS, e_intI, e_intB, e_absI, e_truB, e_truI, e_truN, e_truL, e_truT, e_ixL, e_ixT, e_tupL, e_tupT, e_lstL, e_lstT, e_sum, cEq_int, cNe_int, fin, finIO, outTk, own0, isS0, entry, entryIO, atI_0, atI_1, atI_2, atI_3, Option.map_some, List.set_cons_zero, List.set_cons_succ, List.getElem?_cons_zero, List.getElem?_cons_succ, List.getElem?_nil, List.getD_cons_zero, List.getD_cons_succ, List.map_cons, List.map_nil, List.length_cons, List.length_nil, List.length_map, List.replicate, List.cons_append, List.nil_append, Nat.reduceAdd, Nat.reduceSub, Nat.reduceLeDiff, Nat.reduceLT, Nat.zero_le, Int.reduceLT, Int.reduceLE, Int.reduceEq, Int.reduceNeg, if_true, if_false, Bool.false_eq_true, Bool.true_eq_false, reduceIte, Bool.or_true, Bool.true_or, Bool.false_or, Bool.or_false, Bool.and_true, Bool.and_false, Bool.true_and, Bool.false_and, Bool.not_true, Bool.not_false, decide_true, decide_false, decide_eq_true_eq, and_self, not_true_eq_false, not_false_eq_true, ite_self, a_try_ok, a_raise0, a_raise, a_h0, a_h1, a_en0, a_en1, a_se_nx, a_se_rt, a_lv0, a_lv1, a_un0, a_un1, a_cx0, a_cx1, a_cx2, a_cx3, a_xf, a_pad, a_walk, a_rev, w_enum, w_zipL, w_zipT, e_max, e_min, e_and, e_sumA, e_sumAT, List.reverse_cons, List.reverse_nil, List.zip_cons_cons, List.zip_nil_left, List.zip_nil_right, subE_BadSizes_BadSizes, subE_BadSizes_BadDistance, subE_BadDistance_BadSizes, subE_BadDistance_BadDistance, hr, L]
theorem law_power_eq {b e : Int} (hb : b.natAbs ≤ 2 ^ 100) (h0 : 0 ≤ e) (he : e ≤ 2000) : F__law_power [.int b, .int e] = .ok false (.int (b ^ e.toNat)) .non := power_of_eq hb h0 he
theorem q100 {q : Int} (h : q = 2 ∨ q = 3) : q.natAbs ≤ 2 ^ 100 := abs_mono (q_abs h) (by omega)
theorem sc_turn (FF : List D → Rf) (q W P i T B a b : Int) (e1 : FF [.int q, .int (W - i)] = .ok false (.int a) .non) (e2 : FF [.int q, .int (i + 1)] = .ok false (.int b) .non) (m1 : mulOk T (a - 1) = true) (m2 : mulOk B (b - 1) = true) :
  turn (gN 5) [5] (mSeq (mAsg 3 (mBin dMul (mVar 3) (mBin dSub (mCallF FF (mCons (mVar 0) (mCons (mBin dSub (mVar 1) (mVar 5)) mNil))) (mC (.int 1)))))
  (mAsg 4 (mBin dMul (mVar 4) (mBin dSub (mCallF FF (mCons (mVar 0) (mCons (mBin dAdd (mVar 5) (mC (.int 1))) mNil))) (mC (.int 1)))))) (.int i) [.sh (.int q), .sh (.int W), .sh (.int P), .sh (.int T), .sh (.int B), .no] = .ok .nx [.sh (.int q), .sh (.int W), .sh (.int P), .sh (.int (T * (a - 1))), .sh (.int (B * (b - 1))), .no] := by
  simp only [bindR_ok, bindR_ex, a_bind, a_of_some, a_var, a_c, a_bin, a_un, a_test, a_tru, a_cmp, a_and, a_or, a_not, a_if, a_andV, a_orV, a_notV, a_bl, a_nil, a_cons, a_tup, a_lst, a_call, a_callF, a_callIO, a_seq, a_next, a_ret, a_retN, a_drop, a_break, a_cont, a_ifS, a_asg, a_asgG, a_app, a_setI, a_iter, a_rng, a_for, a_slice, a_part0, a_part1, a_lc, a_yes, l_val, l_new, l_slot, f_val, f_new, f_slot, t_val, t_new, t_slot, s_val, s_new, s_slot, a_look2, a_look1, a_fa0, a_fa1, a_la0, a_la1, a_fn1, a_fn2, a_gN, a_gs0, a_gs1, a_gT, a_turn, a_fg0, a_fg1, a_wp0, a_wp1, a_rs0, a_rs1, a_mkF, a_mkIO, a_owL, a_owD, a_tkT, a_tkF, a_apf, a_apb, a_apn, a_aps, e_addI, e_subI, e_mulI, e_divI, e_modI, e_negI, e_lt, e_le, e_gt, e_ge, e_is, e_isnot, a_lift, e_lenL, e_lenT, e_lenS, e_intI, e_intB, e_absI, e_truB, e_truI, e_truN, e_truL, e_truT, e_ixL, e_ixT, e_tupL, e_tupT, e_lstL, e_lstT, e_sum, cEq_int, cNe_int, fin, finIO, outTk, own0, isS0, entry, entryIO, atI_0, atI_1, atI_2, atI_3, Option.map_some, List.set_cons_zero, List.set_cons_succ, List.getElem?_cons_zero, List.getElem?_cons_succ, List.getElem?_nil, List.getD_cons_zero, List.getD_cons_succ, List.map_cons, List.map_nil, List.length_cons, List.length_nil, List.length_map, List.replicate, List.cons_append, List.nil_append, Nat.reduceAdd, Nat.reduceSub, Nat.reduceLeDiff, Nat.reduceLT, Nat.zero_le, Int.reduceLT, Int.reduceLE, Int.reduceEq, Int.reduceNeg, if_true, if_false, Bool.false_eq_true, Bool.true_eq_false, reduceIte, Bool.or_true, Bool.true_or, Bool.false_or, Bool.or_false, Bool.and_true, Bool.and_false, Bool.true_and, Bool.false_and, Bool.not_true, Bool.not_false, decide_true, decide_false, decide_eq_true_eq, and_self, not_true_eq_false, not_false_eq_true, ite_self, a_try_ok, a_raise0, a_raise, a_h0, a_h1, a_en0, a_en1, a_se_nx, a_se_rt, a_lv0, a_lv1, a_un0, a_un1, a_cx0, a_cx1, a_cx2, a_cx3, a_xf, a_pad, a_walk, a_rev, w_enum, w_zipL, w_zipT, e_max, e_min, e_and, e_sumA, e_sumAT, List.reverse_cons, List.reverse_nil, List.zip_cons_cons, List.zip_nil_left, List.zip_nil_right, subE_BadSizes_BadSizes, subE_BadSizes_BadDistance, subE_BadDistance_BadSizes, subE_BadDistance_BadDistance, e1, e2, m1, m2]
theorem tc_turn (FF : List D → Rf) (q t w r i T a b : Int) (e1 : FF [.int q, .int t] = .ok false (.int a) .non) (e2 : FF [.int q, .int i] = .ok false (.int b) .non) (m1 : mulOk T (a - b) = true) :
  turn (gN 5) [5] (mAsg 4 (mBin dMul (mVar 4) (mBin dSub (mCallF FF (mCons (mVar 0) (mCons (mVar 1) mNil))) (mCallF FF (mCons (mVar 0) (mCons (mVar 5) mNil)))))) (.int i) [.sh (.int q), .sh (.int t), .sh (.int w), .sh (.int r), .sh (.int T), .no] = .ok .nx [.sh (.int q), .sh (.int t), .sh (.int w), .sh (.int r), .sh (.int (T * (a - b))), .no] := by
  simp only [bindR_ok, bindR_ex, a_bind, a_of_some, a_var, a_c, a_bin, a_un, a_test, a_tru, a_cmp, a_and, a_or, a_not, a_if, a_andV, a_orV, a_notV, a_bl, a_nil, a_cons, a_tup, a_lst, a_call, a_callF, a_callIO, a_seq, a_next, a_ret, a_retN, a_drop, a_break, a_cont, a_ifS, a_asg, a_asgG, a_app, a_setI, a_iter, a_rng, a_for, a_slice, a_part0, a_part1, a_lc, a_yes, l_val, l_new, l_slot, f_val, f_new, f_slot, t_val, t_new, t_slot, s_val, s_new, s_slot, a_look2, a_look1, a_fa0, a_fa1, a_la0, a_la1, a_fn1, a_fn2, a_gN, a_gs0, a_gs1, a_gT, a_turn, a_fg0, a_fg1, a_wp0, a_wp1, a_rs0, a_rs1, a_mkF, a_mkIO, a_owL, a_owD, a_tkT, a_tkF, a_apf, a_apb, a_apn, a_aps, e_addI, e_subI, e_mulI, e_divI, e_modI, e_negI, e_lt, e_le, e_gt, e_ge, e_is, e_isnot, a_lift, e_lenL, e_lenT, e_lenS, e_intI, e_intB, e_absI, e_truB, e_truI, e_truN, e_truL, e_truT, e_ixL, e_ixT, e_tupL, e_tupT, e_lstL, e_lstT, e_sum, cEq_int, cNe_int, fin, finIO, outTk, own0, isS0, entry, entryIO, atI_0, atI_1, atI_2, atI_3, Option.map_some, List.set_cons_zero, List.set_cons_succ, List.getElem?_cons_zero, List.getElem?_cons_succ, List.getElem?_nil, List.getD_cons_zero, List.getD_cons_succ, List.map_cons, List.map_nil, List.length_cons, List.length_nil, List.length_map, List.replicate, List.cons_append, List.nil_append, Nat.reduceAdd, Nat.reduceSub, Nat.reduceLeDiff, Nat.reduceLT, Nat.zero_le, Int.reduceLT, Int.reduceLE, Int.reduceEq, Int.reduceNeg, if_true, if_false, Bool.false_eq_true, Bool.true_eq_false, reduceIte, Bool.or_true, Bool.true_or, Bool.false_or, Bool.or_false, Bool.and_true, Bool.and_false, Bool.true_and, Bool.false_and, Bool.not_true, Bool.not_false, decide_true, decide_false, decide_eq_true_eq, and_self, not_true_eq_false, not_false_eq_true, ite_self, a_try_ok, a_raise0, a_raise, a_h0, a_h1, a_en0, a_en1, a_se_nx, a_se_rt, a_lv0, a_lv1, a_un0, a_un1, a_cx0, a_cx1, a_cx2, a_cx3, a_xf, a_pad, a_walk, a_rev, w_enum, w_zipL, w_zipT, e_max, e_min, e_and, e_sumA, e_sumAT, List.reverse_cons, List.reverse_nil, List.zip_cons_cons, List.zip_nil_left, List.zip_nil_right, subE_BadSizes_BadSizes, subE_BadSizes_BadDistance, subE_BadDistance_BadSizes, subE_BadDistance_BadDistance, e1, e2, m1]
def spaceV (q : Int) (w p : Int) : Int := if p < 0 ∨ p > w then 0 else gR q w.toNat p.toNat
theorem space_count_eq {q w p : Int} (h : q = 2 ∨ q = 3) (w0 : 0 ≤ w) (w1 : w ≤ 40) : F_space_count [.int q, .int w, .int p] = .ok false (.int (spaceV q w p)) .non := by
  unfold spaceV
  by_cases hc : p < 0 ∨ p > w
  · rw [if_pos hc]
    by_cases h1 : p < 0
    · simp only [F_space_count, B_space_count, bindR_ok, bindR_ex, a_bind, a_of_some, a_var, a_c, a_bin, a_un, a_test, a_tru, a_cmp, a_and, a_or, a_not, a_if, a_andV, a_orV, a_notV, a_bl, a_nil, a_cons, a_tup, a_lst, a_call, a_callF, a_callIO, a_seq, a_next, a_ret, a_retN, a_drop, a_break, a_cont, a_ifS, a_asg, a_asgG, a_app, a_setI, a_iter, a_rng, a_for, a_slice, a_part0, a_part1, a_lc, a_yes, l_val, l_new, l_slot, f_val, f_new, f_slot, t_val, t_new, t_slot, s_val, s_new, s_slot, a_look2, a_look1, a_fa0, a_fa1, a_la0, a_la1, a_fn1, a_fn2, a_gN, a_gs0, a_gs1, a_gT, a_turn, a_fg0, a_fg1, a_wp0, a_wp1, a_rs0, a_rs1, a_mkF, a_mkIO, a_owL, a_owD, a_tkT, a_tkF, a_apf, a_apb, a_apn, a_aps, e_addI, e_subI, e_mulI, e_divI, e_modI, e_negI, e_lt, e_le, e_gt, e_ge, e_is, e_isnot, a_lift, e_lenL, e_lenT, e_lenS, e_intI, e_intB, e_absI, e_truB, e_truI, e_truN, e_truL, e_truT, e_ixL, e_ixT, e_tupL, e_tupT, e_lstL, e_lstT, e_sum, cEq_int, cNe_int, fin, finIO, outTk, own0, isS0, entry, entryIO, atI_0, atI_1, atI_2, atI_3, Option.map_some, List.set_cons_zero, List.set_cons_succ, List.getElem?_cons_zero, List.getElem?_cons_succ, List.getElem?_nil, List.getD_cons_zero, List.getD_cons_succ, List.map_cons, List.map_nil, List.length_cons, List.length_nil, List.length_map, List.replicate, List.cons_append, List.nil_append, Nat.reduceAdd, Nat.reduceSub, Nat.reduceLeDiff, Nat.reduceLT, Nat.zero_le, Int.reduceLT, Int.reduceLE, Int.reduceEq, Int.reduceNeg, if_true, if_false, Bool.false_eq_true, Bool.true_eq_false, reduceIte, Bool.or_true, Bool.true_or, Bool.false_or, Bool.or_false, Bool.and_true, Bool.and_false, Bool.true_and, Bool.false_and, Bool.not_true, Bool.not_false, decide_true, decide_false, decide_eq_true_eq, and_self, not_true_eq_false, not_false_eq_true, ite_self, a_try_ok, a_raise0, a_raise, a_h0, a_h1, a_en0, a_en1, a_se_nx, a_se_rt, a_lv0, a_lv1, a_un0, a_un1, a_cx0, a_cx1, a_cx2, a_cx3, a_xf, a_pad, a_walk, a_rev, w_enum, w_zipL, w_zipT, e_max, e_min, e_and, e_sumA, e_sumAT, List.reverse_cons, List.reverse_nil, List.zip_cons_cons, List.zip_nil_left, List.zip_nil_right, subE_BadSizes_BadSizes, subE_BadSizes_BadDistance, subE_BadDistance_BadSizes, subE_BadDistance_BadDistance, h1]
    · have h2 : w < p := by omega
      simp only [F_space_count, B_space_count, bindR_ok, bindR_ex, a_bind, a_of_some, a_var, a_c, a_bin, a_un, a_test, a_tru, a_cmp, a_and, a_or, a_not, a_if, a_andV, a_orV, a_notV, a_bl, a_nil, a_cons, a_tup, a_lst, a_call, a_callF, a_callIO, a_seq, a_next, a_ret, a_retN, a_drop, a_break, a_cont, a_ifS, a_asg, a_asgG, a_app, a_setI, a_iter, a_rng, a_for, a_slice, a_part0, a_part1, a_lc, a_yes, l_val, l_new, l_slot, f_val, f_new, f_slot, t_val, t_new, t_slot, s_val, s_new, s_slot, a_look2, a_look1, a_fa0, a_fa1, a_la0, a_la1, a_fn1, a_fn2, a_gN, a_gs0, a_gs1, a_gT, a_turn, a_fg0, a_fg1, a_wp0, a_wp1, a_rs0, a_rs1, a_mkF, a_mkIO, a_owL, a_owD, a_tkT, a_tkF, a_apf, a_apb, a_apn, a_aps, e_addI, e_subI, e_mulI, e_divI, e_modI, e_negI, e_lt, e_le, e_gt, e_ge, e_is, e_isnot, a_lift, e_lenL, e_lenT, e_lenS, e_intI, e_intB, e_absI, e_truB, e_truI, e_truN, e_truL, e_truT, e_ixL, e_ixT, e_tupL, e_tupT, e_lstL, e_lstT, e_sum, cEq_int, cNe_int, fin, finIO, outTk, own0, isS0, entry, entryIO, atI_0, atI_1, atI_2, atI_3, Option.map_some, List.set_cons_zero, List.set_cons_succ, List.getElem?_cons_zero, List.getElem?_cons_succ, List.getElem?_nil, List.getD_cons_zero, List.getD_cons_succ, List.map_cons, List.map_nil, List.length_cons, List.length_nil, List.length_map, List.replicate, List.cons_append, List.nil_append, Nat.reduceAdd, Nat.reduceSub, Nat.reduceLeDiff, Nat.reduceLT, Nat.zero_le, Int.reduceLT, Int.reduceLE, Int.reduceEq, Int.reduceNeg, if_true, if_false, Bool.false_eq_true, Bool.true_eq_false, reduceIte, Bool.or_true, Bool.true_or, Bool.false_or, Bool.or_false, Bool.and_true, Bool.and_false, Bool.true_and, Bool.false_and, Bool.not_true, Bool.not_false, decide_true, decide_false, decide_eq_true_eq, and_self, not_true_eq_false, not_false_eq_true, ite_self, a_try_ok, a_raise0, a_raise, a_h0, a_h1, a_en0, a_en1, a_se_nx, a_se_rt, a_lv0, a_lv1, a_un0, a_un1, a_cx0, a_cx1, a_cx2, a_cx3, a_xf, a_pad, a_walk, a_rev, w_enum, w_zipL, w_zipT, e_max, e_min, e_and, e_sumA, e_sumAT, List.reverse_cons, List.reverse_nil, List.zip_cons_cons, List.zip_nil_left, List.zip_nil_right, subE_BadSizes_BadSizes, subE_BadSizes_BadDistance, subE_BadDistance_BadSizes, subE_BadDistance_BadDistance, h1, h2]
  · rw [if_neg hc]
    have p0 : 0 ≤ p := by omega
    have pw : p ≤ w := by omega
    obtain ⟨P, rfl⟩ : ∃ P : Nat, p = (P : Int) := ⟨p.toNat, by omega⟩
    obtain ⟨W, rfl⟩ : ∃ W : Nat, w = (W : Int) := ⟨w.toNat, by omega⟩
    have hr : okR (P : Int) = true := okR_of (by omega)
    have L := loop_rng (g := gN 5) (junk := [5]) (body := (mSeq (mAsg 3 (mBin dMul (mVar 3) (mBin dSub (mCallF F_power_of (mCons (mVar 0) (mCons (mBin dSub (mVar 1) (mVar 5)) mNil))) (mC (.int 1)))))
  (mAsg 4 (mBin dMul (mVar 4) (mBin dSub (mCallF F_power_of (mCons (mVar 0) (mCons (mBin dAdd (mVar 5) (mC (.int 1))) mNil))) (mC (.int 1)))))))
      (fun i => [.sh (.int q), .sh (.int W), .sh (.int P), .sh (.int (gT q W i)), .sh (.int (gB q i)), .no]) 0 P (fun i hi => by
        have e1 := power_of_eq (q100 h) (e := (W : Int) - (i : Int)) (by omega) (by omega)
        have e2 := power_of_eq (q100 h) (e := (i : Int) + 1) (by omega) (by omega)
        rw [show ((W : Int) - (i : Int)).toNat = W - i by omega] at e1
        rw [show ((i : Int) + 1).toNat = i + 1 by omega] at e2
        have m1 : mulOk (gT q W i) (q ^ (W - i) - 1) = true := mulOk2 (gT_abs h (by omega) i) (abs_sub1 (pow_pos1 (q_two h) _) (q_pow h (by omega))) (by omega)
        have m2 : mulOk (gB q i) (q ^ (i + 1) - 1) = true := mulOk2 (gB_abs h i (by omega)) (abs_sub1 (pow_pos1 (q_two h) _) (q_pow h (by omega))) (by omega)
        rw [Int.zero_add]
        exact sc_turn F_power_of q W P i _ _ _ _ e1 e2 m1 m2)
    rw [gT_0, gB_0] at L
    have hd : divOk (gB q P) = true := divOk_of (by have := gB_pos (q_two h) P; omega) (lt_two (gB_abs h P (by omega))) (by omega)
    have hq : gT q W P / gB q P = gR q W P := by
      rw [gTB]
      exact Int.mul_ediv_cancel_left _ (by have := gB_pos (q_two h) P; omega)
    simp only [F_space_count, B_space_count, bindR_ok, bindR_ex, a_bind, a_of_some, a_var, a_c, a_bin, a_un, a_test, a_tru, a_cmp, a_and, a_or, a_not, a_if, a_andV, a_orV, a_notV, a_bl, a_nil, a_cons, a_tup, a_lst, a_call, a_callF, a_callIO, a_seq, a_next, a_ret, a_retN, a_drop, a_break, a_cont, a_ifS, a_asg, a_asgG, a_app, a_setI, a_iter, a_rng, a_for, a_slice, a_part0, a_part1, a_lc, a_yes, l_val, l_new, l_slot, f_val, f_new, f_slot, t_val, t_new, t_slot, s_val, s_new, s_slot, a_look2, a_look1, a_fa0, a_fa1, a_la0, a_la1, a_fn1, a_fn2, a_gN, a_gs0, a_gs1, a_gT, a_turn, a_fg0, a_fg1, a_wp0, a_wp1, a_rs0, a_rs1, a_mkF, a_mkIO, a_owL, a_owD, a_tkT, a_tkF, a_apf, a_apb, a_apn, a_aps, e_addI, e_subI, e_mulI, e_divI, e_modI, e_negI, e_lt, e_le, e_gt, e_ge, e_is, e_isnot, a_lift, e_lenL, e_lenT, e_lenS, e_intI, e_intB, e_absI, e_truB, e_truI, e_truN, e_truL, e_truT, e_ixL, e_ixT, e_tupL, e_tupT, e_lstL, e_lstT, e_sum, cEq_int, cNe_int, fin, finIO, outTk, own0, isS0, entry, entryIO, atI_0, atI_1, atI_2, atI_3, Option.map_some, List.set_cons_zero, List.set_cons_succ, List.getElem?_cons_zero, List.getElem?_cons_succ, List.getElem?_nil, List.getD_cons_zero, List.getD_cons_succ, List.map_cons, List.map_nil, List.length_cons, List.length_nil, List.length_map, List.replicate, List.cons_append, List.nil_append, Nat.reduceAdd, Nat.reduceSub, Nat.reduceLeDiff, Nat.reduceLT, Nat.zero_le, Int.reduceLT, Int.reduceLE, Int.reduceEq, Int.reduceNeg, if_true, if_false, Bool.false_eq_true, Bool.true_eq_false, reduceIte, Bool.or_true, Bool.true_or, Bool.false_or, Bool.or_false, Bool.and_true, Bool.and_false, Bool.true_and, Bool.false_and, Bool.not_true, Bool.not_false, decide_true, decide_false, decide_eq_true_eq, and_self, not_true_eq_false, not_false_eq_true, ite_self, a_try_ok, a_raise0, a_raise, a_h0, a_h1, a_en0, a_en1, a_se_nx, a_se_rt, a_lv0, a_lv1, a_un0, a_un1, a_cx0, a_cx1, a_cx2, a_cx3, a_xf, a_pad, a_walk, a_rev, w_enum, w_zipL, w_zipT, e_max, e_min, e_and, e_sumA, e_sumAT, List.reverse_cons, List.reverse_nil, List.zip_cons_cons, List.zip_nil_left, List.zip_nil_right, subE_BadSizes_BadSizes, subE_BadSizes_BadDistance, subE_BadDistance_BadSizes, subE_BadDistance_BadDistance, hr, show ¬ ((P : Int) < 0) by omega, show ¬ ((W : Int) < (P : Int)) by omega, Int.toNat_natCast, L, hd, hq]
def tableV (q : Int) (t w r : Int) : Int := if r < 0 ∨ r > t ∨ r > w then 0 else gR q w.toNat r.toNat * gP q t.toNat r.toNat
theorem table_count_eq {q t w r : Int} (h : q = 2 ∨ q = 3) (t0 : 0 ≤ t) (t1 : t ≤ 40) (w0 : 0 ≤ w) (w1 : w ≤ 40) : F_table_count [.int q, .int t, .int w, .int r] = .ok false (.int (tableV q t w r)) .non := by
  have es := space_count_eq (p := r) h w0 w1
  unfold tableV
  by_cases hc : r < 0 ∨ r > t ∨ r > w
  · rw [if_pos hc]
    by_cases h1 : spaceV q w r = 0
    · simp only [F_table_count, B_table_count, bindR_ok, bindR_ex, a_bind, a_of_some, a_var, a_c, a_bin, a_un, a_test, a_tru, a_cmp, a_and, a_or, a_not, a_if, a_andV, a_orV, a_notV, a_bl, a_nil, a_cons, a_tup, a_lst, a_call, a_callF, a_callIO, a_seq, a_next, a_ret, a_retN, a_drop, a_break, a_cont, a_ifS, a_asg, a_asgG, a_app, a_setI, a_iter, a_rng, a_for, a_slice, a_part0, a_part1, a_lc, a_yes, l_val, l_new, l_slot, f_val, f_new, f_slot, t_val, t_new, t_slot, s_val, s_new, s_slot, a_look2, a_look1, a_fa0, a_fa1, a_la0, a_la1, a_fn1, a_fn2, a_gN, a_gs0, a_gs1, a_gT, a_turn, a_fg0, a_fg1, a_wp0, a_wp1, a_rs0, a_rs1, a_mkF, a_mkIO, a_owL, a_owD, a_tkT, a_tkF, a_apf, a_apb, a_apn, a_aps, e_addI, e_subI, e_mulI, e_divI, e_modI, e_negI, e_lt, e_le, e_gt, e_ge, e_is, e_isnot, a_lift, e_lenL, e_lenT, e_lenS, e_intI, e_intB, e_absI, e_truB, e_truI, e_truN, e_truL, e_truT, e_ixL, e_ixT, e_tupL, e_tupT, e_lstL, e_lstT, e_sum, cEq_int, cNe_int, fin, finIO, outTk, own0, isS0, entry, entryIO, atI_0, atI_1, atI_2, atI_3, Option.map_some, List.set_cons_zero, List.set_cons_succ, List.getElem?_cons_zero, List.getElem?_cons_succ, List.getElem?_nil, List.getD_cons_zero, List.getD_cons_succ, List.map_cons, List.map_nil, List.length_cons, List.length_nil, List.length_map, List.replicate, List.cons_append, List.nil_append, Nat.reduceAdd, Nat.reduceSub, Nat.reduceLeDiff, Nat.reduceLT, Nat.zero_le, Int.reduceLT, Int.reduceLE, Int.reduceEq, Int.reduceNeg, if_true, if_false, Bool.false_eq_true, Bool.true_eq_false, reduceIte, Bool.or_true, Bool.true_or, Bool.false_or, Bool.or_false, Bool.and_true, Bool.and_false, Bool.true_and, Bool.false_and, Bool.not_true, Bool.not_false, decide_true, decide_false, decide_eq_true_eq, and_self, not_true_eq_false, not_false_eq_true, ite_self, a_try_ok, a_raise0, a_raise, a_h0, a_h1, a_en0, a_en1, a_se_nx, a_se_rt, a_lv0, a_lv1, a_un0, a_un1, a_cx0, a_cx1, a_cx2, a_cx3, a_xf, a_pad, a_walk, a_rev, w_enum, w_zipL, w_zipT, e_max, e_min, e_and, e_sumA, e_sumAT, List.reverse_cons, List.reverse_nil, List.zip_cons_cons, List.zip_nil_left, List.zip_nil_right, subE_BadSizes_BadSizes, subE_BadSizes_BadDistance, subE_BadDistance_BadSizes, subE_BadDistance_BadDistance, es, h1]
    · have h2 : t < r := by
        unfold spaceV at h1
        by_cases z : r < 0 ∨ r > w
        · rw [if_pos z] at h1; exact absurd rfl h1
        · omega
      simp only [F_table_count, B_table_count, bindR_ok, bindR_ex, a_bind, a_of_some, a_var, a_c, a_bin, a_un, a_test, a_tru, a_cmp, a_and, a_or, a_not, a_if, a_andV, a_orV, a_notV, a_bl, a_nil, a_cons, a_tup, a_lst, a_call, a_callF, a_callIO, a_seq, a_next, a_ret, a_retN, a_drop, a_break, a_cont, a_ifS, a_asg, a_asgG, a_app, a_setI, a_iter, a_rng, a_for, a_slice, a_part0, a_part1, a_lc, a_yes, l_val, l_new, l_slot, f_val, f_new, f_slot, t_val, t_new, t_slot, s_val, s_new, s_slot, a_look2, a_look1, a_fa0, a_fa1, a_la0, a_la1, a_fn1, a_fn2, a_gN, a_gs0, a_gs1, a_gT, a_turn, a_fg0, a_fg1, a_wp0, a_wp1, a_rs0, a_rs1, a_mkF, a_mkIO, a_owL, a_owD, a_tkT, a_tkF, a_apf, a_apb, a_apn, a_aps, e_addI, e_subI, e_mulI, e_divI, e_modI, e_negI, e_lt, e_le, e_gt, e_ge, e_is, e_isnot, a_lift, e_lenL, e_lenT, e_lenS, e_intI, e_intB, e_absI, e_truB, e_truI, e_truN, e_truL, e_truT, e_ixL, e_ixT, e_tupL, e_tupT, e_lstL, e_lstT, e_sum, cEq_int, cNe_int, fin, finIO, outTk, own0, isS0, entry, entryIO, atI_0, atI_1, atI_2, atI_3, Option.map_some, List.set_cons_zero, List.set_cons_succ, List.getElem?_cons_zero, List.getElem?_cons_succ, List.getElem?_nil, List.getD_cons_zero, List.getD_cons_succ, List.map_cons, List.map_nil, List.length_cons, List.length_nil, List.length_map, List.replicate, List.cons_append, List.nil_append, Nat.reduceAdd, Nat.reduceSub, Nat.reduceLeDiff, Nat.reduceLT, Nat.zero_le, Int.reduceLT, Int.reduceLE, Int.reduceEq, Int.reduceNeg, if_true, if_false, Bool.false_eq_true, Bool.true_eq_false, reduceIte, Bool.or_true, Bool.true_or, Bool.false_or, Bool.or_false, Bool.and_true, Bool.and_false, Bool.true_and, Bool.false_and, Bool.not_true, Bool.not_false, decide_true, decide_false, decide_eq_true_eq, and_self, not_true_eq_false, not_false_eq_true, ite_self, a_try_ok, a_raise0, a_raise, a_h0, a_h1, a_en0, a_en1, a_se_nx, a_se_rt, a_lv0, a_lv1, a_un0, a_un1, a_cx0, a_cx1, a_cx2, a_cx3, a_xf, a_pad, a_walk, a_rev, w_enum, w_zipL, w_zipT, e_max, e_min, e_and, e_sumA, e_sumAT, List.reverse_cons, List.reverse_nil, List.zip_cons_cons, List.zip_nil_left, List.zip_nil_right, subE_BadSizes_BadSizes, subE_BadSizes_BadDistance, subE_BadDistance_BadSizes, subE_BadDistance_BadDistance, es, h1, h2]
  · rw [if_neg hc]
    obtain ⟨R, rfl⟩ : ∃ R : Nat, r = (R : Int) := ⟨r.toNat, by omega⟩
    obtain ⟨W, rfl⟩ : ∃ W : Nat, w = (W : Int) := ⟨w.toNat, by omega⟩
    obtain ⟨T, rfl⟩ : ∃ T : Nat, t = (T : Int) := ⟨t.toNat, by omega⟩
    have ev : spaceV q W R = gR q W R := by unfold spaceV; rw [if_neg (by omega)]; rfl
    have hp := gR_pos (q_two h) W R (by omega)
    have hr : okR (R : Int) = true := okR_of (by omega)
    have L := loop_rng (g := gN 5) (junk := [5]) (body := (mAsg 4 (mBin dMul (mVar 4) (mBin dSub (mCallF F_power_of (mCons (mVar 0) (mCons (mVar 1) mNil))) (mCallF F_power_of (mCons (mVar 0) (mCons (mVar 5) mNil)))))))
      (fun i => [.sh (.int q), .sh (.int T), .sh (.int W), .sh (.int R), .sh (.int (gR q W R * gP q T i)), .no]) 0 R (fun i hi => by
        have e1 := power_of_eq (q100 h) (e := (T : Int)) (by omega) (by omega)
        have e2 := power_of_eq (q100 h) (e := (i : Int)) (by omega) (by omega)
        rw [Int.toNat_natCast] at e1 e2
        have m1 : mulOk (gR q W R * gP q T i) (q ^ T - q ^ i) = true := mulOk2 (abs_mul (gR_abs h (by omega) (by omega)) (gP_abs h (by omega) i (by omega))) (abs_diff (by have := pow_pos1 (q_two h) T; omega) (by have := pow_pos1 (q_two h) i; omega) (q_pow h (show T ≤ 41 by omega)) (q_pow h (show i ≤ 41 by omega))) (by omega)
        rw [Int.zero_add, gP_s, ← Int.mul_assoc]
        exact tc_turn F_power_of q T W R i _ _ _ e1 e2 m1)
    rw [gP_0, Int.mul_one] at L
    simp only [F_table_count, B_table_count, bindR_ok, bindR_ex, a_bind, a_of_some, a_var, a_c, a_bin, a_un, a_test, a_tru, a_cmp, a_and, a_or, a_not, a_if, a_andV, a_orV, a_notV, a_bl, a_nil, a_cons, a_tup, a_lst, a_call, a_callF, a_callIO, a_seq, a_next, a_ret, a_retN, a_drop, a_break, a_cont, a_ifS, a_asg, a_asgG, a_app, a_setI, a_iter, a_rng, a_for, a_slice, a_part0, a_part1, a_lc, a_yes, l_val, l_new, l_slot, f_val, f_new, f_slot, t_val, t_new, t_slot, s_val, s_new, s_slot, a_look2, a_look1, a_fa0, a_fa1, a_la0, a_la1, a_fn1, a_fn2, a_gN, a_gs0, a_gs1, a_gT, a_turn, a_fg0, a_fg1, a_wp0, a_wp1, a_rs0, a_rs1, a_mkF, a_mkIO, a_owL, a_owD, a_tkT, a_tkF, a_apf, a_apb, a_apn, a_aps, e_addI, e_subI, e_mulI, e_divI, e_modI, e_negI, e_lt, e_le, e_gt, e_ge, e_is, e_isnot, a_lift, e_lenL, e_lenT, e_lenS, e_intI, e_intB, e_absI, e_truB, e_truI, e_truN, e_truL, e_truT, e_ixL, e_ixT, e_tupL, e_tupT, e_lstL, e_lstT, e_sum, cEq_int, cNe_int, fin, finIO, outTk, own0, isS0, entry, entryIO, atI_0, atI_1, atI_2, atI_3, Option.map_some, List.set_cons_zero, List.set_cons_succ, List.getElem?_cons_zero, List.getElem?_cons_succ, List.getElem?_nil, List.getD_cons_zero, List.getD_cons_succ, List.map_cons, List.map_nil, List.length_cons, List.length_nil, List.length_map, List.replicate, List.cons_append, List.nil_append, Nat.reduceAdd, Nat.reduceSub, Nat.reduceLeDiff, Nat.reduceLT, Nat.zero_le, Int.reduceLT, Int.reduceLE, Int.reduceEq, Int.reduceNeg, if_true, if_false, Bool.false_eq_true, Bool.true_eq_false, reduceIte, Bool.or_true, Bool.true_or, Bool.false_or, Bool.or_false, Bool.and_true, Bool.and_false, Bool.true_and, Bool.false_and, Bool.not_true, Bool.not_false, decide_true, decide_false, decide_eq_true_eq, and_self, not_true_eq_false, not_false_eq_true, ite_self, a_try_ok, a_raise0, a_raise, a_h0, a_h1, a_en0, a_en1, a_se_nx, a_se_rt, a_lv0, a_lv1, a_un0, a_un1, a_cx0, a_cx1, a_cx2, a_cx3, a_xf, a_pad, a_walk, a_rev, w_enum, w_zipL, w_zipT, e_max, e_min, e_and, e_sumA, e_sumAT, List.reverse_cons, List.reverse_nil, List.zip_cons_cons, List.zip_nil_left, List.zip_nil_right, subE_BadSizes_BadSizes, subE_BadSizes_BadDistance, subE_BadDistance_BadSizes, subE_BadDistance_BadDistance, es, ev, hr, show ¬ (gR q W R = 0) by omega, show ¬ ((T : Int) < (R : Int)) by omega, Int.toNat_natCast, L]
/-! ### the rows -/
def rowL (q : Int) (a n : Nat) : List D := (List.range n).map fun b => .int (gR q a b)
def rowD (q : Int) (a : Nat) : D := .lst (rowL q a (a + 1))
def rowsL (q : Int) (n : Nat) : List D := (List.range n).map (rowD q)
theorem rowL_s (q : Int) (a n : Nat) : rowL q a (n + 1) = rowL q a n ++ [.int (gR q a n)] := by unfold rowL; rw [List.range_succ, List.map_append]; rfl
theorem rowsL_s (q : Int) (n : Nat) : rowsL q (n + 1) = rowsL q n ++ [rowD q n] := by unfold rowsL; rw [List.range_succ, List.map_append]; rfl
theorem rowL_len (q : Int) (a n : Nat) : (rowL q a n).length = n := by unfold rowL; simp
theorem rowsL_len (q : Int) (n : Nat) : (rowsL q n).length = n := by unfold rowsL; simp
theorem at_row {q : Int} {a n b : Nat} (h : b < n) : atI (rowL q a n) (b : Int) = some (.int (gR q a b)) := atI_nat (by unfold rowL; rw [List.getElem?_map, List.getElem?_range h]; rfl)
theorem at_rows {q : Int} {n b : Nat} (h : b < n) : atI (rowsL q n) (b : Int) = some (rowD q b) := atI_nat (by unfold rowsL; rw [List.getElem?_map, List.getElem?_range h]; rfl)
theorem ixN_last {n : Nat} : ixN (n + 1) (-1) = some n := by
  unfold ixN
  rw [if_neg (by omega), if_pos (by omega)]
  congr 1; omega
theorem at_last {xs : List D} {x : D} : atI (xs ++ [x]) (-1) = some x := by
  unfold atI
  rw [List.length_append, List.length_singleton, ixN_last]
  simp
/-! ### the rows -/
theorem gs_in (FF : List D → Rf) (q m A b x y pw : Int) (rs ls row : List D) (hp : FF [.int q, .int b] = .ok false (.int pw) .non) (h1 : atI ls (b - 1) = some (.int x)) (h2 : atI ls b = some (.int y)) (m1 : mulOk pw y = true) (hl : row.length < lim) :
  turn (gN 6) [6] (mDrop (mApp 5 (mBin dAdd (mBin dIx (mVar 4) (mBin dSub (mVar 6) (mC (.int 1)))) (mBin dMul (mCallF FF (mCons (mVar 0) (mCons (mVar 6) mNil))) (mBin dIx (mVar 4) (mVar 6)))))) (.int b) [.sh (.int q), .sh (.int m), .ow (.lst rs), .sh (.int A), .sh (.lst ls), .ow (.lst row), .no] = .ok .nx [.sh (.int q), .sh (.int m), .ow (.lst rs), .sh (.int A), .sh (.lst ls), .ow (.lst (row ++ [.int (x + pw * y)])), .no] := by
  simp only [bindR_ok, bindR_ex, a_bind, a_of_some, a_var, a_c, a_bin, a_un, a_test, a_tru, a_cmp, a_and, a_or, a_not, a_if, a_andV, a_orV, a_notV, a_bl, a_nil, a_cons, a_tup, a_lst, a_call, a_callF, a_callIO, a_seq, a_next, a_ret, a_retN, a_drop, a_break, a_cont, a_ifS, a_asg, a_asgG, a_app, a_setI, a_iter, a_rng, a_for, a_slice, a_part0, a_part1, a_lc, a_yes, l_val, l_new, l_slot, f_val, f_new, f_slot, t_val, t_new, t_slot, s_val, s_new, s_slot, a_look2, a_look1, a_fa0, a_fa1, a_la0, a_la1, a_fn1, a_fn2, a_gN, a_gs0, a_gs1, a_gT, a_turn, a_fg0, a_fg1, a_wp0, a_wp1, a_rs0, a_rs1, a_mkF, a_mkIO, a_owL, a_owD, a_tkT, a_tkF, a_apf, a_apb, a_apn, a_aps, e_addI, e_subI, e_mulI, e_divI, e_modI, e_negI, e_lt, e_le, e_gt, e_ge, e_is, e_isnot, a_lift, e_lenL, e_lenT, e_lenS, e_intI, e_intB, e_absI, e_truB, e_truI, e_truN, e_truL, e_truT, e_ixL, e_ixT, e_tupL, e_tupT, e_lstL, e_lstT, e_sum, cEq_int, cNe_int, fin, finIO, outTk, own0, isS0, entry, entryIO, atI_0, atI_1, atI_2, atI_3, Option.map_some, List.set_cons_zero, List.set_cons_succ, List.getElem?_cons_zero, List.getElem?_cons_succ, List.getElem?_nil, List.getD_cons_zero, List.getD_cons_succ, List.map_cons, List.map_nil, List.length_cons, List.length_nil, List.length_map, List.replicate, List.cons_append, List.nil_append, Nat.reduceAdd, Nat.reduceSub, Nat.reduceLeDiff, Nat.reduceLT, Nat.zero_le, Int.reduceLT, Int.reduceLE, Int.reduceEq, Int.reduceNeg, if_true, if_false, Bool.false_eq_true, Bool.true_eq_false, reduceIte, Bool.or_true, Bool.true_or, Bool.false_or, Bool.or_false, Bool.and_true, Bool.and_false, Bool.true_and, Bool.false_and, Bool.not_true, Bool.not_false, decide_true, decide_false, decide_eq_true_eq, and_self, not_true_eq_false, not_false_eq_true, ite_self, a_try_ok, a_raise0, a_raise, a_h0, a_h1, a_en0, a_en1, a_se_nx, a_se_rt, a_lv0, a_lv1, a_un0, a_un1, a_cx0, a_cx1, a_cx2, a_cx3, a_xf, a_pad, a_walk, a_rev, w_enum, w_zipL, w_zipT, e_max, e_min, e_and, e_sumA, e_sumAT, List.reverse_cons, List.reverse_nil, List.zip_cons_cons, List.zip_nil_left, List.zip_nil_right, subE_BadSizes_BadSizes, subE_BadSizes_BadDistance, subE_BadDistance_BadSizes, subE_BadDistance_BadDistance, hp, h1, h2, m1, hl]
def gsBody (FF : List D → Rf) : M Fl := (mSeq (mAsg 4 (mBin dIx (mVar 2) (mBin dSub (mVar 3) (mC (.int 1)))))
  (mSeq (mAsg 5 (mLst (mCons (mC (.int 1)) mNil)))
  (mSeq (mFor (mRng (mCons (mC (.int 1)) (mCons (mVar 3) mNil))) (gN 6) [6] (mDrop (mApp 5 (mBin dAdd (mBin dIx (mVar 4) (mBin dSub (mVar 6) (mC (.int 1)))) (mBin dMul (mCallF FF (mCons (mVar 0) (mCons (mVar 6) mNil))) (mBin dIx (mVar 4) (mVar 6)))))))
  (mDrop (mApp 2 (mBin dAdd (mVar 5) (mLst (mCons (mC (.int 1)) mNil))))))))
theorem gs_turn (FF : List D → Rf) {q : Int} (h : q = 2 ∨ q = 3) (i : Nat) (hi : i < 12) (hF : ∀ j : Nat, j ≤ 12 → FF [.int q, .int (j : Int)] = .ok false (.int (q ^ j)) .non) :
  turn (gN 3) [3, 4, 5, 6] (gsBody FF) (.int (1 + (i : Int))) [.sh (.int q), .sh (.int 12), .ow (.lst (rowsL q (i + 1))), .no, .no, .no, .no] = .ok .nx [.sh (.int q), .sh (.int 12), .ow (.lst (rowsL q (i + 1 + 1))), .no, .no, .no, .no] := by
  have L := loop_rng (g := gN 6) (junk := [6]) (body := (mDrop (mApp 5 (mBin dAdd (mBin dIx (mVar 4) (mBin dSub (mVar 6) (mC (.int 1)))) (mBin dMul (mCallF FF (mCons (mVar 0) (mCons (mVar 6) mNil))) (mBin dIx (mVar 4) (mVar 6)))))))
    (fun j => [.sh (.int q), .sh (.int 12), .ow (.lst (rowsL q (i + 1))), .sh (.int (1 + (i : Int))), .sh (.lst (rowL q i (i + 1))), .ow (.lst (rowL q (i + 1) (j + 1))), .no]) 1 i (fun j hj => by
      have t := gs_in FF q 12 (1 + (i : Int)) (1 + (j : Int)) (gR q i j) (gR q i (j + 1)) (q ^ (j + 1)) (rowsL q (i + 1)) (rowL q i (i + 1)) (rowL q (i + 1) (j + 1))
        (by rw [show (1 + (j : Int)) = ((j + 1 : Nat) : Int) by omega]; exact hF _ (by omega))
        (by rw [show (1 + (j : Int) - 1) = (j : Int) by omega]; exact at_row (by omega))
        (by rw [show (1 + (j : Int)) = ((j + 1 : Nat) : Int) by omega]; exact at_row (by omega))
        (mulOk2 (q_pow h (show j + 1 ≤ 41 by omega)) (gR_abs h (by omega) (by omega)) (by omega))
        (by rw [rowL_len]; unfold lim; omega)
      rw [rowL_s q (i + 1) (j + 1), show gR q (i + 1) (j + 1) = gR q i j + q ^ (j + 1) * gR q i (j + 1) from rfl]
      exact t)
  rw [show rowL q (i + 1) (0 + 1) = [.int 1] by rw [rowL_s, gR_zero]; rfl] at L
  have hl : atI (rowsL q (i + 1)) (1 + (i : Int) - 1) = some (.lst (rowL q i (i + 1))) := by
    rw [show (1 + (i : Int) - 1) = (i : Int) by omega]
    exact at_rows (by omega)
  have ho : okR (1 + (i : Int)) = true := okR_of (by omega)
  have h1 : okR 1 = true := by decide
  have n1 : (1 + (i : Int) - 1).toNat = i := by omega
  have l1 : (rowL q (i + 1) (i + 1)).length + 1 ≤ sizeLine := by rw [rowL_len, sizeLine_eq]; omega
  have ad : dAdd (.lst (rowL q (i + 1) (i + 1))) (.lst [.int 1]) = some (.new (.lst (rowL q (i + 1) (i + 1) ++ [.int 1]))) := e_addL l1
  have l2 : (rowsL q (i + 1)).length < lim := by rw [rowsL_len]; unfold lim; omega
  have e1 : rowsL q (i + 1 + 1) = rowsL q (i + 1) ++ [.lst (rowL q (i + 1) (i + 1) ++ [.int 1])] := by
    rw [rowsL_s q (i + 1)]; unfold rowD; rw [rowL_s q (i + 1) (i + 1), gR_diag]
  rw [e1]
  simp only [gsBody, bindR_ok, bindR_ex, a_bind, a_of_some, a_var, a_c, a_bin, a_un, a_test, a_tru, a_cmp, a_and, a_or, a_not, a_if, a_andV, a_orV, a_notV, a_bl, a_nil, a_cons, a_tup, a_lst, a_call, a_callF, a_callIO, a_seq, a_next, a_ret, a_retN, a_drop, a_break, a_cont, a_ifS, a_asg, a_asgG, a_app, a_setI, a_iter, a_rng, a_for, a_slice, a_part0, a_part1, a_lc, a_yes, l_val, l_new, l_slot, f_val, f_new, f_slot, t_val, t_new, t_slot, s_val, s_new, s_slot, a_look2, a_look1, a_fa0, a_fa1, a_la0, a_la1, a_fn1, a_fn2, a_gN, a_gs0, a_gs1, a_gT, a_turn, a_fg0, a_fg1, a_wp0, a_wp1, a_rs0, a_rs1, a_mkF, a_mkIO, a_owL, a_owD, a_tkT, a_tkF, a_apf, a_apb, a_apn, a_aps, e_addI, e_subI, e_mulI, e_divI, e_modI, e_negI, e_lt, e_le, e_gt, e_ge, e_is, e_isnot, a_lift, e_lenL, e_lenT, e_lenS, e_intI, e_intB, e_absI, e_truB, e_truI, e_truN, e_truL, e_truT, e_ixL, e_ixT, e_tupL, e_tupT, e_lstL, e_lstT, e_sum, cEq_int, cNe_int, fin, finIO, outTk, own0, isS0, entry, entryIO, atI_0, atI_1, atI_2, atI_3, Option.map_some, List.set_cons_zero, List.set_cons_succ, List.getElem?_cons_zero, List.getElem?_cons_succ, List.getElem?_nil, List.getD_cons_zero, List.getD_cons_succ, List.map_cons, List.map_nil, List.length_cons, List.length_nil, List.length_map, List.replicate, List.cons_append, List.nil_append, Nat.reduceAdd, Nat.reduceSub, Nat.reduceLeDiff, Nat.reduceLT, Nat.zero_le, Int.reduceLT, Int.reduceLE, Int.reduceEq, Int.reduceNeg, if_true, if_false, Bool.false_eq_true, Bool.true_eq_false, reduceIte, Bool.or_true, Bool.true_or, Bool.false_or, Bool.or_false, Bool.and_true, Bool.and_false, Bool.true_and, Bool.false_and, Bool.not_true, Bool.not_false, decide_true, decide_false, decide_eq_true_eq, and_self, not_true_eq_false, not_false_eq_true, ite_self, a_try_ok, a_raise0, a_raise, a_h0, a_h1, a_en0, a_en1, a_se_nx, a_se_rt, a_lv0, a_lv1, a_un0, a_un1, a_cx0, a_cx1, a_cx2, a_cx3, a_xf, a_pad, a_walk, a_rev, w_enum, w_zipL, w_zipT, e_max, e_min, e_and, e_sumA, e_sumAT, List.reverse_cons, List.reverse_nil, List.zip_cons_cons, List.zip_nil_left, List.zip_nil_right, subE_BadSizes_BadSizes, subE_BadSizes_BadDistance, subE_BadDistance_BadSizes, subE_BadDistance_BadDistance, hl, ho, h1, n1, L, ad, l2]
theorem gauss_eq {q : Int} (h : q = 2 ∨ q = 3) : F__law_gauss [.int q, .int 12] = .ok true (.lst (rowsL q 13)) .non := by
  have L := loop_rng (g := gN 3) (junk := [3, 4, 5, 6]) (fun i => [.sh (.int q), .sh (.int 12), .ow (.lst (rowsL q (i + 1))), .no, .no, .no, .no]) 1 12 (fun i hi => gs_turn F__law_power h i hi fun j hj => by
    have := law_power_eq (q100 h) (e := (j : Int)) (by omega) (by omega)
    rwa [Int.toNat_natCast] at this)
  rw [show rowsL q (0 + 1) = [.lst [.int 1]] by rw [rowsL_s]; unfold rowD; rw [rowL_s, gR_zero]; rfl] at L
  unfold gsBody at L
  have h1 : okR 1 = true := by decide
  have h2 : okR 13 = true := by decide
  have n1 : ((13 : Int) - 1).toNat = 12 := by decide
  have n2 : ((12 : Int) + 1) = 13 := by decide
  simp only [F__law_gauss, B__law_gauss, bindR_ok, bindR_ex, a_bind, a_of_some, a_var, a_c, a_bin, a_un, a_test, a_tru, a_cmp, a_and, a_or, a_not, a_if, a_andV, a_orV, a_notV, a_bl, a_nil, a_cons, a_tup, a_lst, a_call, a_callF, a_callIO, a_seq, a_next, a_ret, a_retN, a_drop, a_break, a_cont, a_ifS, a_asg, a_asgG, a_app, a_setI, a_iter, a_rng, a_for, a_slice, a_part0, a_part1, a_lc, a_yes, l_val, l_new, l_slot, f_val, f_new, f_slot, t_val, t_new, t_slot, s_val, s_new, s_slot, a_look2, a_look1, a_fa0, a_fa1, a_la0, a_la1, a_fn1, a_fn2, a_gN, a_gs0, a_gs1, a_gT, a_turn, a_fg0, a_fg1, a_wp0, a_wp1, a_rs0, a_rs1, a_mkF, a_mkIO, a_owL, a_owD, a_tkT, a_tkF, a_apf, a_apb, a_apn, a_aps, e_addI, e_subI, e_mulI, e_divI, e_modI, e_negI, e_lt, e_le, e_gt, e_ge, e_is, e_isnot, a_lift, e_lenL, e_lenT, e_lenS, e_intI, e_intB, e_absI, e_truB, e_truI, e_truN, e_truL, e_truT, e_ixL, e_ixT, e_tupL, e_tupT, e_lstL, e_lstT, e_sum, cEq_int, cNe_int, fin, finIO, outTk, own0, isS0, entry, entryIO, atI_0, atI_1, atI_2, atI_3, Option.map_some, List.set_cons_zero, List.set_cons_succ, List.getElem?_cons_zero, List.getElem?_cons_succ, List.getElem?_nil, List.getD_cons_zero, List.getD_cons_succ, List.map_cons, List.map_nil, List.length_cons, List.length_nil, List.length_map, List.replicate, List.cons_append, List.nil_append, Nat.reduceAdd, Nat.reduceSub, Nat.reduceLeDiff, Nat.reduceLT, Nat.zero_le, Int.reduceLT, Int.reduceLE, Int.reduceEq, Int.reduceNeg, if_true, if_false, Bool.false_eq_true, Bool.true_eq_false, reduceIte, Bool.or_true, Bool.true_or, Bool.false_or, Bool.or_false, Bool.and_true, Bool.and_false, Bool.true_and, Bool.false_and, Bool.not_true, Bool.not_false, decide_true, decide_false, decide_eq_true_eq, and_self, not_true_eq_false, not_false_eq_true, ite_self, a_try_ok, a_raise0, a_raise, a_h0, a_h1, a_en0, a_en1, a_se_nx, a_se_rt, a_lv0, a_lv1, a_un0, a_un1, a_cx0, a_cx1, a_cx2, a_cx3, a_xf, a_pad, a_walk, a_rev, w_enum, w_zipL, w_zipT, e_max, e_min, e_and, e_sumA, e_sumAT, List.reverse_cons, List.reverse_nil, List.zip_cons_cons, List.zip_nil_left, List.zip_nil_right, subE_BadSizes_BadSizes, subE_BadSizes_BadDistance, subE_BadDistance_BadSizes, subE_BadDistance_BadDistance, h1, n2, h2, n1, L]
/-! ### checks of arguments -/
theorem whole_int (i lo hi : Int) : F_is_whole [.int i, .int lo, .int hi] = .ok false (.bl (decide (lo ≤ i ∧ i ≤ hi))) .non := by
  have i1 : dIsi sub0 [] (.int i) (.ty "int") = some (.val (.bl true)) := rfl
  have i2 : dIsi sub0 [] (.int i) (.ty "bool") = some (.val (.bl false)) := rfl
  have n1 : D.isN (.int lo) = false := rfl
  have n2 : D.isN (.int hi) = false := rfl
  by_cases c : i < lo
  · rw [decide_eq_false (by omega)]
    simp only [F_is_whole, B_is_whole, bindR_ok, bindR_ex, a_bind, a_of_some, a_var, a_c, a_bin, a_un, a_test, a_tru, a_cmp, a_and, a_or, a_not, a_if, a_andV, a_orV, a_notV, a_bl, a_nil, a_cons, a_tup, a_lst, a_call, a_callF, a_callIO, a_seq, a_next, a_ret, a_retN, a_drop, a_break, a_cont, a_ifS, a_asg, a_asgG, a_app, a_setI, a_iter, a_rng, a_for, a_slice, a_part0, a_part1, a_lc, a_yes, l_val, l_new, l_slot, f_val, f_new, f_slot, t_val, t_new, t_slot, s_val, s_new, s_slot, a_look2, a_look1, a_fa0, a_fa1, a_la0, a_la1, a_fn1, a_fn2, a_gN, a_gs0, a_gs1, a_gT, a_turn, a_fg0, a_fg1, a_wp0, a_wp1, a_rs0, a_rs1, a_mkF, a_mkIO, a_owL, a_owD, a_tkT, a_tkF, a_apf, a_apb, a_apn, a_aps, e_addI, e_subI, e_mulI, e_divI, e_modI, e_negI, e_lt, e_le, e_gt, e_ge, e_is, e_isnot, a_lift, e_lenL, e_lenT, e_lenS, e_intI, e_intB, e_absI, e_truB, e_truI, e_truN, e_truL, e_truT, e_ixL, e_ixT, e_tupL, e_tupT, e_lstL, e_lstT, e_sum, cEq_int, cNe_int, fin, finIO, outTk, own0, isS0, entry, entryIO, atI_0, atI_1, atI_2, atI_3, Option.map_some, List.set_cons_zero, List.set_cons_succ, List.getElem?_cons_zero, List.getElem?_cons_succ, List.getElem?_nil, List.getD_cons_zero, List.getD_cons_succ, List.map_cons, List.map_nil, List.length_cons, List.length_nil, List.length_map, List.replicate, List.cons_append, List.nil_append, Nat.reduceAdd, Nat.reduceSub, Nat.reduceLeDiff, Nat.reduceLT, Nat.zero_le, Int.reduceLT, Int.reduceLE, Int.reduceEq, Int.reduceNeg, if_true, if_false, Bool.false_eq_true, Bool.true_eq_false, reduceIte, Bool.or_true, Bool.true_or, Bool.false_or, Bool.or_false, Bool.and_true, Bool.and_false, Bool.true_and, Bool.false_and, Bool.not_true, Bool.not_false, decide_true, decide_false, decide_eq_true_eq, and_self, not_true_eq_false, not_false_eq_true, ite_self, a_try_ok, a_raise0, a_raise, a_h0, a_h1, a_en0, a_en1, a_se_nx, a_se_rt, a_lv0, a_lv1, a_un0, a_un1, a_cx0, a_cx1, a_cx2, a_cx3, a_xf, a_pad, a_walk, a_rev, w_enum, w_zipL, w_zipT, e_max, e_min, e_and, e_sumA, e_sumAT, List.reverse_cons, List.reverse_nil, List.zip_cons_cons, List.zip_nil_left, List.zip_nil_right, subE_BadSizes_BadSizes, subE_BadSizes_BadDistance, subE_BadDistance_BadSizes, subE_BadDistance_BadDistance, i1, i2, n1, n2, c]
  · by_cases c2 : i ≤ hi
    · rw [decide_eq_true (by omega)]
      simp only [F_is_whole, B_is_whole, bindR_ok, bindR_ex, a_bind, a_of_some, a_var, a_c, a_bin, a_un, a_test, a_tru, a_cmp, a_and, a_or, a_not, a_if, a_andV, a_orV, a_notV, a_bl, a_nil, a_cons, a_tup, a_lst, a_call, a_callF, a_callIO, a_seq, a_next, a_ret, a_retN, a_drop, a_break, a_cont, a_ifS, a_asg, a_asgG, a_app, a_setI, a_iter, a_rng, a_for, a_slice, a_part0, a_part1, a_lc, a_yes, l_val, l_new, l_slot, f_val, f_new, f_slot, t_val, t_new, t_slot, s_val, s_new, s_slot, a_look2, a_look1, a_fa0, a_fa1, a_la0, a_la1, a_fn1, a_fn2, a_gN, a_gs0, a_gs1, a_gT, a_turn, a_fg0, a_fg1, a_wp0, a_wp1, a_rs0, a_rs1, a_mkF, a_mkIO, a_owL, a_owD, a_tkT, a_tkF, a_apf, a_apb, a_apn, a_aps, e_addI, e_subI, e_mulI, e_divI, e_modI, e_negI, e_lt, e_le, e_gt, e_ge, e_is, e_isnot, a_lift, e_lenL, e_lenT, e_lenS, e_intI, e_intB, e_absI, e_truB, e_truI, e_truN, e_truL, e_truT, e_ixL, e_ixT, e_tupL, e_tupT, e_lstL, e_lstT, e_sum, cEq_int, cNe_int, fin, finIO, outTk, own0, isS0, entry, entryIO, atI_0, atI_1, atI_2, atI_3, Option.map_some, List.set_cons_zero, List.set_cons_succ, List.getElem?_cons_zero, List.getElem?_cons_succ, List.getElem?_nil, List.getD_cons_zero, List.getD_cons_succ, List.map_cons, List.map_nil, List.length_cons, List.length_nil, List.length_map, List.replicate, List.cons_append, List.nil_append, Nat.reduceAdd, Nat.reduceSub, Nat.reduceLeDiff, Nat.reduceLT, Nat.zero_le, Int.reduceLT, Int.reduceLE, Int.reduceEq, Int.reduceNeg, if_true, if_false, Bool.false_eq_true, Bool.true_eq_false, reduceIte, Bool.or_true, Bool.true_or, Bool.false_or, Bool.or_false, Bool.and_true, Bool.and_false, Bool.true_and, Bool.false_and, Bool.not_true, Bool.not_false, decide_true, decide_false, decide_eq_true_eq, and_self, not_true_eq_false, not_false_eq_true, ite_self, a_try_ok, a_raise0, a_raise, a_h0, a_h1, a_en0, a_en1, a_se_nx, a_se_rt, a_lv0, a_lv1, a_un0, a_un1, a_cx0, a_cx1, a_cx2, a_cx3, a_xf, a_pad, a_walk, a_rev, w_enum, w_zipL, w_zipT, e_max, e_min, e_and, e_sumA, e_sumAT, List.reverse_cons, List.reverse_nil, List.zip_cons_cons, List.zip_nil_left, List.zip_nil_right, subE_BadSizes_BadSizes, subE_BadSizes_BadDistance, subE_BadDistance_BadSizes, subE_BadDistance_BadDistance, i1, i2, n1, n2, c, c2]
    · rw [decide_eq_false (by omega)]
      simp only [F_is_whole, B_is_whole, bindR_ok, bindR_ex, a_bind, a_of_some, a_var, a_c, a_bin, a_un, a_test, a_tru, a_cmp, a_and, a_or, a_not, a_if, a_andV, a_orV, a_notV, a_bl, a_nil, a_cons, a_tup, a_lst, a_call, a_callF, a_callIO, a_seq, a_next, a_ret, a_retN, a_drop, a_break, a_cont, a_ifS, a_asg, a_asgG, a_app, a_setI, a_iter, a_rng, a_for, a_slice, a_part0, a_part1, a_lc, a_yes, l_val, l_new, l_slot, f_val, f_new, f_slot, t_val, t_new, t_slot, s_val, s_new, s_slot, a_look2, a_look1, a_fa0, a_fa1, a_la0, a_la1, a_fn1, a_fn2, a_gN, a_gs0, a_gs1, a_gT, a_turn, a_fg0, a_fg1, a_wp0, a_wp1, a_rs0, a_rs1, a_mkF, a_mkIO, a_owL, a_owD, a_tkT, a_tkF, a_apf, a_apb, a_apn, a_aps, e_addI, e_subI, e_mulI, e_divI, e_modI, e_negI, e_lt, e_le, e_gt, e_ge, e_is, e_isnot, a_lift, e_lenL, e_lenT, e_lenS, e_intI, e_intB, e_absI, e_truB, e_truI, e_truN, e_truL, e_truT, e_ixL, e_ixT, e_tupL, e_tupT, e_lstL, e_lstT, e_sum, cEq_int, cNe_int, fin, finIO, outTk, own0, isS0, entry, entryIO, atI_0, atI_1, atI_2, atI_3, Option.map_some, List.set_cons_zero, List.set_cons_succ, List.getElem?_cons_zero, List.getElem?_cons_succ, List.getElem?_nil, List.getD_cons_zero, List.getD_cons_succ, List.map_cons, List.map_nil, List.length_cons, List.length_nil, List.length_map, List.replicate, List.cons_append, List.nil_append, Nat.reduceAdd, Nat.reduceSub, Nat.reduceLeDiff, Nat.reduceLT, Nat.zero_le, Int.reduceLT, Int.reduceLE, Int.reduceEq, Int.reduceNeg, if_true, if_false, Bool.false_eq_true, Bool.true_eq_false, reduceIte, Bool.or_true, Bool.true_or, Bool.false_or, Bool.or_false, Bool.and_true, Bool.and_false, Bool.true_and, Bool.false_and, Bool.not_true, Bool.not_false, decide_true, decide_false, decide_eq_true_eq, and_self, not_true_eq_false, not_false_eq_true, ite_self, a_try_ok, a_raise0, a_raise, a_h0, a_h1, a_en0, a_en1, a_se_nx, a_se_rt, a_lv0, a_lv1, a_un0, a_un1, a_cx0, a_cx1, a_cx2, a_cx3, a_xf, a_pad, a_walk, a_rev, w_enum, w_zipL, w_zipT, e_max, e_min, e_and, e_sumA, e_sumAT, List.reverse_cons, List.reverse_nil, List.zip_cons_cons, List.zip_nil_left, List.zip_nil_right, subE_BadSizes_BadSizes, subE_BadSizes_BadDistance, subE_BadDistance_BadSizes, subE_BadDistance_BadDistance, i1, i2, n1, n2, c, c2]
/-- what is_whole says of d -/
def W (d : D) (lo hi : Int) (b : Bool) : Prop := F_is_whole [d, .int lo, .int hi] = .ok false (.bl b) .non
theorem W_good {i lo hi : Int} (h1 : lo ≤ i) (h2 : i ≤ hi) : W (.int i) lo hi true := by unfold W; rw [whole_int, decide_eq_true ⟨h1, h2⟩]
theorem W_bad {i lo hi : Int} (h : ¬ (lo ≤ i ∧ i ≤ hi)) : W (.int i) lo hi false := by unfold W; rw [whole_int, decide_eq_false h]
theorem W_bl {b : Bool} {lo hi : Int} : W (.bl b) lo hi false := by unfold W; rfl
theorem W_non {lo hi : Int} : W .non lo hi false := by unfold W; rfl
theorem W_str {s : Str} {lo hi : Int} : W (.str s) lo hi false := by unfold W; rfl
theorem W_lst {xs : List D} {lo hi : Int} : W (.lst xs) lo hi false := by unfold W; rfl
def sizesX (b1 b2 b3 : Bool) : Rf := if b1 = false then .ex 0 ["what"] [.str "prime"] .non else if b2 = false then .ex 0 ["what"] [.str "degree"] .non else if b3 = false then .ex 0 ["what"] [.str "columns"] .non else .ok false .non .non
theorem check_eq {p m n : D} {b1 b2 b3 : Bool} (h1 : W p 2 3 b1) (h2 : W m 1 12 b2) (h3 : W n 1 12 b3) : F_check_sizes [p, m, n] = sizesX b1 b2 b3 := by
  unfold W at h1 h2 h3
  unfold sizesX
  cases b1
  · simp only [F_check_sizes, B_check_sizes, bindR_ok, bindR_ex, a_bind, a_of_some, a_var, a_c, a_bin, a_un, a_test, a_tru, a_cmp, a_and, a_or, a_not, a_if, a_andV, a_orV, a_notV, a_bl, a_nil, a_cons, a_tup, a_lst, a_call, a_callF, a_callIO, a_seq, a_next, a_ret, a_retN, a_drop, a_break, a_cont, a_ifS, a_asg, a_asgG, a_app, a_setI, a_iter, a_rng, a_for, a_slice, a_part0, a_part1, a_lc, a_yes, l_val, l_new, l_slot, f_val, f_new, f_slot, t_val, t_new, t_slot, s_val, s_new, s_slot, a_look2, a_look1, a_fa0, a_fa1, a_la0, a_la1, a_fn1, a_fn2, a_gN, a_gs0, a_gs1, a_gT, a_turn, a_fg0, a_fg1, a_wp0, a_wp1, a_rs0, a_rs1, a_mkF, a_mkIO, a_owL, a_owD, a_tkT, a_tkF, a_apf, a_apb, a_apn, a_aps, e_addI, e_subI, e_mulI, e_divI, e_modI, e_negI, e_lt, e_le, e_gt, e_ge, e_is, e_isnot, a_lift, e_lenL, e_lenT, e_lenS, e_intI, e_intB, e_absI, e_truB, e_truI, e_truN, e_truL, e_truT, e_ixL, e_ixT, e_tupL, e_tupT, e_lstL, e_lstT, e_sum, cEq_int, cNe_int, fin, finIO, outTk, own0, isS0, entry, entryIO, atI_0, atI_1, atI_2, atI_3, Option.map_some, List.set_cons_zero, List.set_cons_succ, List.getElem?_cons_zero, List.getElem?_cons_succ, List.getElem?_nil, List.getD_cons_zero, List.getD_cons_succ, List.map_cons, List.map_nil, List.length_cons, List.length_nil, List.length_map, List.replicate, List.cons_append, List.nil_append, Nat.reduceAdd, Nat.reduceSub, Nat.reduceLeDiff, Nat.reduceLT, Nat.zero_le, Int.reduceLT, Int.reduceLE, Int.reduceEq, Int.reduceNeg, if_true, if_false, Bool.false_eq_true, Bool.true_eq_false, reduceIte, Bool.or_true, Bool.true_or, Bool.false_or, Bool.or_false, Bool.and_true, Bool.and_false, Bool.true_and, Bool.false_and, Bool.not_true, Bool.not_false, decide_true, decide_false, decide_eq_true_eq, and_self, not_true_eq_false, not_false_eq_true, ite_self, a_try_ok, a_raise0, a_raise, a_h0, a_h1, a_en0, a_en1, a_se_nx, a_se_rt, a_lv0, a_lv1, a_un0, a_un1, a_cx0, a_cx1, a_cx2, a_cx3, a_xf, a_pad, a_walk, a_rev, w_enum, w_zipL, w_zipT, e_max, e_min, e_and, e_sumA, e_sumAT, List.reverse_cons, List.reverse_nil, List.zip_cons_cons, List.zip_nil_left, List.zip_nil_right, subE_BadSizes_BadSizes, subE_BadSizes_BadDistance, subE_BadDistance_BadSizes, subE_BadDistance_BadDistance, h1]
  · cases b2
    · simp only [F_check_sizes, B_check_sizes, bindR_ok, bindR_ex, a_bind, a_of_some, a_var, a_c, a_bin, a_un, a_test, a_tru, a_cmp, a_and, a_or, a_not, a_if, a_andV, a_orV, a_notV, a_bl, a_nil, a_cons, a_tup, a_lst, a_call, a_callF, a_callIO, a_seq, a_next, a_ret, a_retN, a_drop, a_break, a_cont, a_ifS, a_asg, a_asgG, a_app, a_setI, a_iter, a_rng, a_for, a_slice, a_part0, a_part1, a_lc, a_yes, l_val, l_new, l_slot, f_val, f_new, f_slot, t_val, t_new, t_slot, s_val, s_new, s_slot, a_look2, a_look1, a_fa0, a_fa1, a_la0, a_la1, a_fn1, a_fn2, a_gN, a_gs0, a_gs1, a_gT, a_turn, a_fg0, a_fg1, a_wp0, a_wp1, a_rs0, a_rs1, a_mkF, a_mkIO, a_owL, a_owD, a_tkT, a_tkF, a_apf, a_apb, a_apn, a_aps, e_addI, e_subI, e_mulI, e_divI, e_modI, e_negI, e_lt, e_le, e_gt, e_ge, e_is, e_isnot, a_lift, e_lenL, e_lenT, e_lenS, e_intI, e_intB, e_absI, e_truB, e_truI, e_truN, e_truL, e_truT, e_ixL, e_ixT, e_tupL, e_tupT, e_lstL, e_lstT, e_sum, cEq_int, cNe_int, fin, finIO, outTk, own0, isS0, entry, entryIO, atI_0, atI_1, atI_2, atI_3, Option.map_some, List.set_cons_zero, List.set_cons_succ, List.getElem?_cons_zero, List.getElem?_cons_succ, List.getElem?_nil, List.getD_cons_zero, List.getD_cons_succ, List.map_cons, List.map_nil, List.length_cons, List.length_nil, List.length_map, List.replicate, List.cons_append, List.nil_append, Nat.reduceAdd, Nat.reduceSub, Nat.reduceLeDiff, Nat.reduceLT, Nat.zero_le, Int.reduceLT, Int.reduceLE, Int.reduceEq, Int.reduceNeg, if_true, if_false, Bool.false_eq_true, Bool.true_eq_false, reduceIte, Bool.or_true, Bool.true_or, Bool.false_or, Bool.or_false, Bool.and_true, Bool.and_false, Bool.true_and, Bool.false_and, Bool.not_true, Bool.not_false, decide_true, decide_false, decide_eq_true_eq, and_self, not_true_eq_false, not_false_eq_true, ite_self, a_try_ok, a_raise0, a_raise, a_h0, a_h1, a_en0, a_en1, a_se_nx, a_se_rt, a_lv0, a_lv1, a_un0, a_un1, a_cx0, a_cx1, a_cx2, a_cx3, a_xf, a_pad, a_walk, a_rev, w_enum, w_zipL, w_zipT, e_max, e_min, e_and, e_sumA, e_sumAT, List.reverse_cons, List.reverse_nil, List.zip_cons_cons, List.zip_nil_left, List.zip_nil_right, subE_BadSizes_BadSizes, subE_BadSizes_BadDistance, subE_BadDistance_BadSizes, subE_BadDistance_BadDistance, h1, h2]
    · cases b3
      · simp only [F_check_sizes, B_check_sizes, bindR_ok, bindR_ex, a_bind, a_of_some, a_var, a_c, a_bin, a_un, a_test, a_tru, a_cmp, a_and, a_or, a_not, a_if, a_andV, a_orV, a_notV, a_bl, a_nil, a_cons, a_tup, a_lst, a_call, a_callF, a_callIO, a_seq, a_next, a_ret, a_retN, a_drop, a_break, a_cont, a_ifS, a_asg, a_asgG, a_app, a_setI, a_iter, a_rng, a_for, a_slice, a_part0, a_part1, a_lc, a_yes, l_val, l_new, l_slot, f_val, f_new, f_slot, t_val, t_new, t_slot, s_val, s_new, s_slot, a_look2, a_look1, a_fa0, a_fa1, a_la0, a_la1, a_fn1, a_fn2, a_gN, a_gs0, a_gs1, a_gT, a_turn, a_fg0, a_fg1, a_wp0, a_wp1, a_rs0, a_rs1, a_mkF, a_mkIO, a_owL, a_owD, a_tkT, a_tkF, a_apf, a_apb, a_apn, a_aps, e_addI, e_subI, e_mulI, e_divI, e_modI, e_negI, e_lt, e_le, e_gt, e_ge, e_is, e_isnot, a_lift, e_lenL, e_lenT, e_lenS, e_intI, e_intB, e_absI, e_truB, e_truI, e_truN, e_truL, e_truT, e_ixL, e_ixT, e_tupL, e_tupT, e_lstL, e_lstT, e_sum, cEq_int, cNe_int, fin, finIO, outTk, own0, isS0, entry, entryIO, atI_0, atI_1, atI_2, atI_3, Option.map_some, List.set_cons_zero, List.set_cons_succ, List.getElem?_cons_zero, List.getElem?_cons_succ, List.getElem?_nil, List.getD_cons_zero, List.getD_cons_succ, List.map_cons, List.map_nil, List.length_cons, List.length_nil, List.length_map, List.replicate, List.cons_append, List.nil_append, Nat.reduceAdd, Nat.reduceSub, Nat.reduceLeDiff, Nat.reduceLT, Nat.zero_le, Int.reduceLT, Int.reduceLE, Int.reduceEq, Int.reduceNeg, if_true, if_false, Bool.false_eq_true, Bool.true_eq_false, reduceIte, Bool.or_true, Bool.true_or, Bool.false_or, Bool.or_false, Bool.and_true, Bool.and_false, Bool.true_and, Bool.false_and, Bool.not_true, Bool.not_false, decide_true, decide_false, decide_eq_true_eq, and_self, not_true_eq_false, not_false_eq_true, ite_self, a_try_ok, a_raise0, a_raise, a_h0, a_h1, a_en0, a_en1, a_se_nx, a_se_rt, a_lv0, a_lv1, a_un0, a_un1, a_cx0, a_cx1, a_cx2, a_cx3, a_xf, a_pad, a_walk, a_rev, w_enum, w_zipL, w_zipT, e_max, e_min, e_and, e_sumA, e_sumAT, List.reverse_cons, List.reverse_nil, List.zip_cons_cons, List.zip_nil_left, List.zip_nil_right, subE_BadSizes_BadSizes, subE_BadSizes_BadDistance, subE_BadDistance_BadSizes, subE_BadDistance_BadDistance, h1, h2, h3]
      · simp only [F_check_sizes, B_check_sizes, bindR_ok, bindR_ex, a_bind, a_of_some, a_var, a_c, a_bin, a_un, a_test, a_tru, a_cmp, a_and, a_or, a_not, a_if, a_andV, a_orV, a_notV, a_bl, a_nil, a_cons, a_tup, a_lst, a_call, a_callF, a_callIO, a_seq, a_next, a_ret, a_retN, a_drop, a_break, a_cont, a_ifS, a_asg, a_asgG, a_app, a_setI, a_iter, a_rng, a_for, a_slice, a_part0, a_part1, a_lc, a_yes, l_val, l_new, l_slot, f_val, f_new, f_slot, t_val, t_new, t_slot, s_val, s_new, s_slot, a_look2, a_look1, a_fa0, a_fa1, a_la0, a_la1, a_fn1, a_fn2, a_gN, a_gs0, a_gs1, a_gT, a_turn, a_fg0, a_fg1, a_wp0, a_wp1, a_rs0, a_rs1, a_mkF, a_mkIO, a_owL, a_owD, a_tkT, a_tkF, a_apf, a_apb, a_apn, a_aps, e_addI, e_subI, e_mulI, e_divI, e_modI, e_negI, e_lt, e_le, e_gt, e_ge, e_is, e_isnot, a_lift, e_lenL, e_lenT, e_lenS, e_intI, e_intB, e_absI, e_truB, e_truI, e_truN, e_truL, e_truT, e_ixL, e_ixT, e_tupL, e_tupT, e_lstL, e_lstT, e_sum, cEq_int, cNe_int, fin, finIO, outTk, own0, isS0, entry, entryIO, atI_0, atI_1, atI_2, atI_3, Option.map_some, List.set_cons_zero, List.set_cons_succ, List.getElem?_cons_zero, List.getElem?_cons_succ, List.getElem?_nil, List.getD_cons_zero, List.getD_cons_succ, List.map_cons, List.map_nil, List.length_cons, List.length_nil, List.length_map, List.replicate, List.cons_append, List.nil_append, Nat.reduceAdd, Nat.reduceSub, Nat.reduceLeDiff, Nat.reduceLT, Nat.zero_le, Int.reduceLT, Int.reduceLE, Int.reduceEq, Int.reduceNeg, if_true, if_false, Bool.false_eq_true, Bool.true_eq_false, reduceIte, Bool.or_true, Bool.true_or, Bool.false_or, Bool.or_false, Bool.and_true, Bool.and_false, Bool.true_and, Bool.false_and, Bool.not_true, Bool.not_false, decide_true, decide_false, decide_eq_true_eq, and_self, not_true_eq_false, not_false_eq_true, ite_self, a_try_ok, a_raise0, a_raise, a_h0, a_h1, a_en0, a_en1, a_se_nx, a_se_rt, a_lv0, a_lv1, a_un0, a_un1, a_cx0, a_cx1, a_cx2, a_cx3, a_xf, a_pad, a_walk, a_rev, w_enum, w_zipL, w_zipT, e_max, e_min, e_and, e_sumA, e_sumAT, List.reverse_cons, List.reverse_nil, List.zip_cons_cons, List.zip_nil_left, List.zip_nil_right, subE_BadSizes_BadSizes, subE_BadSizes_BadDistance, subE_BadDistance_BadSizes, subE_BadDistance_BadDistance, h1, h2, h3]
/-! ### words of a rank -/
theorem flat_s {s : Str} : ([D.str s] : List D).all D.flat = true := rfl
theorem flat_0 : ([] : List D).all D.flat = true := rfl
theorem in_xs0 : (0 ∈ xs_0) = True := by decide
theorem look_what {d : D} : List.lookup ("what" : Str) ([(("what" : Str), d)] : List (Str × D)) = some d := by rw [look_put, if_pos rfl]
theorem table_nn {q t w r : Int} (h : q = 2 ∨ q = 3) (t0 : 0 ≤ t) (t1 : t ≤ 40) (w0 : 0 ≤ w) (w1 : w ≤ 40) : F_table_count [.int q, .int t, .int w, .int r] = .ok false (.int (tableV q t w r)) .non := table_count_eq h t0 t1 w0 w1
theorem wor_ex {p m n r : D} {c : Nat} {ns : List Str} {s : Str} (h : F_check_sizes [p, m, n] = .ex c ns [.str s] .non) : F_words_of_rank [p, m, n, r] = .ex c ns [.str s] .non := by
  simp only [F_words_of_rank, B_words_of_rank, bindR_ok, bindR_ex, a_bind, a_of_some, a_var, a_c, a_bin, a_un, a_test, a_tru, a_cmp, a_and, a_or, a_not, a_if, a_andV, a_orV, a_notV, a_bl, a_nil, a_cons, a_tup, a_lst, a_call, a_callF, a_callIO, a_seq, a_next, a_ret, a_retN, a_drop, a_break, a_cont, a_ifS, a_asg, a_asgG, a_app, a_setI, a_iter, a_rng, a_for, a_slice, a_part0, a_part1, a_lc, a_yes, l_val, l_new, l_slot, f_val, f_new, f_slot, t_val, t_new, t_slot, s_val, s_new, s_slot, a_look2, a_look1, a_fa0, a_fa1, a_la0, a_la1, a_fn1, a_fn2, a_gN, a_gs0, a_gs1, a_gT, a_turn, a_fg0, a_fg1, a_wp0, a_wp1, a_rs0, a_rs1, a_mkF, a_mkIO, a_owL, a_owD, a_tkT, a_tkF, a_apf, a_apb, a_apn, a_aps, e_addI, e_subI, e_mulI, e_divI, e_modI, e_negI, e_lt, e_le, e_gt, e_ge, e_is, e_isnot, a_lift, e_lenL, e_lenT, e_lenS, e_intI, e_intB, e_absI, e_truB, e_truI, e_truN, e_truL, e_truT, e_ixL, e_ixT, e_tupL, e_tupT, e_lstL, e_lstT, e_sum, cEq_int, cNe_int, fin, finIO, outTk, own0, isS0, entry, entryIO, atI_0, atI_1, atI_2, atI_3, Option.map_some, List.set_cons_zero, List.set_cons_succ, List.getElem?_cons_zero, List.getElem?_cons_succ, List.getElem?_nil, List.getD_cons_zero, List.getD_cons_succ, List.map_cons, List.map_nil, List.length_cons, List.length_nil, List.length_map, List.replicate, List.cons_append, List.nil_append, Nat.reduceAdd, Nat.reduceSub, Nat.reduceLeDiff, Nat.reduceLT, Nat.zero_le, Int.reduceLT, Int.reduceLE, Int.reduceEq, Int.reduceNeg, if_true, if_false, Bool.false_eq_true, Bool.true_eq_false, reduceIte, Bool.or_true, Bool.true_or, Bool.false_or, Bool.or_false, Bool.and_true, Bool.and_false, Bool.true_and, Bool.false_and, Bool.not_true, Bool.not_false, decide_true, decide_false, decide_eq_true_eq, and_self, not_true_eq_false, not_false_eq_true, ite_self, a_try_ok, a_raise0, a_raise, a_h0, a_h1, a_en0, a_en1, a_se_nx, a_se_rt, a_lv0, a_lv1, a_un0, a_un1, a_cx0, a_cx1, a_cx2, a_cx3, a_xf, a_pad, a_walk, a_rev, w_enum, w_zipL, w_zipT, e_max, e_min, e_and, e_sumA, e_sumAT, List.reverse_cons, List.reverse_nil, List.zip_cons_cons, List.zip_nil_left, List.zip_nil_right, subE_BadSizes_BadSizes, subE_BadSizes_BadDistance, subE_BadDistance_BadSizes, subE_BadDistance_BadDistance, h, flat_s]
theorem told_sizes {p m n r : D} {s : Str} (h : F_words_of_rank [p, m, n, r] = .ex 0 ["what"] [.str s] .non) : F__law_words_told [p, m, n, r] = .ok false (.tup [.str "sizes", .str s]) .non := by
  simp only [F__law_words_told, B__law_words_told, bindR_ok, bindR_ex, a_bind, a_of_some, a_var, a_c, a_bin, a_un, a_test, a_tru, a_cmp, a_and, a_or, a_not, a_if, a_andV, a_orV, a_notV, a_bl, a_nil, a_cons, a_tup, a_lst, a_call, a_callF, a_callIO, a_seq, a_next, a_ret, a_retN, a_drop, a_break, a_cont, a_ifS, a_asg, a_asgG, a_app, a_setI, a_iter, a_rng, a_for, a_slice, a_part0, a_part1, a_lc, a_yes, l_val, l_new, l_slot, f_val, f_new, f_slot, t_val, t_new, t_slot, s_val, s_new, s_slot, a_look2, a_look1, a_fa0, a_fa1, a_la0, a_la1, a_fn1, a_fn2, a_gN, a_gs0, a_gs1, a_gT, a_turn, a_fg0, a_fg1, a_wp0, a_wp1, a_rs0, a_rs1, a_mkF, a_mkIO, a_owL, a_owD, a_tkT, a_tkF, a_apf, a_apb, a_apn, a_aps, e_addI, e_subI, e_mulI, e_divI, e_modI, e_negI, e_lt, e_le, e_gt, e_ge, e_is, e_isnot, a_lift, e_lenL, e_lenT, e_lenS, e_intI, e_intB, e_absI, e_truB, e_truI, e_truN, e_truL, e_truT, e_ixL, e_ixT, e_tupL, e_tupT, e_lstL, e_lstT, e_sum, cEq_int, cNe_int, fin, finIO, outTk, own0, isS0, entry, entryIO, atI_0, atI_1, atI_2, atI_3, Option.map_some, List.set_cons_zero, List.set_cons_succ, List.getElem?_cons_zero, List.getElem?_cons_succ, List.getElem?_nil, List.getD_cons_zero, List.getD_cons_succ, List.map_cons, List.map_nil, List.length_cons, List.length_nil, List.length_map, List.replicate, List.cons_append, List.nil_append, Nat.reduceAdd, Nat.reduceSub, Nat.reduceLeDiff, Nat.reduceLT, Nat.zero_le, Int.reduceLT, Int.reduceLE, Int.reduceEq, Int.reduceNeg, if_true, if_false, Bool.false_eq_true, Bool.true_eq_false, reduceIte, Bool.or_true, Bool.true_or, Bool.false_or, Bool.or_false, Bool.and_true, Bool.and_false, Bool.true_and, Bool.false_and, Bool.not_true, Bool.not_false, decide_true, decide_false, decide_eq_true_eq, and_self, not_true_eq_false, not_false_eq_true, ite_self, a_try_ok, a_raise0, a_raise, a_h0, a_h1, a_en0, a_en1, a_se_nx, a_se_rt, a_lv0, a_lv1, a_un0, a_un1, a_cx0, a_cx1, a_cx2, a_cx3, a_xf, a_pad, a_walk, a_rev, w_enum, w_zipL, w_zipT, e_max, e_min, e_and, e_sumA, e_sumAT, List.reverse_cons, List.reverse_nil, List.zip_cons_cons, List.zip_nil_left, List.zip_nil_right, subE_BadSizes_BadSizes, subE_BadSizes_BadDistance, subE_BadDistance_BadSizes, subE_BadDistance_BadDistance, h, flat_s, in_xs0, look_what]
theorem wor_rank {q m n : Int} {r : D} {b : Bool} (hq : q = 2 ∨ q = 3) (m0 : 1 ≤ m) (m1 : m ≤ 12) (n0 : 1 ≤ n) (n1 : n ≤ 12) (hr : W r 0 n false) : F_words_of_rank [.int q, .int m, .int n, r] = .ex 0 ["what"] [.str "rank"] .non := by
  have hc := check_eq (W_good (show 2 ≤ q by omega) (show q ≤ 3 by omega)) (W_good m0 m1) (W_good n0 n1)
  unfold sizesX at hc
  rw [if_neg (by simp), if_neg (by simp), if_neg (by simp)] at hc
  unfold W at hr
  simp only [F_words_of_rank, B_words_of_rank, bindR_ok, bindR_ex, a_bind, a_of_some, a_var, a_c, a_bin, a_un, a_test, a_tru, a_cmp, a_and, a_or, a_not, a_if, a_andV, a_orV, a_notV, a_bl, a_nil, a_cons, a_tup, a_lst, a_call, a_callF, a_callIO, a_seq, a_next, a_ret, a_retN, a_drop, a_break, a_cont, a_ifS, a_asg, a_asgG, a_app, a_setI, a_iter, a_rng, a_for, a_slice, a_part0, a_part1, a_lc, a_yes, l_val, l_new, l_slot, f_val, f_new, f_slot, t_val, t_new, t_slot, s_val, s_new, s_slot, a_look2, a_look1, a_fa0, a_fa1, a_la0, a_la1, a_fn1, a_fn2, a_gN, a_gs0, a_gs1, a_gT, a_turn, a_fg0, a_fg1, a_wp0, a_wp1, a_rs0, a_rs1, a_mkF, a_mkIO, a_owL, a_owD, a_tkT, a_tkF, a_apf, a_apb, a_apn, a_aps, e_addI, e_subI, e_mulI, e_divI, e_modI, e_negI, e_lt, e_le, e_gt, e_ge, e_is, e_isnot, a_lift, e_lenL, e_lenT, e_lenS, e_intI, e_intB, e_absI, e_truB, e_truI, e_truN, e_truL, e_truT, e_ixL, e_ixT, e_tupL, e_tupT, e_lstL, e_lstT, e_sum, cEq_int, cNe_int, fin, finIO, outTk, own0, isS0, entry, entryIO, atI_0, atI_1, atI_2, atI_3, Option.map_some, List.set_cons_zero, List.set_cons_succ, List.getElem?_cons_zero, List.getElem?_cons_succ, List.getElem?_nil, List.getD_cons_zero, List.getD_cons_succ, List.map_cons, List.map_nil, List.length_cons, List.length_nil, List.length_map, List.replicate, List.cons_append, List.nil_append, Nat.reduceAdd, Nat.reduceSub, Nat.reduceLeDiff, Nat.reduceLT, Nat.zero_le, Int.reduceLT, Int.reduceLE, Int.reduceEq, Int.reduceNeg, if_true, if_false, Bool.false_eq_true, Bool.true_eq_false, reduceIte, Bool.or_true, Bool.true_or, Bool.false_or, Bool.or_false, Bool.and_true, Bool.and_false, Bool.true_and, Bool.false_and, Bool.not_true, Bool.not_false, decide_true, decide_false, decide_eq_true_eq, and_self, not_true_eq_false, not_false_eq_true, ite_self, a_try_ok, a_raise0, a_raise, a_h0, a_h1, a_en0, a_en1, a_se_nx, a_se_rt, a_lv0, a_lv1, a_un0, a_un1, a_cx0, a_cx1, a_cx2, a_cx3, a_xf, a_pad, a_walk, a_rev, w_enum, w_zipL, w_zipT, e_max, e_min, e_and, e_sumA, e_sumAT, List.reverse_cons, List.reverse_nil, List.zip_cons_cons, List.zip_nil_left, List.zip_nil_right, subE_BadSizes_BadSizes, subE_BadSizes_BadDistance, subE_BadDistance_BadSizes, subE_BadDistance_BadDistance, hc, hr]
theorem wor_good {q m n r : Int} (hq : q = 2 ∨ q = 3) (m0 : 1 ≤ m) (m1 : m ≤ 12) (n0 : 1 ≤ n) (n1 : n ≤ 12) (r0 : 0 ≤ r) (r1 : r ≤ n) : F_words_of_rank [.int q, .int m, .int n, .int r] = .ok false (.int (tableV q m n r)) .non := by
  have hc := check_eq (W_good (show 2 ≤ q by omega) (show q ≤ 3 by omega)) (W_good m0 m1) (W_good n0 n1)
  unfold sizesX at hc
  rw [if_neg (by simp), if_neg (by simp), if_neg (by simp)] at hc
  have hr := W_good r0 r1
  unfold W at hr
  have ht := table_count_eq (r := r) hq (show 0 ≤ m by omega) (show m ≤ 40 by omega) (show 0 ≤ n by omega) (show n ≤ 40 by omega)
  simp only [F_words_of_rank, B_words_of_rank, bindR_ok, bindR_ex, a_bind, a_of_some, a_var, a_c, a_bin, a_un, a_test, a_tru, a_cmp, a_and, a_or, a_not, a_if, a_andV, a_orV, a_notV, a_bl, a_nil, a_cons, a_tup, a_lst, a_call, a_callF, a_callIO, a_seq, a_next, a_ret, a_retN, a_drop, a_break, a_cont, a_ifS, a_asg, a_asgG, a_app, a_setI, a_iter, a_rng, a_for, a_slice, a_part0, a_part1, a_lc, a_yes, l_val, l_new, l_slot, f_val, f_new, f_slot, t_val, t_new, t_slot, s_val, s_new, s_slot, a_look2, a_look1, a_fa0, a_fa1, a_la0, a_la1, a_fn1, a_fn2, a_gN, a_gs0, a_gs1, a_gT, a_turn, a_fg0, a_fg1, a_wp0, a_wp1, a_rs0, a_rs1, a_mkF, a_mkIO, a_owL, a_owD, a_tkT, a_tkF, a_apf, a_apb, a_apn, a_aps, e_addI, e_subI, e_mulI, e_divI, e_modI, e_negI, e_lt, e_le, e_gt, e_ge, e_is, e_isnot, a_lift, e_lenL, e_lenT, e_lenS, e_intI, e_intB, e_absI, e_truB, e_truI, e_truN, e_truL, e_truT, e_ixL, e_ixT, e_tupL, e_tupT, e_lstL, e_lstT, e_sum, cEq_int, cNe_int, fin, finIO, outTk, own0, isS0, entry, entryIO, atI_0, atI_1, atI_2, atI_3, Option.map_some, List.set_cons_zero, List.set_cons_succ, List.getElem?_cons_zero, List.getElem?_cons_succ, List.getElem?_nil, List.getD_cons_zero, List.getD_cons_succ, List.map_cons, List.map_nil, List.length_cons, List.length_nil, List.length_map, List.replicate, List.cons_append, List.nil_append, Nat.reduceAdd, Nat.reduceSub, Nat.reduceLeDiff, Nat.reduceLT, Nat.zero_le, Int.reduceLT, Int.reduceLE, Int.reduceEq, Int.reduceNeg, if_true, if_false, Bool.false_eq_true, Bool.true_eq_false, reduceIte, Bool.or_true, Bool.true_or, Bool.false_or, Bool.or_false, Bool.and_true, Bool.and_false, Bool.true_and, Bool.false_and, Bool.not_true, Bool.not_false, decide_true, decide_false, decide_eq_true_eq, and_self, not_true_eq_false, not_false_eq_true, ite_self, a_try_ok, a_raise0, a_raise, a_h0, a_h1, a_en0, a_en1, a_se_nx, a_se_rt, a_lv0, a_lv1, a_un0, a_un1, a_cx0, a_cx1, a_cx2, a_cx3, a_xf, a_pad, a_walk, a_rev, w_enum, w_zipL, w_zipT, e_max, e_min, e_and, e_sumA, e_sumAT, List.reverse_cons, List.reverse_nil, List.zip_cons_cons, List.zip_nil_left, List.zip_nil_right, subE_BadSizes_BadSizes, subE_BadSizes_BadDistance, subE_BadDistance_BadSizes, subE_BadDistance_BadDistance, hc, hr, ht]
theorem told_good {q m n r : Int} (hq : q = 2 ∨ q = 3) (m0 : 1 ≤ m) (m1 : m ≤ 12) (n0 : 1 ≤ n) (n1 : n ≤ 12) (r0 : 0 ≤ r) (r1 : r ≤ n) : F__law_words_told [.int q, .int m, .int n, .int r] = .ok false (.tup [.str "told", .int (tableV q m n r)]) .non := by
  have h := wor_good hq m0 m1 n0 n1 r0 r1
  simp only [F__law_words_told, B__law_words_told, bindR_ok, bindR_ex, a_bind, a_of_some, a_var, a_c, a_bin, a_un, a_test, a_tru, a_cmp, a_and, a_or, a_not, a_if, a_andV, a_orV, a_notV, a_bl, a_nil, a_cons, a_tup, a_lst, a_call, a_callF, a_callIO, a_seq, a_next, a_ret, a_retN, a_drop, a_break, a_cont, a_ifS, a_asg, a_asgG, a_app, a_setI, a_iter, a_rng, a_for, a_slice, a_part0, a_part1, a_lc, a_yes, l_val, l_new, l_slot, f_val, f_new, f_slot, t_val, t_new, t_slot, s_val, s_new, s_slot, a_look2, a_look1, a_fa0, a_fa1, a_la0, a_la1, a_fn1, a_fn2, a_gN, a_gs0, a_gs1, a_gT, a_turn, a_fg0, a_fg1, a_wp0, a_wp1, a_rs0, a_rs1, a_mkF, a_mkIO, a_owL, a_owD, a_tkT, a_tkF, a_apf, a_apb, a_apn, a_aps, e_addI, e_subI, e_mulI, e_divI, e_modI, e_negI, e_lt, e_le, e_gt, e_ge, e_is, e_isnot, a_lift, e_lenL, e_lenT, e_lenS, e_intI, e_intB, e_absI, e_truB, e_truI, e_truN, e_truL, e_truT, e_ixL, e_ixT, e_tupL, e_tupT, e_lstL, e_lstT, e_sum, cEq_int, cNe_int, fin, finIO, outTk, own0, isS0, entry, entryIO, atI_0, atI_1, atI_2, atI_3, Option.map_some, List.set_cons_zero, List.set_cons_succ, List.getElem?_cons_zero, List.getElem?_cons_succ, List.getElem?_nil, List.getD_cons_zero, List.getD_cons_succ, List.map_cons, List.map_nil, List.length_cons, List.length_nil, List.length_map, List.replicate, List.cons_append, List.nil_append, Nat.reduceAdd, Nat.reduceSub, Nat.reduceLeDiff, Nat.reduceLT, Nat.zero_le, Int.reduceLT, Int.reduceLE, Int.reduceEq, Int.reduceNeg, if_true, if_false, Bool.false_eq_true, Bool.true_eq_false, reduceIte, Bool.or_true, Bool.true_or, Bool.false_or, Bool.or_false, Bool.and_true, Bool.and_false, Bool.true_and, Bool.false_and, Bool.not_true, Bool.not_false, decide_true, decide_false, decide_eq_true_eq, and_self, not_true_eq_false, not_false_eq_true, ite_self, a_try_ok, a_raise0, a_raise, a_h0, a_h1, a_en0, a_en1, a_se_nx, a_se_rt, a_lv0, a_lv1, a_un0, a_un1, a_cx0, a_cx1, a_cx2, a_cx3, a_xf, a_pad, a_walk, a_rev, w_enum, w_zipL, w_zipT, e_max, e_min, e_and, e_sumA, e_sumAT, List.reverse_cons, List.reverse_nil, List.zip_cons_cons, List.zip_nil_left, List.zip_nil_right, subE_BadSizes_BadSizes, subE_BadSizes_BadDistance, subE_BadDistance_BadSizes, subE_BadDistance_BadDistance, h]
/-! ### met counts -/
def mTerm (q : Int) (m r e j : Nat) : Int := (-1) ^ j * q ^ (j * (j - 1) / 2) * gR q r j * (q ^ (m * (e - j)) - 1)
def mTot (q : Int) (m r e : Nat) : Int := sumTo (mTerm q m r e) e
def mA (q : Int) (m d r : Nat) : Int := if r = 0 then 1 else mTot q m r (r + 1 - d)
theorem tri_eq (s : Nat) : (s : Int) * ((s : Int) - 1) / 2 = ((s * (s - 1) / 2 : Nat) : Int) := by
  cases s with
  | zero => rfl
  | succ s =>
    rw [show ((s + 1 : Nat) : Int) - 1 = (s : Int) by omega, Nat.add_sub_cancel, ← Int.natCast_mul, Int.natCast_ediv]
    rfl
theorem sgn_abs (j : Nat) : ((-1 : Int) ^ j).natAbs ≤ 2 ^ 0 := by rw [natAbs_powI]; simp
theorem sgn_s (j : Nat) : (-1 : Int) ^ (j + 1) = -((-1) ^ j) := by rw [Int.pow_succ, Int.mul_neg_one]
theorem q_pow2 {q : Int} (h : q = 2 ∨ q = 3) {n : Nat} (hn : n ≤ 150) : (q ^ n).natAbs ≤ 2 ^ 300 := abs_mono (abs_pow (q_abs h) n) (by omega)
theorem tri_le {j : Nat} (h : j ≤ 12) : j * (j - 1) / 2 ≤ 72 := by
  have : j * (j - 1) ≤ 12 * 12 := Nat.mul_le_mul h (by omega)
  omega
theorem mTerm_abs {q : Int} (h : q = 2 ∨ q = 3) {m r e j : Nat} (hm : m ≤ 12) (hr : r ≤ 12) (he : e ≤ 12) (hj : j ≤ 12) : (mTerm q m r e j).natAbs ≤ 2 ^ 3880 := by
  have h1 := abs_mul (sgn_abs j) (q_pow2 h (show j * (j - 1) / 2 ≤ 150 by have := tri_le hj; omega))
  have h2 := abs_mul h1 (gR_abs h (show r ≤ 40 by omega) (show j ≤ 40 by omega))
  have h3 : m * (e - j) ≤ 12 * 12 := Nat.mul_le_mul hm (by omega)
  exact abs_mul h2 (abs_sub1 (pow_pos1 (q_two h) _) (q_pow2 h (show m * (e - j) ≤ 150 by omega)))
theorem sumTo_abs {f : Nat → Int} {k : Nat} : ∀ n, (∀ i, i < n → (f i).natAbs ≤ 2 ^ k) → (sumTo f n).natAbs ≤ n * 2 ^ k
  | 0, _ => by simp [sumTo]
  | n + 1, h => by
    have h1 := sumTo_abs n fun i hi => h i (by omega)
    have h2 := h n (by omega)
    show (sumTo f n + f n).natAbs ≤ _
    have h3 := Int.natAbs_add_le (sumTo f n) (f n)
    rw [Nat.add_mul]
    omega
theorem sumTo_abs' {f : Nat → Int} {k n : Nat} (hn : n ≤ 16) (h : ∀ i, i < n → (f i).natAbs ≤ 2 ^ k) : (sumTo f n).natAbs ≤ 2 ^ (k + 4) := by
  have := sumTo_abs n h
  rw [Nat.pow_add]
  have h2 : n * 2 ^ k ≤ 16 * 2 ^ k := Nat.mul_le_mul_right _ hn
  omega
theorem mTot_abs {q : Int} (h : q = 2 ∨ q = 3) {m r e : Nat} (hm : m ≤ 12) (hr : r ≤ 12) (he : e ≤ 12) (n : Nat) (hn : n ≤ 12) : (sumTo (mTerm q m r e) n).natAbs ≤ 2 ^ 3884 := sumTo_abs' (by omega) fun i hi => mTerm_abs h hm hr he (by omega)
theorem mc_in (FP FS : List D → Rf) (q m n d r s tot sg least hp sp : Int) (cs : D) (h1 : FP [.int q, .int (s * (s - 1) / 2)] = .ok false (.int least) .non) (h2 : FP [.int q, .int (m * (r - d + 1 - s))] = .ok false (.int (hp + 1)) .non) (h3 : FS [.int q, .int r, .int s] = .ok false (.int sp) .non)
    (k1 : mulOk s (s - 1) = true) (k2 : divOk 2 = true) (k3 : mulOk m (r - d + 1 - s) = true) (k4 : mulOk sg least = true) (k5 : mulOk (sg * least) sp = true) (k6 : mulOk (sg * least * sp) hp = true) :
  turn (gN 8) [8, 9, 10] (mSeq (mAsg 9 (mCallF FP (mCons (mVar 0) (mCons (mBin dDiv (mBin dMul (mVar 8) (mBin dSub (mVar 8) (mC (.int 1)))) (mC (.int 2))) mNil))))
  (mSeq (mAsg 10 (mBin dSub (mCallF FP (mCons (mVar 0) (mCons (mBin dMul (mVar 1) (mBin dSub (mBin dAdd (mBin dSub (mVar 5) (mVar 3)) (mC (.int 1))) (mVar 8))) mNil))) (mC (.int 1))))
  (mSeq (mAsg 6 (mBin dAdd (mVar 6) (mBin dMul (mBin dMul (mBin dMul (mVar 7) (mVar 9)) (mCallF FS (mCons (mVar 0) (mCons (mVar 5) (mCons (mVar 8) mNil))))) (mVar 10))))
  (mAsg 7 (mUn dNeg (mVar 7)))))) (.int s) [.sh (.int q), .sh (.int m), .sh (.int n), .sh (.int d), .ow cs, .sh (.int r), .sh (.int tot), .sh (.int sg), .no, .no, .no] =
    .ok .nx [.sh (.int q), .sh (.int m), .sh (.int n), .sh (.int d), .ow cs, .sh (.int r), .sh (.int (tot + sg * least * sp * hp)), .sh (.int (-sg)), .no, .no, .no] := by
  have e : hp + 1 - 1 = hp := by omega
  simp only [bindR_ok, bindR_ex, a_bind, a_of_some, a_var, a_c, a_bin, a_un, a_test, a_tru, a_cmp, a_and, a_or, a_not, a_if, a_andV, a_orV, a_notV, a_bl, a_nil, a_cons, a_tup, a_lst, a_call, a_callF, a_callIO, a_seq, a_next, a_ret, a_retN, a_drop, a_break, a_cont, a_ifS, a_asg, a_asgG, a_app, a_setI, a_iter, a_rng, a_for, a_slice, a_part0, a_part1, a_lc, a_yes, l_val, l_new, l_slot, f_val, f_new, f_slot, t_val, t_new, t_slot, s_val, s_new, s_slot, a_look2, a_look1, a_fa0, a_fa1, a_la0, a_la1, a_fn1, a_fn2, a_gN, a_gs0, a_gs1, a_gT, a_turn, a_fg0, a_fg1, a_wp0, a_wp1, a_rs0, a_rs1, a_mkF, a_mkIO, a_owL, a_owD, a_tkT, a_tkF, a_apf, a_apb, a_apn, a_aps, e_addI, e_subI, e_mulI, e_divI, e_modI, e_negI, e_lt, e_le, e_gt, e_ge, e_is, e_isnot, a_lift, e_lenL, e_lenT, e_lenS, e_intI, e_intB, e_absI, e_truB, e_truI, e_truN, e_truL, e_truT, e_ixL, e_ixT, e_tupL, e_tupT, e_lstL, e_lstT, e_sum, cEq_int, cNe_int, fin, finIO, outTk, own0, isS0, entry, entryIO, atI_0, atI_1, atI_2, atI_3, Option.map_some, List.set_cons_zero, List.set_cons_succ, List.getElem?_cons_zero, List.getElem?_cons_succ, List.getElem?_nil, List.getD_cons_zero, List.getD_cons_succ, List.map_cons, List.map_nil, List.length_cons, List.length_nil, List.length_map, List.replicate, List.cons_append, List.nil_append, Nat.reduceAdd, Nat.reduceSub, Nat.reduceLeDiff, Nat.reduceLT, Nat.zero_le, Int.reduceLT, Int.reduceLE, Int.reduceEq, Int.reduceNeg, if_true, if_false, Bool.false_eq_true, Bool.true_eq_false, reduceIte, Bool.or_true, Bool.true_or, Bool.false_or, Bool.or_false, Bool.and_true, Bool.and_false, Bool.true_and, Bool.false_and, Bool.not_true, Bool.not_false, decide_true, decide_false, decide_eq_true_eq, and_self, not_true_eq_false, not_false_eq_true, ite_self, a_try_ok, a_raise0, a_raise, a_h0, a_h1, a_en0, a_en1, a_se_nx, a_se_rt, a_lv0, a_lv1, a_un0, a_un1, a_cx0, a_cx1, a_cx2, a_cx3, a_xf, a_pad, a_walk, a_rev, w_enum, w_zipL, w_zipT, e_max, e_min, e_and, e_sumA, e_sumAT, List.reverse_cons, List.reverse_nil, List.zip_cons_cons, List.zip_nil_left, List.zip_nil_right, subE_BadSizes_BadSizes, subE_BadSizes_BadDistance, subE_BadDistance_BadSizes, subE_BadDistance_BadDistance, h1, h2, h3, k1, k2, k3, k4, k5, k6, e]
def mcInner : M Fl := (mSeq (mAsg 9 (mCallF F_power_of (mCons (mVar 0) (mCons (mBin dDiv (mBin dMul (mVar 8) (mBin dSub (mVar 8) (mC (.int 1)))) (mC (.int 2))) mNil))))
  (mSeq (mAsg 10 (mBin dSub (mCallF F_power_of (mCons (mVar 0) (mCons (mBin dMul (mVar 1) (mBin dSub (mBin dAdd (mBin dSub (mVar 5) (mVar 3)) (mC (.int 1))) (mVar 8))) mNil))) (mC (.int 1))))
  (mSeq (mAsg 6 (mBin dAdd (mVar 6) (mBin dMul (mBin dMul (mBin dMul (mVar 7) (mVar 9)) (mCallF F_space_count (mCons (mVar 0) (mCons (mVar 5) (mCons (mVar 8) mNil))))) (mVar 10))))
  (mAsg 7 (mUn dNeg (mVar 7))))))
theorem spaceV_nat {q : Int} {w p : Nat} (h : p ≤ w) : spaceV q (w : Int) (p : Int) = gR q w p := by
  unfold spaceV
  rw [if_neg (by omega), Int.toNat_natCast, Int.toNat_natCast]
theorem mc_loop {q : Int} (h : q = 2 ∨ q = 3) {m n d r : Nat} (hm : m ≤ 12) (hr : r ≤ 12) (d0 : 1 ≤ d) (hd : d ≤ r + 1) (cs : D) :
    mLoop (gN 8) [8, 9, 10] mcInner (rngD 0 (r + 1 - d)) [.sh (.int q), .sh (.int m), .sh (.int n), .sh (.int d), .ow cs, .sh (.int r), .sh (.int 0), .sh (.int 1), .no, .no, .no] =
      .ok .nx [.sh (.int q), .sh (.int m), .sh (.int n), .sh (.int d), .ow cs, .sh (.int r), .sh (.int (mTot q m r (r + 1 - d))), .sh (.int ((-1) ^ (r + 1 - d))), .no, .no, .no] := by
  have L := loop_rng (g := gN 8) (junk := [8, 9, 10]) (body := mcInner) (fun s => [.sh (.int q), .sh (.int m), .sh (.int n), .sh (.int d), .ow cs, .sh (.int r), .sh (.int (sumTo (mTerm q m r (r + 1 - d)) s)), .sh (.int ((-1) ^ s)), .no, .no, .no]) 0 (r + 1 - d) (fun s hs => by
    rw [Int.zero_add]
    have ht := tri_le (show s ≤ 12 by omega)
    have hp : m * (r + 1 - d - s) ≤ 12 * 12 := Nat.mul_le_mul hm (by omega)
    have e1 := power_of_eq (q100 h) (e := ((s * (s - 1) / 2 : Nat) : Int)) (by omega) (by omega)
    rw [Int.toNat_natCast, ← tri_eq] at e1
    have e2 := power_of_eq (q100 h) (e := ((m * (r + 1 - d - s) : Nat) : Int)) (by omega) (by omega)
    rw [Int.toNat_natCast, Int.natCast_mul, show ((r + 1 - d - s : Nat) : Int) = (r : Int) - d + 1 - s by omega] at e2
    have e3 := space_count_eq (p := (s : Int)) h (show (0 : Int) ≤ (r : Int) by omega) (by omega)
    rw [spaceV_nat (by omega)] at e3
    have b1 := sgn_abs s
    have b2 := q_pow2 h (show s * (s - 1) / 2 ≤ 150 by omega)
    have b3 := gR_abs h (show r ≤ 40 by omega) (show s ≤ 40 by omega)
    have b4 := abs_sub1 (pow_pos1 (q_two h) _) (q_pow2 h (show m * (r + 1 - d - s) ≤ 150 by omega))
    have t := mc_in F_power_of F_space_count q m n d r s (sumTo (mTerm q m r (r + 1 - d)) s) ((-1) ^ s) (q ^ (s * (s - 1) / 2)) (q ^ (m * (r + 1 - d - s)) - 1) (gR q r s) cs e1 (by rw [e2]; congr 2; omega) e3
      (mulOk_le (a := 20) (b := 20) (by omega) (by omega) (by omega)) (by decide) (mulOk_le (a := 20) (b := 20) (by omega) (by omega) (by omega)) (mulOk2 b1 b2 (by omega)) (mulOk2 (abs_mul b1 b2) b3 (by omega)) (mulOk2 (abs_mul (abs_mul b1 b2) b3) b4 (by omega))
    rw [sgn_s]
    exact t)
  exact L
theorem mc_out (FS : List D → Rf) (FP : List D → Rf) (inner : M Fl) (q m n d r tot sg sp : Int) (cs : List D) (k : Nat) (hr : okR (r - d + 1) = true) (hk : (r - d + 1).toNat = k)
    (L : mLoop (gN 8) [8, 9, 10] inner (rngD 0 k) [.sh (.int q), .sh (.int m), .sh (.int n), .sh (.int d), .ow (.lst cs), .sh (.int r), .sh (.int 0), .sh (.int 1), .no, .no, .no] =
      .ok .nx [.sh (.int q), .sh (.int m), .sh (.int n), .sh (.int d), .ow (.lst cs), .sh (.int r), .sh (.int tot), .sh (.int sg), .no, .no, .no]) (h3 : FS [.int q, .int n, .int r] = .ok false (.int sp) .non) (k1 : mulOk sp tot = true) (hl : cs.length < lim) :
  turn (gN 5) [5, 6, 7, 8, 9, 10] (mSeq (mAsg 6 (mC (.int 0)))
  (mSeq (mAsg 7 (mC (.int 1)))
  (mSeq (mFor (mRng (mCons (mBin dAdd (mBin dSub (mVar 5) (mVar 3)) (mC (.int 1))) mNil)) (gN 8) [8, 9, 10] inner)
  (mDrop (mApp 4 (mBin dMul (mCallF FS (mCons (mVar 0) (mCons (mVar 2) (mCons (mVar 5) mNil)))) (mVar 6))))))) (.int r) [.sh (.int q), .sh (.int m), .sh (.int n), .sh (.int d), .ow (.lst cs), .no, .no, .no, .no, .no, .no] =
    .ok .nx [.sh (.int q), .sh (.int m), .sh (.int n), .sh (.int d), .ow (.lst (cs ++ [.int (sp * tot)])), .no, .no, .no, .no, .no, .no] := by
  simp only [bindR_ok, bindR_ex, a_bind, a_of_some, a_var, a_c, a_bin, a_un, a_test, a_tru, a_cmp, a_and, a_or, a_not, a_if, a_andV, a_orV, a_notV, a_bl, a_nil, a_cons, a_tup, a_lst, a_call, a_callF, a_callIO, a_seq, a_next, a_ret, a_retN, a_drop, a_break, a_cont, a_ifS, a_asg, a_asgG, a_app, a_setI, a_iter, a_rng, a_for, a_slice, a_part0, a_part1, a_lc, a_yes, l_val, l_new, l_slot, f_val, f_new, f_slot, t_val, t_new, t_slot, s_val, s_new, s_slot, a_look2, a_look1, a_fa0, a_fa1, a_la0, a_la1, a_fn1, a_fn2, a_gN, a_gs0, a_gs1, a_gT, a_turn, a_fg0, a_fg1, a_wp0, a_wp1, a_rs0, a_rs1, a_mkF, a_mkIO, a_owL, a_owD, a_tkT, a_tkF, a_apf, a_apb, a_apn, a_aps, e_addI, e_subI, e_mulI, e_divI, e_modI, e_negI, e_lt, e_le, e_gt, e_ge, e_is, e_isnot, a_lift, e_lenL, e_lenT, e_lenS, e_intI, e_intB, e_absI, e_truB, e_truI, e_truN, e_truL, e_truT, e_ixL, e_ixT, e_tupL, e_tupT, e_lstL, e_lstT, e_sum, cEq_int, cNe_int, fin, finIO, outTk, own0, isS0, entry, entryIO, atI_0, atI_1, atI_2, atI_3, Option.map_some, List.set_cons_zero, List.set_cons_succ, List.getElem?_cons_zero, List.getElem?_cons_succ, List.getElem?_nil, List.getD_cons_zero, List.getD_cons_succ, List.map_cons, List.map_nil, List.length_cons, List.length_nil, List.length_map, List.replicate, List.cons_append, List.nil_append, Nat.reduceAdd, Nat.reduceSub, Nat.reduceLeDiff, Nat.reduceLT, Nat.zero_le, Int.reduceLT, Int.reduceLE, Int.reduceEq, Int.reduceNeg, if_true, if_false, Bool.false_eq_true, Bool.true_eq_false, reduceIte, Bool.or_true, Bool.true_or, Bool.false_or, Bool.or_false, Bool.and_true, Bool.and_false, Bool.true_and, Bool.false_and, Bool.not_true, Bool.not_false, decide_true, decide_false, decide_eq_true_eq, and_self, not_true_eq_false, not_false_eq_true, ite_self, a_try_ok, a_raise0, a_raise, a_h0, a_h1, a_en0, a_en1, a_se_nx, a_se_rt, a_lv0, a_lv1, a_un0, a_un1, a_cx0, a_cx1, a_cx2, a_cx3, a_xf, a_pad, a_walk, a_rev, w_enum, w_zipL, w_zipT, e_max, e_min, e_and, e_sumA, e_sumAT, List.reverse_cons, List.reverse_nil, List.zip_cons_cons, List.zip_nil_left, List.zip_nil_right, subE_BadSizes_BadSizes, subE_BadSizes_BadDistance, subE_BadDistance_BadSizes, subE_BadDistance_BadDistance, hr, hk, L, h3, k1, hl]
/-- the counts, as they stand behind the k-th turn -/
def cntL (q : Int) (m n d k : Nat) : List D := (List.range k).map fun r => .int (gR q n r * mA q m d r)
theorem cntL_s (q : Int) (m n d k : Nat) : cntL q m n d (k + 1) = cntL q m n d k ++ [.int (gR q n k * mA q m d k)] := by unfold cntL; rw [List.range_succ, List.map_append]; rfl
theorem cntL_len (q : Int) (m n d k : Nat) : (cntL q m n d k).length = k := by unfold cntL; simp
theorem met_eq {q : Int} (h : q = 2 ∨ q = 3) {m n d : Nat} (m1 : m ≤ 12) (n0 : 1 ≤ n) (nm : n ≤ m) (d0 : 1 ≤ d) (d1 : d ≤ n + 1) : F_met_counts [.int q, .int m, .int n, .int d] = .ok false (.tup (cntL q m n d (n + 1))) .non := by
  have hc := check_eq (W_good (show 2 ≤ q by omega) (show q ≤ 3 by omega)) (W_good (show (1 : Int) ≤ (m : Int) by omega) (show (m : Int) ≤ 12 by omega)) (W_good (show (1 : Int) ≤ (n : Int) by omega) (show (n : Int) ≤ 12 by omega))
  unfold sizesX at hc
  rw [if_neg (by simp), if_neg (by simp), if_neg (by simp)] at hc
  have hw := W_good (show (1 : Int) ≤ (d : Int) by omega) (show (d : Int) ≤ (n : Int) + 1 by omega)
  unfold W at hw
  have L := loop_rng (g := gN 5) (junk := [5, 6, 7, 8, 9, 10]) (fun i => [.sh (.int q), .sh (.int m), .sh (.int n), .sh (.int d), .ow (.lst (cntL q m n d (i + 1))), .no, .no, .no, .no, .no, .no]) 1 n (fun i hi => by
    have e3 := space_count_eq (p := ((i + 1 : Nat) : Int)) h (show (0 : Int) ≤ (n : Int) by omega) (by omega)
    rw [spaceV_nat (by omega)] at e3
    have b3 := gR_abs h (show n ≤ 40 by omega) (show i + 1 ≤ 40 by omega)
    rw [cntL_s q m n d (i + 1), show (1 + (i : Int)) = ((i + 1 : Nat) : Int) by omega]
    by_cases hd : d ≤ i + 1 + 1
    · have l := mc_loop (n := n) h m1 (show i + 1 ≤ 12 by omega) d0 hd (.lst (cntL q m n d (i + 1)))
      have e : mA q m d (i + 1) = mTot q m (i + 1) (i + 1 + 1 - d) := if_neg (by omega)
      rw [e]
      exact mc_out F_space_count F_power_of mcInner q m n d ((i + 1 : Nat) : Int) _ _ _ _ (i + 1 + 1 - d) (okR_of (by omega)) (by omega) l e3 (mulOk2 b3 (mTot_abs h m1 (by omega) (by omega) _ (by omega)) (by omega)) (by rw [cntL_len]; unfold lim; omega)
    · have e : mA q m d (i + 1) = 0 := by
        unfold mA
        rw [if_neg (by omega), show i + 1 + 1 - d = 0 by omega]
        rfl
      rw [e]
      exact mc_out F_space_count F_power_of mcInner q m n d ((i + 1 : Nat) : Int) 0 1 _ _ 0 (okR_of (by omega)) (by omega) rfl e3 (mulOk2 b3 (show (0 : Int).natAbs ≤ 2 ^ 0 by decide) (by omega)) (by rw [cntL_len]; unfold lim; omega))
  rw [show cntL q m n d (0 + 1) = [.int 1] by rw [cntL_s]; unfold mA; rw [gR_zero]; rfl] at L
  unfold mcInner at L
  have h1 : okR 1 = true := by decide
  have h2 : okR ((n : Int) + 1) = true := okR_of (by omega)
  have n1 : ((n : Int) + 1 - 1).toNat = n := by omega
  simp only [F_met_counts, B_met_counts, bindR_ok, bindR_ex, a_bind, a_of_some, a_var, a_c, a_bin, a_un, a_test, a_tru, a_cmp, a_and, a_or, a_not, a_if, a_andV, a_orV, a_notV, a_bl, a_nil, a_cons, a_tup, a_lst, a_call, a_callF, a_callIO, a_seq, a_next, a_ret, a_retN, a_drop, a_break, a_cont, a_ifS, a_asg, a_asgG, a_app, a_setI, a_iter, a_rng, a_for, a_slice, a_part0, a_part1, a_lc, a_yes, l_val, l_new, l_slot, f_val, f_new, f_slot, t_val, t_new, t_slot, s_val, s_new, s_slot, a_look2, a_look1, a_fa0, a_fa1, a_la0, a_la1, a_fn1, a_fn2, a_gN, a_gs0, a_gs1, a_gT, a_turn, a_fg0, a_fg1, a_wp0, a_wp1, a_rs0, a_rs1, a_mkF, a_mkIO, a_owL, a_owD, a_tkT, a_tkF, a_apf, a_apb, a_apn, a_aps, e_addI, e_subI, e_mulI, e_divI, e_modI, e_negI, e_lt, e_le, e_gt, e_ge, e_is, e_isnot, a_lift, e_lenL, e_lenT, e_lenS, e_intI, e_intB, e_absI, e_truB, e_truI, e_truN, e_truL, e_truT, e_ixL, e_ixT, e_tupL, e_tupT, e_lstL, e_lstT, e_sum, cEq_int, cNe_int, fin, finIO, outTk, own0, isS0, entry, entryIO, atI_0, atI_1, atI_2, atI_3, Option.map_some, List.set_cons_zero, List.set_cons_succ, List.getElem?_cons_zero, List.getElem?_cons_succ, List.getElem?_nil, List.getD_cons_zero, List.getD_cons_succ, List.map_cons, List.map_nil, List.length_cons, List.length_nil, List.length_map, List.replicate, List.cons_append, List.nil_append, Nat.reduceAdd, Nat.reduceSub, Nat.reduceLeDiff, Nat.reduceLT, Nat.zero_le, Int.reduceLT, Int.reduceLE, Int.reduceEq, Int.reduceNeg, if_true, if_false, Bool.false_eq_true, Bool.true_eq_false, reduceIte, Bool.or_true, Bool.true_or, Bool.false_or, Bool.or_false, Bool.and_true, Bool.and_false, Bool.true_and, Bool.false_and, Bool.not_true, Bool.not_false, decide_true, decide_false, decide_eq_true_eq, and_self, not_true_eq_false, not_false_eq_true, ite_self, a_try_ok, a_raise0, a_raise, a_h0, a_h1, a_en0, a_en1, a_se_nx, a_se_rt, a_lv0, a_lv1, a_un0, a_un1, a_cx0, a_cx1, a_cx2, a_cx3, a_xf, a_pad, a_walk, a_rev, w_enum, w_zipL, w_zipT, e_max, e_min, e_and, e_sumA, e_sumAT, List.reverse_cons, List.reverse_nil, List.zip_cons_cons, List.zip_nil_left, List.zip_nil_right, subE_BadSizes_BadSizes, subE_BadSizes_BadDistance, subE_BadDistance_BadSizes, subE_BadDistance_BadDistance, hc, hw, show ¬ ((m : Int) < (n : Int)) by omega, h1, h2, n1, L]
/-! ### what is told of met counts -/
theorem mtold_ex {p m n d : D} {s : Str} (h : F_met_counts [p, m, n, d] = .ex 0 ["what"] [.str s] .non) : F__law_met_told [p, m, n, d] = .ok false (.tup [.str "sizes", .str s]) .non := by
  simp only [F__law_met_told, B__law_met_told, bindR_ok, bindR_ex, a_bind, a_of_some, a_var, a_c, a_bin, a_un, a_test, a_tru, a_cmp, a_and, a_or, a_not, a_if, a_andV, a_orV, a_notV, a_bl, a_nil, a_cons, a_tup, a_lst, a_call, a_callF, a_callIO, a_seq, a_next, a_ret, a_retN, a_drop, a_break, a_cont, a_ifS, a_asg, a_asgG, a_app, a_setI, a_iter, a_rng, a_for, a_slice, a_part0, a_part1, a_lc, a_yes, l_val, l_new, l_slot, f_val, f_new, f_slot, t_val, t_new, t_slot, s_val, s_new, s_slot, a_look2, a_look1, a_fa0, a_fa1, a_la0, a_la1, a_fn1, a_fn2, a_gN, a_gs0, a_gs1, a_gT, a_turn, a_fg0, a_fg1, a_wp0, a_wp1, a_rs0, a_rs1, a_mkF, a_mkIO, a_owL, a_owD, a_tkT, a_tkF, a_apf, a_apb, a_apn, a_aps, e_addI, e_subI, e_mulI, e_divI, e_modI, e_negI, e_lt, e_le, e_gt, e_ge, e_is, e_isnot, a_lift, e_lenL, e_lenT, e_lenS, e_intI, e_intB, e_absI, e_truB, e_truI, e_truN, e_truL, e_truT, e_ixL, e_ixT, e_tupL, e_tupT, e_lstL, e_lstT, e_sum, cEq_int, cNe_int, fin, finIO, outTk, own0, isS0, entry, entryIO, atI_0, atI_1, atI_2, atI_3, Option.map_some, List.set_cons_zero, List.set_cons_succ, List.getElem?_cons_zero, List.getElem?_cons_succ, List.getElem?_nil, List.getD_cons_zero, List.getD_cons_succ, List.map_cons, List.map_nil, List.length_cons, List.length_nil, List.length_map, List.replicate, List.cons_append, List.nil_append, Nat.reduceAdd, Nat.reduceSub, Nat.reduceLeDiff, Nat.reduceLT, Nat.zero_le, Int.reduceLT, Int.reduceLE, Int.reduceEq, Int.reduceNeg, if_true, if_false, Bool.false_eq_true, Bool.true_eq_false, reduceIte, Bool.or_true, Bool.true_or, Bool.false_or, Bool.or_false, Bool.and_true, Bool.and_false, Bool.true_and, Bool.false_and, Bool.not_true, Bool.not_false, decide_true, decide_false, decide_eq_true_eq, and_self, not_true_eq_false, not_false_eq_true, ite_self, a_try_ok, a_raise0, a_raise, a_h0, a_h1, a_en0, a_en1, a_se_nx, a_se_rt, a_lv0, a_lv1, a_un0, a_un1, a_cx0, a_cx1, a_cx2, a_cx3, a_xf, a_pad, a_walk, a_rev, w_enum, w_zipL, w_zipT, e_max, e_min, e_and, e_sumA, e_sumAT, List.reverse_cons, List.reverse_nil, List.zip_cons_cons, List.zip_nil_left, List.zip_nil_right, subE_BadSizes_BadSizes, subE_BadSizes_BadDistance, subE_BadDistance_BadSizes, subE_BadDistance_BadDistance, h, flat_s, in_xs0, look_what]
theorem mtold_dist {p m n d : D} (h : F_met_counts [p, m, n, d] = .ex 1 [] [] .non) : F__law_met_told [p, m, n, d] = .ok false (.tup [.str "distance", .str ""]) .non := by
  simp only [F__law_met_told, B__law_met_told, bindR_ok, bindR_ex, a_bind, a_of_some, a_var, a_c, a_bin, a_un, a_test, a_tru, a_cmp, a_and, a_or, a_not, a_if, a_andV, a_orV, a_notV, a_bl, a_nil, a_cons, a_tup, a_lst, a_call, a_callF, a_callIO, a_seq, a_next, a_ret, a_retN, a_drop, a_break, a_cont, a_ifS, a_asg, a_asgG, a_app, a_setI, a_iter, a_rng, a_for, a_slice, a_part0, a_part1, a_lc, a_yes, l_val, l_new, l_slot, f_val, f_new, f_slot, t_val, t_new, t_slot, s_val, s_new, s_slot, a_look2, a_look1, a_fa0, a_fa1, a_la0, a_la1, a_fn1, a_fn2, a_gN, a_gs0, a_gs1, a_gT, a_turn, a_fg0, a_fg1, a_wp0, a_wp1, a_rs0, a_rs1, a_mkF, a_mkIO, a_owL, a_owD, a_tkT, a_tkF, a_apf, a_apb, a_apn, a_aps, e_addI, e_subI, e_mulI, e_divI, e_modI, e_negI, e_lt, e_le, e_gt, e_ge, e_is, e_isnot, a_lift, e_lenL, e_lenT, e_lenS, e_intI, e_intB, e_absI, e_truB, e_truI, e_truN, e_truL, e_truT, e_ixL, e_ixT, e_tupL, e_tupT, e_lstL, e_lstT, e_sum, cEq_int, cNe_int, fin, finIO, outTk, own0, isS0, entry, entryIO, atI_0, atI_1, atI_2, atI_3, Option.map_some, List.set_cons_zero, List.set_cons_succ, List.getElem?_cons_zero, List.getElem?_cons_succ, List.getElem?_nil, List.getD_cons_zero, List.getD_cons_succ, List.map_cons, List.map_nil, List.length_cons, List.length_nil, List.length_map, List.replicate, List.cons_append, List.nil_append, Nat.reduceAdd, Nat.reduceSub, Nat.reduceLeDiff, Nat.reduceLT, Nat.zero_le, Int.reduceLT, Int.reduceLE, Int.reduceEq, Int.reduceNeg, if_true, if_false, Bool.false_eq_true, Bool.true_eq_false, reduceIte, Bool.or_true, Bool.true_or, Bool.false_or, Bool.or_false, Bool.and_true, Bool.and_false, Bool.true_and, Bool.false_and, Bool.not_true, Bool.not_false, decide_true, decide_false, decide_eq_true_eq, and_self, not_true_eq_false, not_false_eq_true, ite_self, a_try_ok, a_raise0, a_raise, a_h0, a_h1, a_en0, a_en1, a_se_nx, a_se_rt, a_lv0, a_lv1, a_un0, a_un1, a_cx0, a_cx1, a_cx2, a_cx3, a_xf, a_pad, a_walk, a_rev, w_enum, w_zipL, w_zipT, e_max, e_min, e_and, e_sumA, e_sumAT, List.reverse_cons, List.reverse_nil, List.zip_cons_cons, List.zip_nil_left, List.zip_nil_right, subE_BadSizes_BadSizes, subE_BadSizes_BadDistance, subE_BadDistance_BadSizes, subE_BadDistance_BadDistance, h, flat_0]
theorem mtold_good {p m n d : D} {xs : List D} (h : F_met_counts [p, m, n, d] = .ok false (.tup xs) .non) : F__law_met_told [p, m, n, d] = .ok false (.tup [.str "told", .tup xs]) .non := by
  simp only [F__law_met_told, B__law_met_told, bindR_ok, bindR_ex, a_bind, a_of_some, a_var, a_c, a_bin, a_un, a_test, a_tru, a_cmp, a_and, a_or, a_not, a_if, a_andV, a_orV, a_notV, a_bl, a_nil, a_cons, a_tup, a_lst, a_call, a_callF, a_callIO, a_seq, a_next, a_ret, a_retN, a_drop, a_break, a_cont, a_ifS, a_asg, a_asgG, a_app, a_setI, a_iter, a_rng, a_for, a_slice, a_part0, a_part1, a_lc, a_yes, l_val, l_new, l_slot, f_val, f_new, f_slot, t_val, t_new, t_slot, s_val, s_new, s_slot, a_look2, a_look1, a_fa0, a_fa1, a_la0, a_la1, a_fn1, a_fn2, a_gN, a_gs0, a_gs1, a_gT, a_turn, a_fg0, a_fg1, a_wp0, a_wp1, a_rs0, a_rs1, a_mkF, a_mkIO, a_owL, a_owD, a_tkT, a_tkF, a_apf, a_apb, a_apn, a_aps, e_addI, e_subI, e_mulI, e_divI, e_modI, e_negI, e_lt, e_le, e_gt, e_ge, e_is, e_isnot, a_lift, e_lenL, e_lenT, e_lenS, e_intI, e_intB, e_absI, e_truB, e_truI, e_truN, e_truL, e_truT, e_ixL, e_ixT, e_tupL, e_tupT, e_lstL, e_lstT, e_sum, cEq_int, cNe_int, fin, finIO, outTk, own0, isS0, entry, entryIO, atI_0, atI_1, atI_2, atI_3, Option.map_some, List.set_cons_zero, List.set_cons_succ, List.getElem?_cons_zero, List.getElem?_cons_succ, List.getElem?_nil, List.getD_cons_zero, List.getD_cons_succ, List.map_cons, List.map_nil, List.length_cons, List.length_nil, List.length_map, List.replicate, List.cons_append, List.nil_append, Nat.reduceAdd, Nat.reduceSub, Nat.reduceLeDiff, Nat.reduceLT, Nat.zero_le, Int.reduceLT, Int.reduceLE, Int.reduceEq, Int.reduceNeg, if_true, if_false, Bool.false_eq_true, Bool.true_eq_false, reduceIte, Bool.or_true, Bool.true_or, Bool.false_or, Bool.or_false, Bool.and_true, Bool.and_false, Bool.true_and, Bool.false_and, Bool.not_true, Bool.not_false, decide_true, decide_false, decide_eq_true_eq, and_self, not_true_eq_false, not_false_eq_true, ite_self, a_try_ok, a_raise0, a_raise, a_h0, a_h1, a_en0, a_en1, a_se_nx, a_se_rt, a_lv0, a_lv1, a_un0, a_un1, a_cx0, a_cx1, a_cx2, a_cx3, a_xf, a_pad, a_walk, a_rev, w_enum, w_zipL, w_zipT, e_max, e_min, e_and, e_sumA, e_sumAT, List.reverse_cons, List.reverse_nil, List.zip_cons_cons, List.zip_nil_left, List.zip_nil_right, subE_BadSizes_BadSizes, subE_BadSizes_BadDistance, subE_BadDistance_BadSizes, subE_BadDistance_BadDistance, h, ite_self]
theorem mc_sizes {p m n d : D} {s : Str} (h : F_check_sizes [p, m, n] = .ex 0 ["what"] [.str s] .non) : F_met_counts [p, m, n, d] = .ex 0 ["what"] [.str s] .non := by
  simp only [F_met_counts, B_met_counts, bindR_ok, bindR_ex, a_bind, a_of_some, a_var, a_c, a_bin, a_un, a_test, a_tru, a_cmp, a_and, a_or, a_not, a_if, a_andV, a_orV, a_notV, a_bl, a_nil, a_cons, a_tup, a_lst, a_call, a_callF, a_callIO, a_seq, a_next, a_ret, a_retN, a_drop, a_break, a_cont, a_ifS, a_asg, a_asgG, a_app, a_setI, a_iter, a_rng, a_for, a_slice, a_part0, a_part1, a_lc, a_yes, l_val, l_new, l_slot, f_val, f_new, f_slot, t_val, t_new, t_slot, s_val, s_new, s_slot, a_look2, a_look1, a_fa0, a_fa1, a_la0, a_la1, a_fn1, a_fn2, a_gN, a_gs0, a_gs1, a_gT, a_turn, a_fg0, a_fg1, a_wp0, a_wp1, a_rs0, a_rs1, a_mkF, a_mkIO, a_owL, a_owD, a_tkT, a_tkF, a_apf, a_apb, a_apn, a_aps, e_addI, e_subI, e_mulI, e_divI, e_modI, e_negI, e_lt, e_le, e_gt, e_ge, e_is, e_isnot, a_lift, e_lenL, e_lenT, e_lenS, e_intI, e_intB, e_absI, e_truB, e_truI, e_truN, e_truL, e_truT, e_ixL, e_ixT, e_tupL, e_tupT, e_lstL, e_lstT, e_sum, cEq_int, cNe_int, fin, finIO, outTk, own0, isS0, entry, entryIO, atI_0, atI_1, atI_2, atI_3, Option.map_some, List.set_cons_zero, List.set_cons_succ, List.getElem?_cons_zero, List.getElem?_cons_succ, List.getElem?_nil, List.getD_cons_zero, List.getD_cons_succ, List.map_cons, List.map_nil, List.length_cons, List.length_nil, List.length_map, List.replicate, List.cons_append, List.nil_append, Nat.reduceAdd, Nat.reduceSub, Nat.reduceLeDiff, Nat.reduceLT, Nat.zero_le, Int.reduceLT, Int.reduceLE, Int.reduceEq, Int.reduceNeg, if_true, if_false, Bool.false_eq_true, Bool.true_eq_false, reduceIte, Bool.or_true, Bool.true_or, Bool.false_or, Bool.or_false, Bool.and_true, Bool.and_false, Bool.true_and, Bool.false_and, Bool.not_true, Bool.not_false, decide_true, decide_false, decide_eq_true_eq, and_self, not_true_eq_false, not_false_eq_true, ite_self, a_try_ok, a_raise0, a_raise, a_h0, a_h1, a_en0, a_en1, a_se_nx, a_se_rt, a_lv0, a_lv1, a_un0, a_un1, a_cx0, a_cx1, a_cx2, a_cx3, a_xf, a_pad, a_walk, a_rev, w_enum, w_zipL, w_zipT, e_max, e_min, e_and, e_sumA, e_sumAT, List.reverse_cons, List.reverse_nil, List.zip_cons_cons, List.zip_nil_left, List.zip_nil_right, subE_BadSizes_BadSizes, subE_BadSizes_BadDistance, subE_BadDistance_BadSizes, subE_BadDistance_BadDistance, h, flat_s]
theorem mc_cols {p d : D} {i j : Int} (h : F_check_sizes [p, .int i, .int j] = .ok false .non .non) (hij : i < j) : F_met_counts [p, .int i, .int j, d] = .ex 0 ["what"] [.str "columns"] .non := by
  simp only [F_met_counts, B_met_counts, bindR_ok, bindR_ex, a_bind, a_of_some, a_var, a_c, a_bin, a_un, a_test, a_tru, a_cmp, a_and, a_or, a_not, a_if, a_andV, a_orV, a_notV, a_bl, a_nil, a_cons, a_tup, a_lst, a_call, a_callF, a_callIO, a_seq, a_next, a_ret, a_retN, a_drop, a_break, a_cont, a_ifS, a_asg, a_asgG, a_app, a_setI, a_iter, a_rng, a_for, a_slice, a_part0, a_part1, a_lc, a_yes, l_val, l_new, l_slot, f_val, f_new, f_slot, t_val, t_new, t_slot, s_val, s_new, s_slot, a_look2, a_look1, a_fa0, a_fa1, a_la0, a_la1, a_fn1, a_fn2, a_gN, a_gs0, a_gs1, a_gT, a_turn, a_fg0, a_fg1, a_wp0, a_wp1, a_rs0, a_rs1, a_mkF, a_mkIO, a_owL, a_owD, a_tkT, a_tkF, a_apf, a_apb, a_apn, a_aps, e_addI, e_subI, e_mulI, e_divI, e_modI, e_negI, e_lt, e_le, e_gt, e_ge, e_is, e_isnot, a_lift, e_lenL, e_lenT, e_lenS, e_intI, e_intB, e_absI, e_truB, e_truI, e_truN, e_truL, e_truT, e_ixL, e_ixT, e_tupL, e_tupT, e_lstL, e_lstT, e_sum, cEq_int, cNe_int, fin, finIO, outTk, own0, isS0, entry, entryIO, atI_0, atI_1, atI_2, atI_3, Option.map_some, List.set_cons_zero, List.set_cons_succ, List.getElem?_cons_zero, List.getElem?_cons_succ, List.getElem?_nil, List.getD_cons_zero, List.getD_cons_succ, List.map_cons, List.map_nil, List.length_cons, List.length_nil, List.length_map, List.replicate, List.cons_append, List.nil_append, Nat.reduceAdd, Nat.reduceSub, Nat.reduceLeDiff, Nat.reduceLT, Nat.zero_le, Int.reduceLT, Int.reduceLE, Int.reduceEq, Int.reduceNeg, if_true, if_false, Bool.false_eq_true, Bool.true_eq_false, reduceIte, Bool.or_true, Bool.true_or, Bool.false_or, Bool.or_false, Bool.and_true, Bool.and_false, Bool.true_and, Bool.false_and, Bool.not_true, Bool.not_false, decide_true, decide_false, decide_eq_true_eq, and_self, not_true_eq_false, not_false_eq_true, ite_self, a_try_ok, a_raise0, a_raise, a_h0, a_h1, a_en0, a_en1, a_se_nx, a_se_rt, a_lv0, a_lv1, a_un0, a_un1, a_cx0, a_cx1, a_cx2, a_cx3, a_xf, a_pad, a_walk, a_rev, w_enum, w_zipL, w_zipT, e_max, e_min, e_and, e_sumA, e_sumAT, List.reverse_cons, List.reverse_nil, List.zip_cons_cons, List.zip_nil_left, List.zip_nil_right, subE_BadSizes_BadSizes, subE_BadSizes_BadDistance, subE_BadDistance_BadSizes, subE_BadDistance_BadDistance, h, hij]
theorem mc_dist {p d : D} {i j : Int} (h : F_check_sizes [p, .int i, .int j] = .ok false .non .non) (hij : ¬ i < j) (hd : W d 1 (j + 1) false) : F_met_counts [p, .int i, .int j, d] = .ex 1 [] [] .non := by
  unfold W at hd
  simp only [F_met_counts, B_met_counts, bindR_ok, bindR_ex, a_bind, a_of_some, a_var, a_c, a_bin, a_un, a_test, a_tru, a_cmp, a_and, a_or, a_not, a_if, a_andV, a_orV, a_notV, a_bl, a_nil, a_cons, a_tup, a_lst, a_call, a_callF, a_callIO, a_seq, a_next, a_ret, a_retN, a_drop, a_break, a_cont, a_ifS, a_asg, a_asgG, a_app, a_setI, a_iter, a_rng, a_for, a_slice, a_part0, a_part1, a_lc, a_yes, l_val, l_new, l_slot, f_val, f_new, f_slot, t_val, t_new, t_slot, s_val, s_new, s_slot, a_look2, a_look1, a_fa0, a_fa1, a_la0, a_la1, a_fn1, a_fn2, a_gN, a_gs0, a_gs1, a_gT, a_turn, a_fg0, a_fg1, a_wp0, a_wp1, a_rs0, a_rs1, a_mkF, a_mkIO, a_owL, a_owD, a_tkT, a_tkF, a_apf, a_apb, a_apn, a_aps, e_addI, e_subI, e_mulI, e_divI, e_modI, e_negI, e_lt, e_le, e_gt, e_ge, e_is, e_isnot, a_lift, e_lenL, e_lenT, e_lenS, e_intI, e_intB, e_absI, e_truB, e_truI, e_truN, e_truL, e_truT, e_ixL, e_ixT, e_tupL, e_tupT, e_lstL, e_lstT, e_sum, cEq_int, cNe_int, fin, finIO, outTk, own0, isS0, entry, entryIO, atI_0, atI_1, atI_2, atI_3, Option.map_some, List.set_cons_zero, List.set_cons_succ, List.getElem?_cons_zero, List.getElem?_cons_succ, List.getElem?_nil, List.getD_cons_zero, List.getD_cons_succ, List.map_cons, List.map_nil, List.length_cons, List.length_nil, List.length_map, List.replicate, List.cons_append, List.nil_append, Nat.reduceAdd, Nat.reduceSub, Nat.reduceLeDiff, Nat.reduceLT, Nat.zero_le, Int.reduceLT, Int.reduceLE, Int.reduceEq, Int.reduceNeg, if_true, if_false, Bool.false_eq_true, Bool.true_eq_false, reduceIte, Bool.or_true, Bool.true_or, Bool.false_or, Bool.or_false, Bool.and_true, Bool.and_false, Bool.true_and, Bool.false_and, Bool.not_true, Bool.not_false, decide_true, decide_false, decide_eq_true_eq, and_self, not_true_eq_false, not_false_eq_true, ite_self, a_try_ok, a_raise0, a_raise, a_h0, a_h1, a_en0, a_en1, a_se_nx, a_se_rt, a_lv0, a_lv1, a_un0, a_un1, a_cx0, a_cx1, a_cx2, a_cx3, a_xf, a_pad, a_walk, a_rev, w_enum, w_zipL, w_zipT, e_max, e_min, e_and, e_sumA, e_sumAT, List.reverse_cons, List.reverse_nil, List.zip_cons_cons, List.zip_nil_left, List.zip_nil_right, subE_BadSizes_BadSizes, subE_BadSizes_BadDistance, subE_BadDistance_BadSizes, subE_BadDistance_BadDistance, h, hij, hd]
/-! ### the shares -/
theorem lwhole_int (i : Int) : F__law_whole [.int i] = .ok false (.bl true) .non := by rfl
def sumL (q : Int) (B : Nat → Int) (k : Nat) : List D := (List.range k).map fun s => .int (sumTo (fun r => B r * gR q s r) (s + 1))
def cntB (q : Int) (B : Nat → Int) (n k : Nat) : List D := (List.range k).map fun r => .int (gR q n r * B r)
def intL (B : Nat → Int) (k : Nat) : List D := (List.range k).map fun r => .int (B r)
theorem intL_s (B : Nat → Int) (k : Nat) : intL B (k + 1) = intL B k ++ [.int (B k)] := by unfold intL; rw [List.range_succ, List.map_append]; rfl
theorem intL_len (B : Nat → Int) (k : Nat) : (intL B k).length = k := by unfold intL; simp
theorem intL_at {B : Nat → Int} {k r : Nat} (h : r < k) : atI (intL B k) (r : Int) = some (.int (B r)) := atI_nat (by unfold intL; rw [List.getElem?_map, List.getElem?_range h]; rfl)
theorem cntB_at {q : Int} {B : Nat → Int} {n k r : Nat} (h : r < k) : atI (cntB q B n k) (r : Int) = some (.int (gR q n r * B r)) := atI_nat (by unfold cntB; rw [List.getElem?_map, List.getElem?_range h]; rfl)
theorem sh_turn (FW : List D → Rf) (n : Int) (cs ss : D) (rows row shs : List D) (cl : List D) (r c g : Int) (hc : cs = .tup cl) (h1 : atI cl r = some (.int c)) (hW : FW [.int c] = .ok false (.bl true) .non) (h2 : atI rows n = some (.lst row)) (h3 : atI row r = some (.int g)) (g0 : 0 < g) (hm : c % g = 0) (hd : divOk g = true) (hl : shs.length < lim) :
  turn (gN 5) [5] (mSeq (mIfS (mOr (mNot (mTest (mCallF FW (mCons (mBin dIx (mVar 1) (mVar 5)) mNil)))) (mCmp cNe (mBin dMod (mCall (fn1 dInt) (mCons (mBin dIx (mVar 1) (mVar 5)) mNil)) (mBin dIx (mBin dIx (mVar 3) (mVar 0)) (mVar 5))) (mC (.int 0)))) (mRet (mC (.bl false))) mNext)
  (mDrop (mApp 4 (mBin dDiv (mBin dIx (mVar 1) (mVar 5)) (mBin dIx (mBin dIx (mVar 3) (mVar 0)) (mVar 5)))))) (.int r) [.sh (.int n), .sh cs, .sh ss, .sh (.lst rows), .ow (.lst shs), .no, .no, .no] = .ok .nx [.sh (.int n), .sh cs, .sh ss, .sh (.lst rows), .ow (.lst (shs ++ [.int (c / g)])), .no, .no, .no] := by
  subst hc
  simp only [bindR_ok, bindR_ex, a_bind, a_of_some, a_var, a_c, a_bin, a_un, a_test, a_tru, a_cmp, a_and, a_or, a_not, a_if, a_andV, a_orV, a_notV, a_bl, a_nil, a_cons, a_tup, a_lst, a_call, a_callF, a_callIO, a_seq, a_next, a_ret, a_retN, a_drop, a_break, a_cont, a_ifS, a_asg, a_asgG, a_app, a_setI, a_iter, a_rng, a_for, a_slice, a_part0, a_part1, a_lc, a_yes, l_val, l_new, l_slot, f_val, f_new, f_slot, t_val, t_new, t_slot, s_val, s_new, s_slot, a_look2, a_look1, a_fa0, a_fa1, a_la0, a_la1, a_fn1, a_fn2, a_gN, a_gs0, a_gs1, a_gT, a_turn, a_fg0, a_fg1, a_wp0, a_wp1, a_rs0, a_rs1, a_mkF, a_mkIO, a_owL, a_owD, a_tkT, a_tkF, a_apf, a_apb, a_apn, a_aps, e_addI, e_subI, e_mulI, e_divI, e_modI, e_negI, e_lt, e_le, e_gt, e_ge, e_is, e_isnot, a_lift, e_lenL, e_lenT, e_lenS, e_intI, e_intB, e_absI, e_truB, e_truI, e_truN, e_truL, e_truT, e_ixL, e_ixT, e_tupL, e_tupT, e_lstL, e_lstT, e_sum, cEq_int, cNe_int, fin, finIO, outTk, own0, isS0, entry, entryIO, atI_0, atI_1, atI_2, atI_3, Option.map_some, List.set_cons_zero, List.set_cons_succ, List.getElem?_cons_zero, List.getElem?_cons_succ, List.getElem?_nil, List.getD_cons_zero, List.getD_cons_succ, List.map_cons, List.map_nil, List.length_cons, List.length_nil, List.length_map, List.replicate, List.cons_append, List.nil_append, Nat.reduceAdd, Nat.reduceSub, Nat.reduceLeDiff, Nat.reduceLT, Nat.zero_le, Int.reduceLT, Int.reduceLE, Int.reduceEq, Int.reduceNeg, if_true, if_false, Bool.false_eq_true, Bool.true_eq_false, reduceIte, Bool.or_true, Bool.true_or, Bool.false_or, Bool.or_false, Bool.and_true, Bool.and_false, Bool.true_and, Bool.false_and, Bool.not_true, Bool.not_false, decide_true, decide_false, decide_eq_true_eq, and_self, not_true_eq_false, not_false_eq_true, ite_self, a_try_ok, a_raise0, a_raise, a_h0, a_h1, a_en0, a_en1, a_se_nx, a_se_rt, a_lv0, a_lv1, a_un0, a_un1, a_cx0, a_cx1, a_cx2, a_cx3, a_xf, a_pad, a_walk, a_rev, w_enum, w_zipL, w_zipT, e_max, e_min, e_and, e_sumA, e_sumAT, List.reverse_cons, List.reverse_nil, List.zip_cons_cons, List.zip_nil_left, List.zip_nil_right, subE_BadSizes_BadSizes, subE_BadSizes_BadDistance, subE_BadDistance_BadSizes, subE_BadDistance_BadDistance, h1, hW, h2, h3, g0, hm, hd, hl]
theorem sumTo_range (f : Nat → Int) : ∀ n, ((List.range n).map f).sum = sumTo f n
  | 0 => rfl
  | n + 1 => by rw [List.range_succ, List.map_append, List.sum_append, sumTo_range f n]; show _ + (f n + 0) = _; rw [Int.add_zero]; rfl
theorem sh_inner {q : Int} (h : q = 2 ∨ q = 3) {B : Nat → Int} {k : Nat} (hB : ∀ r, r ≤ 12 → (B r).natAbs ≤ 2 ^ k) (hk : k ≤ 100000) (n cs ss : D) {N s : Nat} (hN : N ≤ 13) (hs : s < N) (s6 : S) :
    mLcLoop (gN 7) [7] mYes (mBin dMul (mBin dIx (mVar 4) (mVar 7)) (mBin dIx (mBin dIx (mVar 3) (mVar 6)) (mVar 7))) (rngD 0 (s + 1)) [] [.sh n, .sh cs, .sh ss, .sh (.lst (rowsL q 13)), .ow (.lst (intL B N)), .no, .sh (.int (s : Int)), .no] =
      .ok (((List.range (s + 1)).map fun r : Nat => B r * gR q s r).map .int) [.sh n, .sh cs, .sh ss, .sh (.lst (rowsL q 13)), .ow (.lst (intL B N)), .no, .sh (.int (s : Int)), .no] := by
  have L := lc_fn (g := gN 7) (own := [7]) (test := mYes) (elt := mBin dMul (mBin dIx (mVar 4) (mVar 7)) (mBin dIx (mBin dIx (mVar 3) (mVar 6)) (mVar 7))) (fun _ => [.sh n, .sh cs, .sh ss, .sh (.lst (rowsL q 13)), .ow (.lst (intL B N)), .no, .sh (.int (s : Int)), .no]) (fun r => .int (B r * gR q s r)) (rngD 0 (s + 1)) 0 [] (by rw [rng_len]; unfold lim; simp; omega) (fun i d hi => by
    obtain ⟨h1, rfl⟩ := rng_get hi
    rw [Int.zero_add, Nat.zero_add]
    have a1 : atI (intL B N) (i : Int) = some (.int (B i)) := intL_at (by omega)
    have a2 : atI (rowsL q 13) (s : Int) = some (.lst (rowL q s (s + 1))) := at_rows (by omega)
    have a3 : atI (rowL q s (s + 1)) (i : Int) = some (.int (gR q s i)) := at_row (by omega)
    have m1 : mulOk (B i) (gR q s i) = true := mulOk2 (hB i (by omega)) (gR_abs h (by omega) (by omega)) (by omega)
    refine ⟨_, _, .val (.int (B i * gR q s i)), _, _, by simp only [bindR_ok, bindR_ex, a_bind, a_of_some, a_var, a_c, a_bin, a_un, a_test, a_tru, a_cmp, a_and, a_or, a_not, a_if, a_andV, a_orV, a_notV, a_bl, a_nil, a_cons, a_tup, a_lst, a_call, a_callF, a_callIO, a_seq, a_next, a_ret, a_retN, a_drop, a_break, a_cont, a_ifS, a_asg, a_asgG, a_app, a_setI, a_iter, a_rng, a_for, a_slice, a_part0, a_part1, a_lc, a_yes, l_val, l_new, l_slot, f_val, f_new, f_slot, t_val, t_new, t_slot, s_val, s_new, s_slot, a_look2, a_look1, a_fa0, a_fa1, a_la0, a_la1, a_fn1, a_fn2, a_gN, a_gs0, a_gs1, a_gT, a_turn, a_fg0, a_fg1, a_wp0, a_wp1, a_rs0, a_rs1, a_mkF, a_mkIO, a_owL, a_owD, a_tkT, a_tkF, a_apf, a_apb, a_apn, a_aps, e_addI, e_subI, e_mulI, e_divI, e_modI, e_negI, e_lt, e_le, e_gt, e_ge, e_is, e_isnot, a_lift, e_lenL, e_lenT, e_lenS, e_intI, e_intB, e_absI, e_truB, e_truI, e_truN, e_truL, e_truT, e_ixL, e_ixT, e_tupL, e_tupT, e_lstL, e_lstT, e_sum, cEq_int, cNe_int, fin, finIO, outTk, own0, isS0, entry, entryIO, atI_0, atI_1, atI_2, atI_3, Option.map_some, List.set_cons_zero, List.set_cons_succ, List.getElem?_cons_zero, List.getElem?_cons_succ, List.getElem?_nil, List.getD_cons_zero, List.getD_cons_succ, List.map_cons, List.map_nil, List.length_cons, List.length_nil, List.length_map, List.replicate, List.cons_append, List.nil_append, Nat.reduceAdd, Nat.reduceSub, Nat.reduceLeDiff, Nat.reduceLT, Nat.zero_le, Int.reduceLT, Int.reduceLE, Int.reduceEq, Int.reduceNeg, if_true, if_false, Bool.false_eq_true, Bool.true_eq_false, reduceIte, Bool.or_true, Bool.true_or, Bool.false_or, Bool.or_false, Bool.and_true, Bool.and_false, Bool.true_and, Bool.false_and, Bool.not_true, Bool.not_false, decide_true, decide_false, decide_eq_true_eq, and_self, not_true_eq_false, not_false_eq_true, ite_self, a_try_ok, a_raise0, a_raise, a_h0, a_h1, a_en0, a_en1, a_se_nx, a_se_rt, a_lv0, a_lv1, a_un0, a_un1, a_cx0, a_cx1, a_cx2, a_cx3, a_xf, a_pad, a_walk, a_rev, w_enum, w_zipL, w_zipT, e_max, e_min, e_and, e_sumA, e_sumAT, List.reverse_cons, List.reverse_nil, List.zip_cons_cons, List.zip_nil_left, List.zip_nil_right, subE_BadSizes_BadSizes, subE_BadSizes_BadDistance, subE_BadDistance_BadSizes, subE_BadDistance_BadDistance]; rfl, rfl, by simp only [bindR_ok, bindR_ex, a_bind, a_of_some, a_var, a_c, a_bin, a_un, a_test, a_tru, a_cmp, a_and, a_or, a_not, a_if, a_andV, a_orV, a_notV, a_bl, a_nil, a_cons, a_tup, a_lst, a_call, a_callF, a_callIO, a_seq, a_next, a_ret, a_retN, a_drop, a_break, a_cont, a_ifS, a_asg, a_asgG, a_app, a_setI, a_iter, a_rng, a_for, a_slice, a_part0, a_part1, a_lc, a_yes, l_val, l_new, l_slot, f_val, f_new, f_slot, t_val, t_new, t_slot, s_val, s_new, s_slot, a_look2, a_look1, a_fa0, a_fa1, a_la0, a_la1, a_fn1, a_fn2, a_gN, a_gs0, a_gs1, a_gT, a_turn, a_fg0, a_fg1, a_wp0, a_wp1, a_rs0, a_rs1, a_mkF, a_mkIO, a_owL, a_owD, a_tkT, a_tkF, a_apf, a_apb, a_apn, a_aps, e_addI, e_subI, e_mulI, e_divI, e_modI, e_negI, e_lt, e_le, e_gt, e_ge, e_is, e_isnot, a_lift, e_lenL, e_lenT, e_lenS, e_intI, e_intB, e_absI, e_truB, e_truI, e_truN, e_truL, e_truT, e_ixL, e_ixT, e_tupL, e_tupT, e_lstL, e_lstT, e_sum, cEq_int, cNe_int, fin, finIO, outTk, own0, isS0, entry, entryIO, atI_0, atI_1, atI_2, atI_3, Option.map_some, List.set_cons_zero, List.set_cons_succ, List.getElem?_cons_zero, List.getElem?_cons_succ, List.getElem?_nil, List.getD_cons_zero, List.getD_cons_succ, List.map_cons, List.map_nil, List.length_cons, List.length_nil, List.length_map, List.replicate, List.cons_append, List.nil_append, Nat.reduceAdd, Nat.reduceSub, Nat.reduceLeDiff, Nat.reduceLT, Nat.zero_le, Int.reduceLT, Int.reduceLE, Int.reduceEq, Int.reduceNeg, if_true, if_false, Bool.false_eq_true, Bool.true_eq_false, reduceIte, Bool.or_true, Bool.true_or, Bool.false_or, Bool.or_false, Bool.and_true, Bool.and_false, Bool.true_and, Bool.false_and, Bool.not_true, Bool.not_false, decide_true, decide_false, decide_eq_true_eq, and_self, not_true_eq_false, not_false_eq_true, ite_self, a_try_ok, a_raise0, a_raise, a_h0, a_h1, a_en0, a_en1, a_se_nx, a_se_rt, a_lv0, a_lv1, a_un0, a_un1, a_cx0, a_cx1, a_cx2, a_cx3, a_xf, a_pad, a_walk, a_rev, w_enum, w_zipL, w_zipT, e_max, e_min, e_and, e_sumA, e_sumAT, List.reverse_cons, List.reverse_nil, List.zip_cons_cons, List.zip_nil_left, List.zip_nil_right, subE_BadSizes_BadSizes, subE_BadSizes_BadDistance, subE_BadDistance_BadSizes, subE_BadDistance_BadDistance, a1, a2, a3, m1]; rfl, rfl, rfl⟩)
  rw [L, rng_len]
  simp [Function.comp_def]
theorem shares_eq {q : Int} (h : q = 2 ∨ q = 3) {B : Nat → Int} {k : Nat} (hB : ∀ r, r ≤ 12 → (B r).natAbs ≤ 2 ^ k) (hk : k ≤ 100000) {n : Nat} (hn : n ≤ 12) : F__law_shares_hold [.int n, .tup (cntB q B n (n + 1)), .lst (sumL q B (n + 1)), .lst (rowsL q 13)] = .ok false (.bl true) .non := by
  have L := loop_rng (g := gN 5) (junk := [5]) (fun r => [.sh (.int n), .sh (.tup (cntB q B n (n + 1))), .sh (.lst (sumL q B (n + 1))), .sh (.lst (rowsL q 13)), .ow (.lst (intL B r)), .no, .no, .no]) 0 (n + 1) (fun r hr => by
    have g0 := gR_pos (q_two h) n r (by omega)
    have t := sh_turn F__law_whole n _ (.lst (sumL q B (n + 1))) (rowsL q 13) (rowL q n (n + 1)) (intL B r) (cntB q B n (n + 1)) r (gR q n r * B r) (gR q n r) rfl (cntB_at (by omega)) (lwhole_int _) (at_rows (by omega)) (at_row (by omega)) (by omega) (Int.mul_emod_right _ _)
      (divOk_of (by omega) (lt_two (gR_abs h (by omega) (by omega))) (by omega)) (by rw [intL_len]; unfold lim; omega)
    rw [Int.mul_ediv_cancel_left _ (show gR q n r ≠ 0 by omega)] at t
    rw [Int.zero_add, intL_s]
    exact t)
  have hlen : ((cntB q B n (n + 1)).length : Int) = (n : Int) + 1 := by unfold cntB; simp
  have o1 : okR ((n : Int) + 1) = true := okR_of (by omega)
  have n1 : ((n : Int) + 1).toNat = n + 1 := by omega
  have i1 : dIsi sub0 [] (.tup (cntB q B n (n + 1))) (.ty "tuple") = some (.val (.bl true)) := rfl
  have LC := lc_fn (g := gN 6) (own := [6]) (test := mYes) (elt := (mCall (fn1 dSumA) (mCons (mLc (mRng (mCons (mBin dAdd (mVar 6) (mC (.int 1))) mNil)) (gN 7) [7] mYes (mBin dMul (mBin dIx (mVar 4) (mVar 7)) (mBin dIx (mBin dIx (mVar 3) (mVar 6)) (mVar 7)))) mNil)))
    (fun _ => [.sh (.int n), .sh (.tup (cntB q B n (n + 1))), .sh (.lst (sumL q B (n + 1))), .sh (.lst (rowsL q 13)), .ow (.lst (intL B (n + 1))), .no, .no, .no]) (fun s => .int (sumTo (fun r => B r * gR q s r) (s + 1))) (rngD 0 (n + 1)) 0 [] (by rw [rng_len]; unfold lim; simp; omega) (fun i d hi => by
      obtain ⟨h1, rfl⟩ := rng_get hi
      rw [Int.zero_add, Nat.zero_add]
      have I := sh_inner h hB hk (.int n) (.tup (cntB q B n (n + 1))) (.lst (sumL q B (n + 1))) (show n + 1 ≤ 13 by omega) h1 .no
      have o2 : okR ((i : Int) + 1) = true := okR_of (by omega)
      have n2 : ((i : Int) + 1).toNat = i + 1 := by omega
      have now : noOw [7] [.sh (.int n), .sh (.tup (cntB q B n (n + 1))), .sh (.lst (sumL q B (n + 1))), .sh (.lst (rowsL q 13)), .ow (.lst (intL B (n + 1))), .no, .sh (.int (i : Int)), .no] = true := rfl
      have es := e_sumA (ns := (List.range (i + 1)).map fun r : Nat => B r * gR q i r)
      rw [sumTo_range] at es
      refine ⟨_, _, .val (.int (sumTo (fun r => B r * gR q i r) (i + 1))), _, _, by simp only [bindR_ok, bindR_ex, a_bind, a_of_some, a_var, a_c, a_bin, a_un, a_test, a_tru, a_cmp, a_and, a_or, a_not, a_if, a_andV, a_orV, a_notV, a_bl, a_nil, a_cons, a_tup, a_lst, a_call, a_callF, a_callIO, a_seq, a_next, a_ret, a_retN, a_drop, a_break, a_cont, a_ifS, a_asg, a_asgG, a_app, a_setI, a_iter, a_rng, a_for, a_slice, a_part0, a_part1, a_lc, a_yes, l_val, l_new, l_slot, f_val, f_new, f_slot, t_val, t_new, t_slot, s_val, s_new, s_slot, a_look2, a_look1, a_fa0, a_fa1, a_la0, a_la1, a_fn1, a_fn2, a_gN, a_gs0, a_gs1, a_gT, a_turn, a_fg0, a_fg1, a_wp0, a_wp1, a_rs0, a_rs1, a_mkF, a_mkIO, a_owL, a_owD, a_tkT, a_tkF, a_apf, a_apb, a_apn, a_aps, e_addI, e_subI, e_mulI, e_divI, e_modI, e_negI, e_lt, e_le, e_gt, e_ge, e_is, e_isnot, a_lift, e_lenL, e_lenT, e_lenS, e_intI, e_intB, e_absI, e_truB, e_truI, e_truN, e_truL, e_truT, e_ixL, e_ixT, e_tupL, e_tupT, e_lstL, e_lstT, e_sum, cEq_int, cNe_int, fin, finIO, outTk, own0, isS0, entry, entryIO, atI_0, atI_1, atI_2, atI_3, Option.map_some, List.set_cons_zero, List.set_cons_succ, List.getElem?_cons_zero, List.getElem?_cons_succ, List.getElem?_nil, List.getD_cons_zero, List.getD_cons_succ, List.map_cons, List.map_nil, List.length_cons, List.length_nil, List.length_map, List.replicate, List.cons_append, List.nil_append, Nat.reduceAdd, Nat.reduceSub, Nat.reduceLeDiff, Nat.reduceLT, Nat.zero_le, Int.reduceLT, Int.reduceLE, Int.reduceEq, Int.reduceNeg, if_true, if_false, Bool.false_eq_true, Bool.true_eq_false, reduceIte, Bool.or_true, Bool.true_or, Bool.false_or, Bool.or_false, Bool.and_true, Bool.and_false, Bool.true_and, Bool.false_and, Bool.not_true, Bool.not_false, decide_true, decide_false, decide_eq_true_eq, and_self, not_true_eq_false, not_false_eq_true, ite_self, a_try_ok, a_raise0, a_raise, a_h0, a_h1, a_en0, a_en1, a_se_nx, a_se_rt, a_lv0, a_lv1, a_un0, a_un1, a_cx0, a_cx1, a_cx2, a_cx3, a_xf, a_pad, a_walk, a_rev, w_enum, w_zipL, w_zipT, e_max, e_min, e_and, e_sumA, e_sumAT, List.reverse_cons, List.reverse_nil, List.zip_cons_cons, List.zip_nil_left, List.zip_nil_right, subE_BadSizes_BadSizes, subE_BadSizes_BadDistance, subE_BadDistance_BadSizes, subE_BadDistance_BadDistance]; rfl, rfl, by simp only [bindR_ok, bindR_ex, a_bind, a_of_some, a_var, a_c, a_bin, a_un, a_test, a_tru, a_cmp, a_and, a_or, a_not, a_if, a_andV, a_orV, a_notV, a_bl, a_nil, a_cons, a_tup, a_lst, a_call, a_callF, a_callIO, a_seq, a_next, a_ret, a_retN, a_drop, a_break, a_cont, a_ifS, a_asg, a_asgG, a_app, a_setI, a_iter, a_rng, a_for, a_slice, a_part0, a_part1, a_lc, a_yes, l_val, l_new, l_slot, f_val, f_new, f_slot, t_val, t_new, t_slot, s_val, s_new, s_slot, a_look2, a_look1, a_fa0, a_fa1, a_la0, a_la1, a_fn1, a_fn2, a_gN, a_gs0, a_gs1, a_gT, a_turn, a_fg0, a_fg1, a_wp0, a_wp1, a_rs0, a_rs1, a_mkF, a_mkIO, a_owL, a_owD, a_tkT, a_tkF, a_apf, a_apb, a_apn, a_aps, e_addI, e_subI, e_mulI, e_divI, e_modI, e_negI, e_lt, e_le, e_gt, e_ge, e_is, e_isnot, a_lift, e_lenL, e_lenT, e_lenS, e_intI, e_intB, e_absI, e_truB, e_truI, e_truN, e_truL, e_truT, e_ixL, e_ixT, e_tupL, e_tupT, e_lstL, e_lstT, e_sum, cEq_int, cNe_int, fin, finIO, outTk, own0, isS0, entry, entryIO, atI_0, atI_1, atI_2, atI_3, Option.map_some, List.set_cons_zero, List.set_cons_succ, List.getElem?_cons_zero, List.getElem?_cons_succ, List.getElem?_nil, List.getD_cons_zero, List.getD_cons_succ, List.map_cons, List.map_nil, List.length_cons, List.length_nil, List.length_map, List.replicate, List.cons_append, List.nil_append, Nat.reduceAdd, Nat.reduceSub, Nat.reduceLeDiff, Nat.reduceLT, Nat.zero_le, Int.reduceLT, Int.reduceLE, Int.reduceEq, Int.reduceNeg, if_true, if_false, Bool.false_eq_true, Bool.true_eq_false, reduceIte, Bool.or_true, Bool.true_or, Bool.false_or, Bool.or_false, Bool.and_true, Bool.and_false, Bool.true_and, Bool.false_and, Bool.not_true, Bool.not_false, decide_true, decide_false, decide_eq_true_eq, and_self, not_true_eq_false, not_false_eq_true, ite_self, a_try_ok, a_raise0, a_raise, a_h0, a_h1, a_en0, a_en1, a_se_nx, a_se_rt, a_lv0, a_lv1, a_un0, a_un1, a_cx0, a_cx1, a_cx2, a_cx3, a_xf, a_pad, a_walk, a_rev, w_enum, w_zipL, w_zipT, e_max, e_min, e_and, e_sumA, e_sumAT, List.reverse_cons, List.reverse_nil, List.zip_cons_cons, List.zip_nil_left, List.zip_nil_right, subE_BadSizes_BadSizes, subE_BadSizes_BadDistance, subE_BadDistance_BadSizes, subE_BadDistance_BadDistance, o2, n2, now, I, es]; rfl, rfl, rfl⟩)
  rw [rng_len, List.nil_append] at LC
  simp only [Nat.zero_add] at LC
  have eLC : ((List.range (n + 1)).map fun i => D.int (sumTo (fun r => B r * gR q i r) (i + 1))) = sumL q B (n + 1) := rfl
  rw [eLC] at LC
  have now : noOw [6] [.sh (.int n), .sh (.tup (cntB q B n (n + 1))), .sh (.lst (sumL q B (n + 1))), .sh (.lst (rowsL q 13)), .ow (.lst (intL B (n + 1))), .no, .no, .no] = true := rfl
  have pl : D.pl 64 (.lst (sumL q B (n + 1))) = true := by
    rw [show 64 = 63 + 1 from rfl, pl_lst]
    unfold sumL
    rw [List.all_map, List.all_eq_true]
    intro x _
    exact pl_int
  have ce := cEq_self pl
  rw [show intL B 0 = [] from rfl] at L
  simp only [F__law_shares_hold, B__law_shares_hold, bindR_ok, bindR_ex, a_bind, a_of_some, a_var, a_c, a_bin, a_un, a_test, a_tru, a_cmp, a_and, a_or, a_not, a_if, a_andV, a_orV, a_notV, a_bl, a_nil, a_cons, a_tup, a_lst, a_call, a_callF, a_callIO, a_seq, a_next, a_ret, a_retN, a_drop, a_break, a_cont, a_ifS, a_asg, a_asgG, a_app, a_setI, a_iter, a_rng, a_for, a_slice, a_part0, a_part1, a_lc, a_yes, l_val, l_new, l_slot, f_val, f_new, f_slot, t_val, t_new, t_slot, s_val, s_new, s_slot, a_look2, a_look1, a_fa0, a_fa1, a_la0, a_la1, a_fn1, a_fn2, a_gN, a_gs0, a_gs1, a_gT, a_turn, a_fg0, a_fg1, a_wp0, a_wp1, a_rs0, a_rs1, a_mkF, a_mkIO, a_owL, a_owD, a_tkT, a_tkF, a_apf, a_apb, a_apn, a_aps, e_addI, e_subI, e_mulI, e_divI, e_modI, e_negI, e_lt, e_le, e_gt, e_ge, e_is, e_isnot, a_lift, e_lenL, e_lenT, e_lenS, e_intI, e_intB, e_absI, e_truB, e_truI, e_truN, e_truL, e_truT, e_ixL, e_ixT, e_tupL, e_tupT, e_lstL, e_lstT, e_sum, cEq_int, cNe_int, fin, finIO, outTk, own0, isS0, entry, entryIO, atI_0, atI_1, atI_2, atI_3, Option.map_some, List.set_cons_zero, List.set_cons_succ, List.getElem?_cons_zero, List.getElem?_cons_succ, List.getElem?_nil, List.getD_cons_zero, List.getD_cons_succ, List.map_cons, List.map_nil, List.length_cons, List.length_nil, List.length_map, List.replicate, List.cons_append, List.nil_append, Nat.reduceAdd, Nat.reduceSub, Nat.reduceLeDiff, Nat.reduceLT, Nat.zero_le, Int.reduceLT, Int.reduceLE, Int.reduceEq, Int.reduceNeg, if_true, if_false, Bool.false_eq_true, Bool.true_eq_false, reduceIte, Bool.or_true, Bool.true_or, Bool.false_or, Bool.or_false, Bool.and_true, Bool.and_false, Bool.true_and, Bool.false_and, Bool.not_true, Bool.not_false, decide_true, decide_false, decide_eq_true_eq, and_self, not_true_eq_false, not_false_eq_true, ite_self, a_try_ok, a_raise0, a_raise, a_h0, a_h1, a_en0, a_en1, a_se_nx, a_se_rt, a_lv0, a_lv1, a_un0, a_un1, a_cx0, a_cx1, a_cx2, a_cx3, a_xf, a_pad, a_walk, a_rev, w_enum, w_zipL, w_zipT, e_max, e_min, e_and, e_sumA, e_sumAT, List.reverse_cons, List.reverse_nil, List.zip_cons_cons, List.zip_nil_left, List.zip_nil_right, subE_BadSizes_BadSizes, subE_BadSizes_BadDistance, subE_BadDistance_BadSizes, subE_BadDistance_BadDistance, i1, hlen, o1, n1, L, now, LC, ce]
/-! ### the identity of met counts, gone through -/
def tabR (q : Int) : List (List Int) := (List.range 13).foldl (fun rs i => match i with
  | 0 => [[1]]
  | _ => rs ++ [(List.range (i + 1)).map fun b => match b with
    | 0 => 1
    | b + 1 => (rs.getD (i - 1) []).getD b 0 + q ^ (b + 1) * (rs.getD (i - 1) []).getD (b + 1) 0]) []
def tabAt (t : List (List Int)) (r j : Nat) : Int := (t.getD r []).getD j 0
def tTot (t : List (List Int)) (q : Int) (m r e : Nat) : Int := (List.range e).foldl (fun a j => a + (-1) ^ j * q ^ (j * (j - 1) / 2) * tabAt t r j * (q ^ (m * (e - j)) - 1)) 0
def tA (t : List (List Int)) (q : Int) (m d : Nat) : List Int := (List.range 13).map fun r => if r = 0 then 1 else tTot t q m r (r + 1 - d)
def tSum (t : List (List Int)) (A : List Int) (s : Nat) : Int := (List.range (s + 1)).foldl (fun a r => a + A.getD r 0 * tabAt t s r) 0
def chk (q : Int) : Bool :=
  let t := tabR q
  (List.range 13).all fun m => (List.range 13).all fun d => 
    let A := tA t q m (d + 1)
    (List.range 13).all fun s => decide (tSum t A s = q ^ (m * (s + 1 - (d + 1))))
theorem tab_ok (q : Int) (h : q = 2 ∨ q = 3) : ((List.range 13).all fun r => (List.range 13).all fun j => decide (tabAt (tabR q) r j = gR q r j)) = true := by
  rcases h with rfl | rfl
  · decide +kernel
  · decide +kernel
theorem chk2 : chk 2 = true := by decide +kernel
theorem chk3 : chk 3 = true := by decide +kernel
theorem foldl_sum (f : Nat → Int) : ∀ n, (List.range n).foldl (fun a j => a + f j) 0 = sumTo f n
  | 0 => rfl
  | n + 1 => by rw [List.range_succ, List.foldl_append, foldl_sum f n]; rfl
theorem tab_at {q : Int} (h : q = 2 ∨ q = 3) {r j : Nat} (hr : r ≤ 12) (hj : j ≤ 12) : tabAt (tabR q) r j = gR q r j := by
  have := tab_ok q h
  rw [List.all_eq_true] at this
  have h1 := this r (List.mem_range.mpr (by omega))
  rw [List.all_eq_true] at h1
  exact of_decide_eq_true (h1 j (List.mem_range.mpr (by omega)))
theorem tTot_eq {q : Int} (h : q = 2 ∨ q = 3) {m r e : Nat} (hr : r ≤ 12) (he : e ≤ 13) : tTot (tabR q) q m r e = mTot q m r e := by
  unfold tTot mTot
  rw [foldl_sum]
  refine sumTo_ext _ fun j hj => ?_
  unfold mTerm
  rw [tab_at h hr (by omega)]
theorem tA_at {q : Int} (h : q = 2 ∨ q = 3) {m d r : Nat} (d0 : 1 ≤ d) (hr : r ≤ 12) : (tA (tabR q) q m d).getD r 0 = mA q m d r := by
  unfold tA mA
  rw [List.getD_eq_getElem?_getD, List.getElem?_map, List.getElem?_range (by omega)]
  show (if r = 0 then 1 else tTot (tabR q) q m r (r + 1 - d)) = _
  by_cases z : r = 0
  · rw [if_pos z, if_pos z]
  · rw [if_neg z, if_neg z, tTot_eq h hr (by omega)]
theorem met_id {q : Int} (h : q = 2 ∨ q = 3) {m d s : Nat} (hm : m ≤ 12) (d0 : 1 ≤ d) (d1 : d ≤ 13) (hs : s ≤ 12) : sumTo (fun r => mA q m d r * gR q s r) (s + 1) = q ^ (m * (s + 1 - d)) := by
  have hc : chk q = true := by rcases h with rfl | rfl
                               · exact chk2
                               · exact chk3
  unfold chk at hc
  rw [List.all_eq_true] at hc
  have h1 := hc m (List.mem_range.mpr (by omega))
  rw [List.all_eq_true] at h1
  have h2 := h1 (d - 1) (List.mem_range.mpr (by omega))
  rw [List.all_eq_true] at h2
  have h3 := of_decide_eq_true (h2 s (List.mem_range.mpr (by omega)))
  rw [show d - 1 + 1 = d by omega] at h3
  rw [← h3]
  unfold tSum
  rw [foldl_sum]
  refine sumTo_ext _ fun r hr => ?_
  rw [tA_at h d0 (by omega), tab_at h hs (by omega)]
def chkP (q : Int) : Bool := (List.range 13).all fun m => 
  let A := tA (tabR q) q m 1
  (List.range 13).all fun r => decide (A.getD r 0 = gP q m r)
theorem chkP2 : chkP 2 = true := by decide +kernel
theorem chkP3 : chkP 3 = true := by decide +kernel
theorem mA_one {q : Int} (h : q = 2 ∨ q = 3) {m r : Nat} (hm : m ≤ 12) (hr : r ≤ 12) : mA q m 1 r = gP q m r := by
  have hc : chkP q = true := by rcases h with rfl | rfl
                                · exact chkP2
                                · exact chkP3
  unfold chkP at hc
  rw [List.all_eq_true] at hc
  have h1 := hc m (List.mem_range.mpr (by omega))
  rw [List.all_eq_true] at h1
  have h2 := of_decide_eq_true (h1 r (List.mem_range.mpr (by omega)))
  rw [tA_at h (by omega) hr] at h2
  exact h2
/-! ### tables -/
theorem at_eq {q : Int} {a b : Nat} (ha : a ≤ 12) (hb : b ≤ a) : F__law_at [.lst (rowsL q 13), .int a, .int b] = .ok false (.int (gR q a b)) .non := by
  have e1 : atI (rowsL q 13) (a : Int) = some (.lst (rowL q a (a + 1))) := at_rows (by omega)
  have e2 : atI (rowL q a (a + 1)) (b : Int) = some (.int (gR q a b)) := at_row (by omega)
  simp only [F__law_at, B__law_at, bindR_ok, bindR_ex, a_bind, a_of_some, a_var, a_c, a_bin, a_un, a_test, a_tru, a_cmp, a_and, a_or, a_not, a_if, a_andV, a_orV, a_notV, a_bl, a_nil, a_cons, a_tup, a_lst, a_call, a_callF, a_callIO, a_seq, a_next, a_ret, a_retN, a_drop, a_break, a_cont, a_ifS, a_asg, a_asgG, a_app, a_setI, a_iter, a_rng, a_for, a_slice, a_part0, a_part1, a_lc, a_yes, l_val, l_new, l_slot, f_val, f_new, f_slot, t_val, t_new, t_slot, s_val, s_new, s_slot, a_look2, a_look1, a_fa0, a_fa1, a_la0, a_la1, a_fn1, a_fn2, a_gN, a_gs0, a_gs1, a_gT, a_turn, a_fg0, a_fg1, a_wp0, a_wp1, a_rs0, a_rs1, a_mkF, a_mkIO, a_owL, a_owD, a_tkT, a_tkF, a_apf, a_apb, a_apn, a_aps, e_addI, e_subI, e_mulI, e_divI, e_modI, e_negI, e_lt, e_le, e_gt, e_ge, e_is, e_isnot, a_lift, e_lenL, e_lenT, e_lenS, e_intI, e_intB, e_absI, e_truB, e_truI, e_truN, e_truL, e_truT, e_ixL, e_ixT, e_tupL, e_tupT, e_lstL, e_lstT, e_sum, cEq_int, cNe_int, fin, finIO, outTk, own0, isS0, entry, entryIO, atI_0, atI_1, atI_2, atI_3, Option.map_some, List.set_cons_zero, List.set_cons_succ, List.getElem?_cons_zero, List.getElem?_cons_succ, List.getElem?_nil, List.getD_cons_zero, List.getD_cons_succ, List.map_cons, List.map_nil, List.length_cons, List.length_nil, List.length_map, List.replicate, List.cons_append, List.nil_append, Nat.reduceAdd, Nat.reduceSub, Nat.reduceLeDiff, Nat.reduceLT, Nat.zero_le, Int.reduceLT, Int.reduceLE, Int.reduceEq, Int.reduceNeg, if_true, if_false, Bool.false_eq_true, Bool.true_eq_false, reduceIte, Bool.or_true, Bool.true_or, Bool.false_or, Bool.or_false, Bool.and_true, Bool.and_false, Bool.true_and, Bool.false_and, Bool.not_true, Bool.not_false, decide_true, decide_false, decide_eq_true_eq, and_self, not_true_eq_false, not_false_eq_true, ite_self, a_try_ok, a_raise0, a_raise, a_h0, a_h1, a_en0, a_en1, a_se_nx, a_se_rt, a_lv0, a_lv1, a_un0, a_un1, a_cx0, a_cx1, a_cx2, a_cx3, a_xf, a_pad, a_walk, a_rev, w_enum, w_zipL, w_zipT, e_max, e_min, e_and, e_sumA, e_sumAT, List.reverse_cons, List.reverse_nil, List.zip_cons_cons, List.zip_nil_left, List.zip_nil_right, subE_BadSizes_BadSizes, subE_BadSizes_BadDistance, subE_BadDistance_BadSizes, subE_BadDistance_BadDistance, show ¬ ((b : Int) < 0) by omega, show ¬ ((a : Int) < (b : Int)) by omega, e1, e2]
theorem tb_in (FF : List D → Rf) (q t w k i T a b : Int) (rs fo : D) (r : Int) (hi : i < t) (e1 : FF [.int q, .int t] = .ok false (.int a) .non) (e2 : FF [.int q, .int i] = .ok false (.int b) .non) (m1 : mulOk T (a - b) = true) :
  turn (gN 8) [8] (mAsg 7 (mIf (mCmp cLt (mVar 8) (mVar 1)) (mBin dMul (mVar 7) (mBin dSub (mCallF FF (mCons (mVar 0) (mCons (mVar 1) mNil))) (mCallF FF (mCons (mVar 0) (mCons (mVar 8) mNil))))) (mC (.int 0)))) (.int i) [.sh (.int q), .sh (.int t), .sh (.int w), .sh (.int k), .sh rs, .ow fo, .sh (.int r), .sh (.int T), .no] = .ok .nx [.sh (.int q), .sh (.int t), .sh (.int w), .sh (.int k), .sh rs, .ow fo, .sh (.int r), .sh (.int (T * (a - b))), .no] := by
  simp only [bindR_ok, bindR_ex, a_bind, a_of_some, a_var, a_c, a_bin, a_un, a_test, a_tru, a_cmp, a_and, a_or, a_not, a_if, a_andV, a_orV, a_notV, a_bl, a_nil, a_cons, a_tup, a_lst, a_call, a_callF, a_callIO, a_seq, a_next, a_ret, a_retN, a_drop, a_break, a_cont, a_ifS, a_asg, a_asgG, a_app, a_setI, a_iter, a_rng, a_for, a_slice, a_part0, a_part1, a_lc, a_yes, l_val, l_new, l_slot, f_val, f_new, f_slot, t_val, t_new, t_slot, s_val, s_new, s_slot, a_look2, a_look1, a_fa0, a_fa1, a_la0, a_la1, a_fn1, a_fn2, a_gN, a_gs0, a_gs1, a_gT, a_turn, a_fg0, a_fg1, a_wp0, a_wp1, a_rs0, a_rs1, a_mkF, a_mkIO, a_owL, a_owD, a_tkT, a_tkF, a_apf, a_apb, a_apn, a_aps, e_addI, e_subI, e_mulI, e_divI, e_modI, e_negI, e_lt, e_le, e_gt, e_ge, e_is, e_isnot, a_lift, e_lenL, e_lenT, e_lenS, e_intI, e_intB, e_absI, e_truB, e_truI, e_truN, e_truL, e_truT, e_ixL, e_ixT, e_tupL, e_tupT, e_lstL, e_lstT, e_sum, cEq_int, cNe_int, fin, finIO, outTk, own0, isS0, entry, entryIO, atI_0, atI_1, atI_2, atI_3, Option.map_some, List.set_cons_zero, List.set_cons_succ, List.getElem?_cons_zero, List.getElem?_cons_succ, List.getElem?_nil, List.getD_cons_zero, List.getD_cons_succ, List.map_cons, List.map_nil, List.length_cons, List.length_nil, List.length_map, List.replicate, List.cons_append, List.nil_append, Nat.reduceAdd, Nat.reduceSub, Nat.reduceLeDiff, Nat.reduceLT, Nat.zero_le, Int.reduceLT, Int.reduceLE, Int.reduceEq, Int.reduceNeg, if_true, if_false, Bool.false_eq_true, Bool.true_eq_false, reduceIte, Bool.or_true, Bool.true_or, Bool.false_or, Bool.or_false, Bool.and_true, Bool.and_false, Bool.true_and, Bool.false_and, Bool.not_true, Bool.not_false, decide_true, decide_false, decide_eq_true_eq, and_self, not_true_eq_false, not_false_eq_true, ite_self, a_try_ok, a_raise0, a_raise, a_h0, a_h1, a_en0, a_en1, a_se_nx, a_se_rt, a_lv0, a_lv1, a_un0, a_un1, a_cx0, a_cx1, a_cx2, a_cx3, a_xf, a_pad, a_walk, a_rev, w_enum, w_zipL, w_zipT, e_max, e_min, e_and, e_sumA, e_sumAT, List.reverse_cons, List.reverse_nil, List.zip_cons_cons, List.zip_nil_left, List.zip_nil_right, subE_BadSizes_BadSizes, subE_BadSizes_BadDistance, subE_BadDistance_BadSizes, subE_BadDistance_BadDistance, hi, e1, e2, m1]
def tbInner : M Fl := (mAsg 7 (mIf (mCmp cLt (mVar 8) (mVar 1)) (mBin dMul (mVar 7) (mBin dSub (mCallF F__law_power (mCons (mVar 0) (mCons (mVar 1) mNil))) (mCallF F__law_power (mCons (mVar 0) (mCons (mVar 8) mNil))))) (mC (.int 0))))
theorem tb_out (FA : List D → Rf) (inner : M Fl) (q t w k r x T : Int) (rs : D) (fo : List D) (j : Nat) (hr : okR r = true) (hj : r.toNat = j) (h1 : FA [rs, .int w, .int r] = .ok false (.int x) .non)
    (L : mLoop (gN 8) [8] inner (rngD 0 j) [.sh (.int q), .sh (.int t), .sh (.int w), .sh (.int k), .sh rs, .ow (.lst fo), .sh (.int r), .sh (.int x), .no] = .ok .nx [.sh (.int q), .sh (.int t), .sh (.int w), .sh (.int k), .sh rs, .ow (.lst fo), .sh (.int r), .sh (.int T), .no]) (hl : fo.length < lim) :
  turn (gN 6) [6, 7, 8] (mSeq (mAsg 7 (mCallF FA (mCons (mVar 4) (mCons (mVar 2) (mCons (mVar 6) mNil)))))
  (mSeq (mFor (mRng (mCons (mVar 6) mNil)) (gN 8) [8] inner)
  (mDrop (mApp 5 (mVar 7))))) (.int r) [.sh (.int q), .sh (.int t), .sh (.int w), .sh (.int k), .sh rs, .ow (.lst fo), .no, .no, .no] = .ok .nx [.sh (.int q), .sh (.int t), .sh (.int w), .sh (.int k), .sh rs, .ow (.lst (fo ++ [.int T])), .no, .no, .no] := by
  simp only [bindR_ok, bindR_ex, a_bind, a_of_some, a_var, a_c, a_bin, a_un, a_test, a_tru, a_cmp, a_and, a_or, a_not, a_if, a_andV, a_orV, a_notV, a_bl, a_nil, a_cons, a_tup, a_lst, a_call, a_callF, a_callIO, a_seq, a_next, a_ret, a_retN, a_drop, a_break, a_cont, a_ifS, a_asg, a_asgG, a_app, a_setI, a_iter, a_rng, a_for, a_slice, a_part0, a_part1, a_lc, a_yes, l_val, l_new, l_slot, f_val, f_new, f_slot, t_val, t_new, t_slot, s_val, s_new, s_slot, a_look2, a_look1, a_fa0, a_fa1, a_la0, a_la1, a_fn1, a_fn2, a_gN, a_gs0, a_gs1, a_gT, a_turn, a_fg0, a_fg1, a_wp0, a_wp1, a_rs0, a_rs1, a_mkF, a_mkIO, a_owL, a_owD, a_tkT, a_tkF, a_apf, a_apb, a_apn, a_aps, e_addI, e_subI, e_mulI, e_divI, e_modI, e_negI, e_lt, e_le, e_gt, e_ge, e_is, e_isnot, a_lift, e_lenL, e_lenT, e_lenS, e_intI, e_intB, e_absI, e_truB, e_truI, e_truN, e_truL, e_truT, e_ixL, e_ixT, e_tupL, e_tupT, e_lstL, e_lstT, e_sum, cEq_int, cNe_int, fin, finIO, outTk, own0, isS0, entry, entryIO, atI_0, atI_1, atI_2, atI_3, Option.map_some, List.set_cons_zero, List.set_cons_succ, List.getElem?_cons_zero, List.getElem?_cons_succ, List.getElem?_nil, List.getD_cons_zero, List.getD_cons_succ, List.map_cons, List.map_nil, List.length_cons, List.length_nil, List.length_map, List.replicate, List.cons_append, List.nil_append, Nat.reduceAdd, Nat.reduceSub, Nat.reduceLeDiff, Nat.reduceLT, Nat.zero_le, Int.reduceLT, Int.reduceLE, Int.reduceEq, Int.reduceNeg, if_true, if_false, Bool.false_eq_true, Bool.true_eq_false, reduceIte, Bool.or_true, Bool.true_or, Bool.false_or, Bool.or_false, Bool.and_true, Bool.and_false, Bool.true_and, Bool.false_and, Bool.not_true, Bool.not_false, decide_true, decide_false, decide_eq_true_eq, and_self, not_true_eq_false, not_false_eq_true, ite_self, a_try_ok, a_raise0, a_raise, a_h0, a_h1, a_en0, a_en1, a_se_nx, a_se_rt, a_lv0, a_lv1, a_un0, a_un1, a_cx0, a_cx1, a_cx2, a_cx3, a_xf, a_pad, a_walk, a_rev, w_enum, w_zipL, w_zipT, e_max, e_min, e_and, e_sumA, e_sumAT, List.reverse_cons, List.reverse_nil, List.zip_cons_cons, List.zip_nil_left, List.zip_nil_right, subE_BadSizes_BadSizes, subE_BadSizes_BadDistance, subE_BadDistance_BadSizes, subE_BadDistance_BadDistance, h1, hr, hj, L, hl]
theorem tb_loop {q : Int} (h : q = 2 ∨ q = 3) {t w r : Nat} (ht : t ≤ 12) (hw : w ≤ 12) (hr : r ≤ w) (hrt : r ≤ t) (k : Int) (rs fo : D) :
    mLoop (gN 8) [8] tbInner (rngD 0 r) [.sh (.int q), .sh (.int t), .sh (.int w), .sh (.int k), .sh rs, .ow fo, .sh (.int r), .sh (.int (gR q w r)), .no] = .ok .nx [.sh (.int q), .sh (.int t), .sh (.int w), .sh (.int k), .sh rs, .ow fo, .sh (.int r), .sh (.int (gR q w r * gP q t r)), .no] := by
  have L := loop_rng (g := gN 8) (junk := [8]) (body := tbInner) (fun i => [.sh (.int q), .sh (.int t), .sh (.int w), .sh (.int k), .sh rs, .ow fo, .sh (.int r), .sh (.int (gR q w r * gP q t i)), .no]) 0 r (fun i hi => by
    have e1 := law_power_eq (q100 h) (e := (t : Int)) (by omega) (by omega)
    have e2 := law_power_eq (q100 h) (e := (i : Int)) (by omega) (by omega)
    rw [Int.toNat_natCast] at e1 e2
    have m1 : mulOk (gR q w r * gP q t i) (q ^ t - q ^ i) = true := mulOk2 (abs_mul (gR_abs h (by omega) (by omega)) (gP_abs h (by omega) i (by omega))) (abs_diff (by have := pow_pos1 (q_two h) t; omega) (by have := pow_pos1 (q_two h) i; omega) (q_pow h (show t ≤ 41 by omega)) (q_pow h (show i ≤ 41 by omega))) (by omega)
    rw [Int.zero_add, gP_s, ← Int.mul_assoc]
    exact tb_in F__law_power q t w k i _ _ _ rs fo r (by omega) e1 e2 m1)
  rw [gP_0, Int.mul_one] at L
  exact L
theorem cntB_s (q : Int) (B : Nat → Int) (n k : Nat) : cntB q B n (k + 1) = cntB q B n k ++ [.int (gR q n k * B k)] := by unfold cntB; rw [List.range_succ, List.map_append]; rfl
theorem cntB_len (q : Int) (B : Nat → Int) (n k : Nat) : (cntB q B n k).length = k := by unfold cntB; simp
theorem tb_all (body : M Fl) (q t w k : Int) (rs : D) (fo : List D) (n : Nat) (o1 : okR (k + 1) = true) (n1 : (k + 1).toNat = n)
    (L : mLoop (gN 6) [6, 7, 8] body (rngD 0 n) [.sh (.int q), .sh (.int t), .sh (.int w), .sh (.int k), .sh rs, .ow (.lst []), .no, .no, .no] = .ok .nx [.sh (.int q), .sh (.int t), .sh (.int w), .sh (.int k), .sh rs, .ow (.lst fo), .no, .no, .no]) :
    mkF 9 (mSeq (mAsg 5 (mLst mNil)) (mSeq (mFor (mRng (mCons (mBin dAdd (mVar 3) (mC (.int 1))) mNil)) (gN 6) [6, 7, 8] body) (mRet (mVar 5)))) [.int q, .int t, .int w, .int k, rs] = .ok true (.lst fo) .non := by
  simp only [bindR_ok, bindR_ex, a_bind, a_of_some, a_var, a_c, a_bin, a_un, a_test, a_tru, a_cmp, a_and, a_or, a_not, a_if, a_andV, a_orV, a_notV, a_bl, a_nil, a_cons, a_tup, a_lst, a_call, a_callF, a_callIO, a_seq, a_next, a_ret, a_retN, a_drop, a_break, a_cont, a_ifS, a_asg, a_asgG, a_app, a_setI, a_iter, a_rng, a_for, a_slice, a_part0, a_part1, a_lc, a_yes, l_val, l_new, l_slot, f_val, f_new, f_slot, t_val, t_new, t_slot, s_val, s_new, s_slot, a_look2, a_look1, a_fa0, a_fa1, a_la0, a_la1, a_fn1, a_fn2, a_gN, a_gs0, a_gs1, a_gT, a_turn, a_fg0, a_fg1, a_wp0, a_wp1, a_rs0, a_rs1, a_mkF, a_mkIO, a_owL, a_owD, a_tkT, a_tkF, a_apf, a_apb, a_apn, a_aps, e_addI, e_subI, e_mulI, e_divI, e_modI, e_negI, e_lt, e_le, e_gt, e_ge, e_is, e_isnot, a_lift, e_lenL, e_lenT, e_lenS, e_intI, e_intB, e_absI, e_truB, e_truI, e_truN, e_truL, e_truT, e_ixL, e_ixT, e_tupL, e_tupT, e_lstL, e_lstT, e_sum, cEq_int, cNe_int, fin, finIO, outTk, own0, isS0, entry, entryIO, atI_0, atI_1, atI_2, atI_3, Option.map_some, List.set_cons_zero, List.set_cons_succ, List.getElem?_cons_zero, List.getElem?_cons_succ, List.getElem?_nil, List.getD_cons_zero, List.getD_cons_succ, List.map_cons, List.map_nil, List.length_cons, List.length_nil, List.length_map, List.replicate, List.cons_append, List.nil_append, Nat.reduceAdd, Nat.reduceSub, Nat.reduceLeDiff, Nat.reduceLT, Nat.zero_le, Int.reduceLT, Int.reduceLE, Int.reduceEq, Int.reduceNeg, if_true, if_false, Bool.false_eq_true, Bool.true_eq_false, reduceIte, Bool.or_true, Bool.true_or, Bool.false_or, Bool.or_false, Bool.and_true, Bool.and_false, Bool.true_and, Bool.false_and, Bool.not_true, Bool.not_false, decide_true, decide_false, decide_eq_true_eq, and_self, not_true_eq_false, not_false_eq_true, ite_self, a_try_ok, a_raise0, a_raise, a_h0, a_h1, a_en0, a_en1, a_se_nx, a_se_rt, a_lv0, a_lv1, a_un0, a_un1, a_cx0, a_cx1, a_cx2, a_cx3, a_xf, a_pad, a_walk, a_rev, w_enum, w_zipL, w_zipT, e_max, e_min, e_and, e_sumA, e_sumAT, List.reverse_cons, List.reverse_nil, List.zip_cons_cons, List.zip_nil_left, List.zip_nil_right, subE_BadSizes_BadSizes, subE_BadSizes_BadDistance, subE_BadDistance_BadSizes, subE_BadDistance_BadDistance, o1, n1, L]
theorem ltables_eq {q : Int} (h : q = 2 ∨ q = 3) {m n : Nat} (hm : m ≤ 12) (nm : n ≤ m) : F__law_tables [.int q, .int m, .int n, .int n, .lst (rowsL q 13)] = .ok true (.lst (cntB q (gP q m) n (n + 1))) .non := by
  have L := loop_rng (g := gN 6) (junk := [6, 7, 8]) (fun r => [.sh (.int q), .sh (.int m), .sh (.int n), .sh (.int n), .sh (.lst (rowsL q 13)), .ow (.lst (cntB q (gP q m) n r)), .no, .no, .no]) 0 (n + 1) (fun r hr => by
    rw [Int.zero_add, cntB_s]
    exact tb_out F__law_at tbInner q m n n r _ _ (.lst (rowsL q 13)) _ r (okR_of (by omega)) (by omega) (at_eq (by omega) (by omega)) (tb_loop h hm (by omega) (by omega) (by omega) _ _ _) (by rw [cntB_len]; unfold lim; omega))
  have o1 : okR ((n : Int) + 1) = true := okR_of (by omega)
  have n1 : ((n : Int) + 1).toNat = n + 1 := by omega
  exact tb_all _ q m n n (.lst (rowsL q 13)) _ (n + 1) o1 n1 L
/-! ### words of all ranks -/
theorem tableV_nat {q : Int} {t w r : Nat} (hw : r ≤ w) : tableV q (t : Int) (w : Int) (r : Int) = gR q w r * gP q t r := by
  unfold tableV
  rw [Int.toNat_natCast, Int.toNat_natCast, Int.toNat_natCast]
  by_cases c : (r : Int) < 0 ∨ (r : Int) > t ∨ (r : Int) > w
  · rw [if_pos c, gP_out q t r (by omega), Int.mul_zero]
  · rw [if_neg c]
theorem tableV_sym {q t w r : Int} (h : q = 2 ∨ q = 3) : tableV q w t r = tableV q t w r := by
  unfold tableV
  by_cases c : r < 0 ∨ r > t ∨ r > w
  · rw [if_pos (by omega), if_pos c]
  · rw [if_neg (by omega), if_neg c]
    exact exchange (q_two h) _ _ _ (by omega) (by omega)
theorem pl_told {x : Int} : D.pl 64 (.tup [.str "told", .int x]) = true := by
  rw [show 64 = 63 + 1 from rfl, pl_tup, List.all_cons, List.all_cons, List.all_nil, pl_int, pl_str]
  decide +kernel
theorem told_told : cNe (.str "told") (.str "told") = some false := cNe_self (by rw [pl_str]; decide +kernel)
theorem wh_turn (FW : List D → Rf) (q m n r x : Int) (rs : D) (ts : List D) (h1 : FW [.int q, .int m, .int n, .int r] = .ok false (.tup [.str "told", .int x]) .non) (h2 : r ≤ m → FW [.int q, .int n, .int m, .int r] = .ok false (.tup [.str "told", .int x]) .non) (h3 : ¬ r ≤ m → x = 0) (hl : ts.length < lim) :
  turn (gN 5) [5, 6, 7] (mSeq (mAsg 6 (mCallF FW (mCons (mVar 0) (mCons (mVar 1) (mCons (mVar 2) (mCons (mVar 5) mNil))))))
  (mSeq (mIfS (mCmp cNe (mBin dIx (mVar 6) (mC (.int 0))) (mC (.str "told"))) (mRet (mC (.bl false))) mNext)
  (mSeq (mDrop (mApp 4 (mBin dIx (mVar 6) (mC (.int 1)))))
  (mSeq (mAsg 7 (mIf (mCmp cLe (mVar 5) (mVar 1)) (mCallF FW (mCons (mVar 0) (mCons (mVar 2) (mCons (mVar 1) (mCons (mVar 5) mNil))))) (mTup (mCons (mC (.str "told")) (mCons (mC (.int 0)) mNil)))))
  (mIfS (mCmp cNe (mVar 7) (mVar 6)) (mRet (mC (.bl false))) mNext))))) (.int r) [.sh (.int q), .sh (.int m), .sh (.int n), .sh rs, .ow (.lst ts), .no, .no, .no, .no] = .ok .nx [.sh (.int q), .sh (.int m), .sh (.int n), .sh rs, .ow (.lst (ts ++ [.int x])), .no, .no, .no, .no] := by
  have c1 := cNe_self (pl_told (x := x))
  by_cases c : r ≤ m
  · have h2 := h2 c
    simp only [bindR_ok, bindR_ex, a_bind, a_of_some, a_var, a_c, a_bin, a_un, a_test, a_tru, a_cmp, a_and, a_or, a_not, a_if, a_andV, a_orV, a_notV, a_bl, a_nil, a_cons, a_tup, a_lst, a_call, a_callF, a_callIO, a_seq, a_next, a_ret, a_retN, a_drop, a_break, a_cont, a_ifS, a_asg, a_asgG, a_app, a_setI, a_iter, a_rng, a_for, a_slice, a_part0, a_part1, a_lc, a_yes, l_val, l_new, l_slot, f_val, f_new, f_slot, t_val, t_new, t_slot, s_val, s_new, s_slot, a_look2, a_look1, a_fa0, a_fa1, a_la0, a_la1, a_fn1, a_fn2, a_gN, a_gs0, a_gs1, a_gT, a_turn, a_fg0, a_fg1, a_wp0, a_wp1, a_rs0, a_rs1, a_mkF, a_mkIO, a_owL, a_owD, a_tkT, a_tkF, a_apf, a_apb, a_apn, a_aps, e_addI, e_subI, e_mulI, e_divI, e_modI, e_negI, e_lt, e_le, e_gt, e_ge, e_is, e_isnot, a_lift, e_lenL, e_lenT, e_lenS, e_intI, e_intB, e_absI, e_truB, e_truI, e_truN, e_truL, e_truT, e_ixL, e_ixT, e_tupL, e_tupT, e_lstL, e_lstT, e_sum, cEq_int, cNe_int, fin, finIO, outTk, own0, isS0, entry, entryIO, atI_0, atI_1, atI_2, atI_3, Option.map_some, List.set_cons_zero, List.set_cons_succ, List.getElem?_cons_zero, List.getElem?_cons_succ, List.getElem?_nil, List.getD_cons_zero, List.getD_cons_succ, List.map_cons, List.map_nil, List.length_cons, List.length_nil, List.length_map, List.replicate, List.cons_append, List.nil_append, Nat.reduceAdd, Nat.reduceSub, Nat.reduceLeDiff, Nat.reduceLT, Nat.zero_le, Int.reduceLT, Int.reduceLE, Int.reduceEq, Int.reduceNeg, if_true, if_false, Bool.false_eq_true, Bool.true_eq_false, reduceIte, Bool.or_true, Bool.true_or, Bool.false_or, Bool.or_false, Bool.and_true, Bool.and_false, Bool.true_and, Bool.false_and, Bool.not_true, Bool.not_false, decide_true, decide_false, decide_eq_true_eq, and_self, not_true_eq_false, not_false_eq_true, ite_self, a_try_ok, a_raise0, a_raise, a_h0, a_h1, a_en0, a_en1, a_se_nx, a_se_rt, a_lv0, a_lv1, a_un0, a_un1, a_cx0, a_cx1, a_cx2, a_cx3, a_xf, a_pad, a_walk, a_rev, w_enum, w_zipL, w_zipT, e_max, e_min, e_and, e_sumA, e_sumAT, List.reverse_cons, List.reverse_nil, List.zip_cons_cons, List.zip_nil_left, List.zip_nil_right, subE_BadSizes_BadSizes, subE_BadSizes_BadDistance, subE_BadDistance_BadSizes, subE_BadDistance_BadDistance, h1, h2, c, hl, told_told, c1]
  · have h3 := h3 c
    subst h3
    simp only [bindR_ok, bindR_ex, a_bind, a_of_some, a_var, a_c, a_bin, a_un, a_test, a_tru, a_cmp, a_and, a_or, a_not, a_if, a_andV, a_orV, a_notV, a_bl, a_nil, a_cons, a_tup, a_lst, a_call, a_callF, a_callIO, a_seq, a_next, a_ret, a_retN, a_drop, a_break, a_cont, a_ifS, a_asg, a_asgG, a_app, a_setI, a_iter, a_rng, a_for, a_slice, a_part0, a_part1, a_lc, a_yes, l_val, l_new, l_slot, f_val, f_new, f_slot, t_val, t_new, t_slot, s_val, s_new, s_slot, a_look2, a_look1, a_fa0, a_fa1, a_la0, a_la1, a_fn1, a_fn2, a_gN, a_gs0, a_gs1, a_gT, a_turn, a_fg0, a_fg1, a_wp0, a_wp1, a_rs0, a_rs1, a_mkF, a_mkIO, a_owL, a_owD, a_tkT, a_tkF, a_apf, a_apb, a_apn, a_aps, e_addI, e_subI, e_mulI, e_divI, e_modI, e_negI, e_lt, e_le, e_gt, e_ge, e_is, e_isnot, a_lift, e_lenL, e_lenT, e_lenS, e_intI, e_intB, e_absI, e_truB, e_truI, e_truN, e_truL, e_truT, e_ixL, e_ixT, e_tupL, e_tupT, e_lstL, e_lstT, e_sum, cEq_int, cNe_int, fin, finIO, outTk, own0, isS0, entry, entryIO, atI_0, atI_1, atI_2, atI_3, Option.map_some, List.set_cons_zero, List.set_cons_succ, List.getElem?_cons_zero, List.getElem?_cons_succ, List.getElem?_nil, List.getD_cons_zero, List.getD_cons_succ, List.map_cons, List.map_nil, List.length_cons, List.length_nil, List.length_map, List.replicate, List.cons_append, List.nil_append, Nat.reduceAdd, Nat.reduceSub, Nat.reduceLeDiff, Nat.reduceLT, Nat.zero_le, Int.reduceLT, Int.reduceLE, Int.reduceEq, Int.reduceNeg, if_true, if_false, Bool.false_eq_true, Bool.true_eq_false, reduceIte, Bool.or_true, Bool.true_or, Bool.false_or, Bool.or_false, Bool.and_true, Bool.and_false, Bool.true_and, Bool.false_and, Bool.not_true, Bool.not_false, decide_true, decide_false, decide_eq_true_eq, and_self, not_true_eq_false, not_false_eq_true, ite_self, a_try_ok, a_raise0, a_raise, a_h0, a_h1, a_en0, a_en1, a_se_nx, a_se_rt, a_lv0, a_lv1, a_un0, a_un1, a_cx0, a_cx1, a_cx2, a_cx3, a_xf, a_pad, a_walk, a_rev, w_enum, w_zipL, w_zipT, e_max, e_min, e_and, e_sumA, e_sumAT, List.reverse_cons, List.reverse_nil, List.zip_cons_cons, List.zip_nil_left, List.zip_nil_right, subE_BadSizes_BadSizes, subE_BadSizes_BadDistance, subE_BadDistance_BadSizes, subE_BadDistance_BadDistance, h1, c, hl, told_told, c1]
theorem sumP {q : Int} (m s : Nat) : sumTo (fun r => gP q m r * gR q s r) (s + 1) = q ^ (m * s) := by
  rw [← all_tables]
  exact sumTo_ext _ fun r _ => Int.mul_comm _ _
theorem wh_elt (FP : List D → Rf) (q m n i x : Int) (rs fo : D) (mm : mulOk m i = true) (e1 : FP [.int q, .int (m * i)] = .ok false (.int x) .non) :
    (mCallF FP (mCons (mVar 0) (mCons (mBin dMul (mVar 1) (mVar 8)) mNil))) [.sh (.int q), .sh (.int m), .sh (.int n), .sh rs, .ow fo, .no, .no, .no, .sh (.int i)] = .ok (.val (.int x)) [.sh (.int q), .sh (.int m), .sh (.int n), .sh rs, .ow fo, .no, .no, .no, .sh (.int i)] := by
  simp only [bindR_ok, bindR_ex, a_bind, a_of_some, a_var, a_c, a_bin, a_un, a_test, a_tru, a_cmp, a_and, a_or, a_not, a_if, a_andV, a_orV, a_notV, a_bl, a_nil, a_cons, a_tup, a_lst, a_call, a_callF, a_callIO, a_seq, a_next, a_ret, a_retN, a_drop, a_break, a_cont, a_ifS, a_asg, a_asgG, a_app, a_setI, a_iter, a_rng, a_for, a_slice, a_part0, a_part1, a_lc, a_yes, l_val, l_new, l_slot, f_val, f_new, f_slot, t_val, t_new, t_slot, s_val, s_new, s_slot, a_look2, a_look1, a_fa0, a_fa1, a_la0, a_la1, a_fn1, a_fn2, a_gN, a_gs0, a_gs1, a_gT, a_turn, a_fg0, a_fg1, a_wp0, a_wp1, a_rs0, a_rs1, a_mkF, a_mkIO, a_owL, a_owD, a_tkT, a_tkF, a_apf, a_apb, a_apn, a_aps, e_addI, e_subI, e_mulI, e_divI, e_modI, e_negI, e_lt, e_le, e_gt, e_ge, e_is, e_isnot, a_lift, e_lenL, e_lenT, e_lenS, e_intI, e_intB, e_absI, e_truB, e_truI, e_truN, e_truL, e_truT, e_ixL, e_ixT, e_tupL, e_tupT, e_lstL, e_lstT, e_sum, cEq_int, cNe_int, fin, finIO, outTk, own0, isS0, entry, entryIO, atI_0, atI_1, atI_2, atI_3, Option.map_some, List.set_cons_zero, List.set_cons_succ, List.getElem?_cons_zero, List.getElem?_cons_succ, List.getElem?_nil, List.getD_cons_zero, List.getD_cons_succ, List.map_cons, List.map_nil, List.length_cons, List.length_nil, List.length_map, List.replicate, List.cons_append, List.nil_append, Nat.reduceAdd, Nat.reduceSub, Nat.reduceLeDiff, Nat.reduceLT, Nat.zero_le, Int.reduceLT, Int.reduceLE, Int.reduceEq, Int.reduceNeg, if_true, if_false, Bool.false_eq_true, Bool.true_eq_false, reduceIte, Bool.or_true, Bool.true_or, Bool.false_or, Bool.or_false, Bool.and_true, Bool.and_false, Bool.true_and, Bool.false_and, Bool.not_true, Bool.not_false, decide_true, decide_false, decide_eq_true_eq, and_self, not_true_eq_false, not_false_eq_true, ite_self, a_try_ok, a_raise0, a_raise, a_h0, a_h1, a_en0, a_en1, a_se_nx, a_se_rt, a_lv0, a_lv1, a_un0, a_un1, a_cx0, a_cx1, a_cx2, a_cx3, a_xf, a_pad, a_walk, a_rev, w_enum, w_zipL, w_zipT, e_max, e_min, e_and, e_sumA, e_sumAT, List.reverse_cons, List.reverse_nil, List.zip_cons_cons, List.zip_nil_left, List.zip_nil_right, subE_BadSizes_BadSizes, subE_BadSizes_BadDistance, subE_BadDistance_BadSizes, subE_BadDistance_BadDistance, mm, e1]
theorem wh_all (FS : List D → Rf) (body : M Fl) (elt : M Tk) (q m n : Int) (rs : D) (fo sm : List D) (k : Nat) (o1 : okR (n + 1) = true) (n1 : (n + 1).toNat = k)
    (L : mLoop (gN 5) [5, 6, 7] body (rngD 0 k) [.sh (.int q), .sh (.int m), .sh (.int n), .sh rs, .ow (.lst []), .no, .no, .no, .no] = .ok .nx [.sh (.int q), .sh (.int m), .sh (.int n), .sh rs, .ow (.lst fo), .no, .no, .no, .no])
    (LC : mLcLoop (gN 8) [8] mYes elt (rngD 0 k) [] [.sh (.int q), .sh (.int m), .sh (.int n), .sh rs, .ow (.lst fo), .no, .no, .no, .no] = .ok sm [.sh (.int q), .sh (.int m), .sh (.int n), .sh rs, .ow (.lst fo), .no, .no, .no, .no])
    (sh : FS [.int n, .tup fo, .lst sm, rs] = .ok false (.bl true) .non) :
    mkF 9 (mSeq (mAsg 4 (mLst mNil)) (mSeq (mFor (mRng (mCons (mBin dAdd (mVar 2) (mC (.int 1))) mNil)) (gN 5) [5, 6, 7] body)
      (mRet (mCallF FS (mCons (mVar 2) (mCons (mCall (fn1 dTuple) (mCons (mVar 4) mNil)) (mCons (mLc (mRng (mCons (mBin dAdd (mVar 2) (mC (.int 1))) mNil)) (gN 8) [8] mYes elt) (mCons (mVar 3) mNil)))))))) [.int q, .int m, .int n, rs] = .ok false (.bl true) .non := by
  have now : noOw [8] [.sh (.int q), .sh (.int m), .sh (.int n), .sh rs, .ow (.lst fo), .no, .no, .no, .no] = true := rfl
  simp only [bindR_ok, bindR_ex, a_bind, a_of_some, a_var, a_c, a_bin, a_un, a_test, a_tru, a_cmp, a_and, a_or, a_not, a_if, a_andV, a_orV, a_notV, a_bl, a_nil, a_cons, a_tup, a_lst, a_call, a_callF, a_callIO, a_seq, a_next, a_ret, a_retN, a_drop, a_break, a_cont, a_ifS, a_asg, a_asgG, a_app, a_setI, a_iter, a_rng, a_for, a_slice, a_part0, a_part1, a_lc, a_yes, l_val, l_new, l_slot, f_val, f_new, f_slot, t_val, t_new, t_slot, s_val, s_new, s_slot, a_look2, a_look1, a_fa0, a_fa1, a_la0, a_la1, a_fn1, a_fn2, a_gN, a_gs0, a_gs1, a_gT, a_turn, a_fg0, a_fg1, a_wp0, a_wp1, a_rs0, a_rs1, a_mkF, a_mkIO, a_owL, a_owD, a_tkT, a_tkF, a_apf, a_apb, a_apn, a_aps, e_addI, e_subI, e_mulI, e_divI, e_modI, e_negI, e_lt, e_le, e_gt, e_ge, e_is, e_isnot, a_lift, e_lenL, e_lenT, e_lenS, e_intI, e_intB, e_absI, e_truB, e_truI, e_truN, e_truL, e_truT, e_ixL, e_ixT, e_tupL, e_tupT, e_lstL, e_lstT, e_sum, cEq_int, cNe_int, fin, finIO, outTk, own0, isS0, entry, entryIO, atI_0, atI_1, atI_2, atI_3, Option.map_some, List.set_cons_zero, List.set_cons_succ, List.getElem?_cons_zero, List.getElem?_cons_succ, List.getElem?_nil, List.getD_cons_zero, List.getD_cons_succ, List.map_cons, List.map_nil, List.length_cons, List.length_nil, List.length_map, List.replicate, List.cons_append, List.nil_append, Nat.reduceAdd, Nat.reduceSub, Nat.reduceLeDiff, Nat.reduceLT, Nat.zero_le, Int.reduceLT, Int.reduceLE, Int.reduceEq, Int.reduceNeg, if_true, if_false, Bool.false_eq_true, Bool.true_eq_false, reduceIte, Bool.or_true, Bool.true_or, Bool.false_or, Bool.or_false, Bool.and_true, Bool.and_false, Bool.true_and, Bool.false_and, Bool.not_true, Bool.not_false, decide_true, decide_false, decide_eq_true_eq, and_self, not_true_eq_false, not_false_eq_true, ite_self, a_try_ok, a_raise0, a_raise, a_h0, a_h1, a_en0, a_en1, a_se_nx, a_se_rt, a_lv0, a_lv1, a_un0, a_un1, a_cx0, a_cx1, a_cx2, a_cx3, a_xf, a_pad, a_walk, a_rev, w_enum, w_zipL, w_zipT, e_max, e_min, e_and, e_sumA, e_sumAT, List.reverse_cons, List.reverse_nil, List.zip_cons_cons, List.zip_nil_left, List.zip_nil_right, subE_BadSizes_BadSizes, subE_BadSizes_BadDistance, subE_BadDistance_BadSizes, subE_BadDistance_BadDistance, o1, n1, L, now, LC, sh]
theorem words_eq {q : Int} (h : q = 2 ∨ q = 3) {m n : Nat} (m0 : 1 ≤ m) (m1 : m ≤ 12) (n0 : 1 ≤ n) (n1 : n ≤ 12) : F__law_words_hold [.int q, .int m, .int n, .lst (rowsL q 13)] = .ok false (.bl true) .non := by
  have L := loop_rng (g := gN 5) (junk := [5, 6, 7]) (fun r => [.sh (.int q), .sh (.int m), .sh (.int n), .sh (.lst (rowsL q 13)), .ow (.lst (cntB q (gP q m) n r)), .no, .no, .no, .no]) 0 (n + 1) (fun r hr => by
    rw [Int.zero_add, cntB_s]
    have t1 := told_good h (m := m) (n := n) (r := r) (by omega) (by omega) (by omega) (by omega) (by omega) (by omega)
    rw [tableV_nat (by omega)] at t1
    refine wh_turn F__law_words_told q m n r _ (.lst (rowsL q 13)) _ t1 (fun c => ?_) (fun c => ?_) (by rw [cntB_len]; unfold lim; omega)
    · have t2 := told_good h (m := n) (n := m) (r := r) (by omega) (by omega) (by omega) (by omega) (by omega) c
      rw [tableV_sym h, tableV_nat (by omega)] at t2
      exact t2
    · rw [gP_out q m r (by omega), Int.mul_zero])
  have o1 : okR ((n : Int) + 1) = true := okR_of (by omega)
  have nn1 : ((n : Int) + 1).toNat = n + 1 := by omega
  rw [show cntB q (gP q m) n 0 = [] from rfl] at L
  have LC := lc_fn (g := gN 8) (own := [8]) (test := mYes) (elt := (mCallF F__law_power (mCons (mVar 0) (mCons (mBin dMul (mVar 1) (mVar 8)) mNil)))) (fun _ => [.sh (.int q), .sh (.int m), .sh (.int n), .sh (.lst (rowsL q 13)), .ow (.lst (cntB q (gP q m) n (n + 1))), .no, .no, .no, .no])
    (fun s => .int (sumTo (fun r => gP q m r * gR q s r) (s + 1))) (rngD 0 (n + 1)) 0 [] (by rw [rng_len]; unfold lim; simp; omega) (fun i d hi => by
      obtain ⟨h1, rfl⟩ := rng_get hi
      rw [Int.zero_add, Nat.zero_add]
      have hb : m * i ≤ 12 * 12 := Nat.mul_le_mul m1 (by omega)
      have e1 := law_power_eq (q100 h) (e := ((m * i : Nat) : Int)) (by omega) (by omega)
      rw [Int.toNat_natCast, Int.natCast_mul] at e1
      have mm : mulOk (m : Int) (i : Int) = true := mulOk_le (a := 20) (b := 20) (by omega) (by omega) (by omega)
      exact ⟨_, _, .val (.int (q ^ (m * i))), _, _, rfl, rfl, wh_elt F__law_power q m n i _ _ _ mm e1, by rw [sumP]; rfl, rfl⟩)
  rw [rng_len, List.nil_append] at LC
  simp only [Nat.zero_add] at LC
  rw [show ((List.range (n + 1)).map fun i => D.int (sumTo (fun r => gP q m r * gR q i r) (i + 1))) = sumL q (gP q m) (n + 1) from rfl] at LC
  have sh := shares_eq h (B := gP q m) (k := 984) (fun r hr => abs_mono (gP_abs h (by omega) r (by omega)) (by omega)) (by omega) n1
  exact wh_all F__law_shares_hold _ _ q m n (.lst (rowsL q 13)) _ _ (n + 1) o1 nn1 L LC sh
/-! ### odd values -/
def Odd (d : D) (lo hi : Int) : Prop := (∃ j : Int, d = .int j ∧ ¬ (lo ≤ j ∧ j ≤ hi)) ∨ ∀ a b, W d a b false
theorem Odd.w {d : D} {lo hi : Int} (h : Odd d lo hi) : W d lo hi false := by
  rcases h with ⟨j, rfl, h⟩ | h
  · exact W_bad h
  · exact h lo hi
theorem pick_good {h : D} {xs : List D} (g : GoodHand h) (h0 : 1 ≤ xs.length) (h1 : xs.length ≤ 1000) : ∃ x h', F__law_pick [h, .lst xs] = .ok false x h' ∧ GoodHand h' ∧ x ∈ xs := by
  obtain ⟨r, h', e, g', r0, r1⟩ := take_good (many := (xs.length : Int)) g (by omega) (divOk_of (b := 20) (by omega) (by omega) (by omega))
  obtain ⟨R, rfl⟩ : ∃ R : Nat, r = (R : Int) := ⟨r.toNat, by omega⟩
  have hR : R < xs.length := by omega
  have a1 : atI xs (R : Int) = some xs[R] := atI_nat (List.getElem?_eq_getElem hR)
  refine ⟨xs[R], h', ?_, g', List.getElem_mem hR⟩
  simp only [F__law_pick, B__law_pick, bindR_ok, bindR_ex, a_bind, a_of_some, a_var, a_c, a_bin, a_un, a_test, a_tru, a_cmp, a_and, a_or, a_not, a_if, a_andV, a_orV, a_notV, a_bl, a_nil, a_cons, a_tup, a_lst, a_call, a_callF, a_callIO, a_seq, a_next, a_ret, a_retN, a_drop, a_break, a_cont, a_ifS, a_asg, a_asgG, a_app, a_setI, a_iter, a_rng, a_for, a_slice, a_part0, a_part1, a_lc, a_yes, l_val, l_new, l_slot, f_val, f_new, f_slot, t_val, t_new, t_slot, s_val, s_new, s_slot, a_look2, a_look1, a_fa0, a_fa1, a_la0, a_la1, a_fn1, a_fn2, a_gN, a_gs0, a_gs1, a_gT, a_turn, a_fg0, a_fg1, a_wp0, a_wp1, a_rs0, a_rs1, a_mkF, a_mkIO, a_owL, a_owD, a_tkT, a_tkF, a_apf, a_apb, a_apn, a_aps, e_addI, e_subI, e_mulI, e_divI, e_modI, e_negI, e_lt, e_le, e_gt, e_ge, e_is, e_isnot, a_lift, e_lenL, e_lenT, e_lenS, e_intI, e_intB, e_absI, e_truB, e_truI, e_truN, e_truL, e_truT, e_ixL, e_ixT, e_tupL, e_tupT, e_lstL, e_lstT, e_sum, cEq_int, cNe_int, fin, finIO, outTk, own0, isS0, entry, entryIO, atI_0, atI_1, atI_2, atI_3, Option.map_some, List.set_cons_zero, List.set_cons_succ, List.getElem?_cons_zero, List.getElem?_cons_succ, List.getElem?_nil, List.getD_cons_zero, List.getD_cons_succ, List.map_cons, List.map_nil, List.length_cons, List.length_nil, List.length_map, List.replicate, List.cons_append, List.nil_append, Nat.reduceAdd, Nat.reduceSub, Nat.reduceLeDiff, Nat.reduceLT, Nat.zero_le, Int.reduceLT, Int.reduceLE, Int.reduceEq, Int.reduceNeg, if_true, if_false, Bool.false_eq_true, Bool.true_eq_false, reduceIte, Bool.or_true, Bool.true_or, Bool.false_or, Bool.or_false, Bool.and_true, Bool.and_false, Bool.true_and, Bool.false_and, Bool.not_true, Bool.not_false, decide_true, decide_false, decide_eq_true_eq, and_self, not_true_eq_false, not_false_eq_true, ite_self, a_try_ok, a_raise0, a_raise, a_h0, a_h1, a_en0, a_en1, a_se_nx, a_se_rt, a_lv0, a_lv1, a_un0, a_un1, a_cx0, a_cx1, a_cx2, a_cx3, a_xf, a_pad, a_walk, a_rev, w_enum, w_zipL, w_zipT, e_max, e_min, e_and, e_sumA, e_sumAT, List.reverse_cons, List.reverse_nil, List.zip_cons_cons, List.zip_nil_left, List.zip_nil_right, subE_BadSizes_BadSizes, subE_BadSizes_BadDistance, subE_BadDistance_BadSizes, subE_BadDistance_BadDistance, e, a1]
theorem odd_good {h : D} {lo hi : Int} (g : GoodHand h) (l0 : 0 ≤ lo) (lh : lo ≤ hi) (h1 : hi ≤ 1000) : ∃ nw d h', F__law_odd [h, .int lo, .int hi] = .ok nw d h' ∧ GoodHand h' ∧ Odd d lo hi := by
  have p9 : dPow (.int 10) (.int 9) = some (.val (.int 1000000000)) := rfl
  obtain ⟨far, h1, e1, g1, f0, f1⟩ := take_good (many := 1000000000) g (by omega) (by decide)
  obtain ⟨k, h2, e2, g2, k0, k1⟩ := take_good (many := 8) g1 (by omega) (by decide)
  have st : lo.natAbs.log2 < 1920 := Nat.lt_of_le_of_lt (log2_le (k := 20) (by omega)) (by omega)
  have es := e_str st
  rcases (show k = 0 ∨ k = 1 ∨ k = 2 ∨ k = 3 ∨ k = 4 ∨ k = 5 ∨ k = 6 ∨ k = 7 by omega) with rfl | rfl | rfl | rfl | rfl | rfl | rfl | rfl
  · exact ⟨false, .int (lo - 1), h2, by simp only [F__law_odd, B__law_odd, bindR_ok, bindR_ex, a_bind, a_of_some, a_var, a_c, a_bin, a_un, a_test, a_tru, a_cmp, a_and, a_or, a_not, a_if, a_andV, a_orV, a_notV, a_bl, a_nil, a_cons, a_tup, a_lst, a_call, a_callF, a_callIO, a_seq, a_next, a_ret, a_retN, a_drop, a_break, a_cont, a_ifS, a_asg, a_asgG, a_app, a_setI, a_iter, a_rng, a_for, a_slice, a_part0, a_part1, a_lc, a_yes, l_val, l_new, l_slot, f_val, f_new, f_slot, t_val, t_new, t_slot, s_val, s_new, s_slot, a_look2, a_look1, a_fa0, a_fa1, a_la0, a_la1, a_fn1, a_fn2, a_gN, a_gs0, a_gs1, a_gT, a_turn, a_fg0, a_fg1, a_wp0, a_wp1, a_rs0, a_rs1, a_mkF, a_mkIO, a_owL, a_owD, a_tkT, a_tkF, a_apf, a_apb, a_apn, a_aps, e_addI, e_subI, e_mulI, e_divI, e_modI, e_negI, e_lt, e_le, e_gt, e_ge, e_is, e_isnot, a_lift, e_lenL, e_lenT, e_lenS, e_intI, e_intB, e_absI, e_truB, e_truI, e_truN, e_truL, e_truT, e_ixL, e_ixT, e_tupL, e_tupT, e_lstL, e_lstT, e_sum, cEq_int, cNe_int, fin, finIO, outTk, own0, isS0, entry, entryIO, atI_0, atI_1, atI_2, atI_3, Option.map_some, List.set_cons_zero, List.set_cons_succ, List.getElem?_cons_zero, List.getElem?_cons_succ, List.getElem?_nil, List.getD_cons_zero, List.getD_cons_succ, List.map_cons, List.map_nil, List.length_cons, List.length_nil, List.length_map, List.replicate, List.cons_append, List.nil_append, Nat.reduceAdd, Nat.reduceSub, Nat.reduceLeDiff, Nat.reduceLT, Nat.zero_le, Int.reduceLT, Int.reduceLE, Int.reduceEq, Int.reduceNeg, if_true, if_false, Bool.false_eq_true, Bool.true_eq_false, reduceIte, Bool.or_true, Bool.true_or, Bool.false_or, Bool.or_false, Bool.and_true, Bool.and_false, Bool.true_and, Bool.false_and, Bool.not_true, Bool.not_false, decide_true, decide_false, decide_eq_true_eq, and_self, not_true_eq_false, not_false_eq_true, ite_self, a_try_ok, a_raise0, a_raise, a_h0, a_h1, a_en0, a_en1, a_se_nx, a_se_rt, a_lv0, a_lv1, a_un0, a_un1, a_cx0, a_cx1, a_cx2, a_cx3, a_xf, a_pad, a_walk, a_rev, w_enum, w_zipL, w_zipT, e_max, e_min, e_and, e_sumA, e_sumAT, List.reverse_cons, List.reverse_nil, List.zip_cons_cons, List.zip_nil_left, List.zip_nil_right, subE_BadSizes_BadSizes, subE_BadSizes_BadDistance, subE_BadDistance_BadSizes, subE_BadDistance_BadDistance, p9, e1, e2], g2, .inl ⟨_, rfl, by omega⟩⟩
  · exact ⟨false, .int (hi + 1), h2, by simp only [F__law_odd, B__law_odd, bindR_ok, bindR_ex, a_bind, a_of_some, a_var, a_c, a_bin, a_un, a_test, a_tru, a_cmp, a_and, a_or, a_not, a_if, a_andV, a_orV, a_notV, a_bl, a_nil, a_cons, a_tup, a_lst, a_call, a_callF, a_callIO, a_seq, a_next, a_ret, a_retN, a_drop, a_break, a_cont, a_ifS, a_asg, a_asgG, a_app, a_setI, a_iter, a_rng, a_for, a_slice, a_part0, a_part1, a_lc, a_yes, l_val, l_new, l_slot, f_val, f_new, f_slot, t_val, t_new, t_slot, s_val, s_new, s_slot, a_look2, a_look1, a_fa0, a_fa1, a_la0, a_la1, a_fn1, a_fn2, a_gN, a_gs0, a_gs1, a_gT, a_turn, a_fg0, a_fg1, a_wp0, a_wp1, a_rs0, a_rs1, a_mkF, a_mkIO, a_owL, a_owD, a_tkT, a_tkF, a_apf, a_apb, a_apn, a_aps, e_addI, e_subI, e_mulI, e_divI, e_modI, e_negI, e_lt, e_le, e_gt, e_ge, e_is, e_isnot, a_lift, e_lenL, e_lenT, e_lenS, e_intI, e_intB, e_absI, e_truB, e_truI, e_truN, e_truL, e_truT, e_ixL, e_ixT, e_tupL, e_tupT, e_lstL, e_lstT, e_sum, cEq_int, cNe_int, fin, finIO, outTk, own0, isS0, entry, entryIO, atI_0, atI_1, atI_2, atI_3, Option.map_some, List.set_cons_zero, List.set_cons_succ, List.getElem?_cons_zero, List.getElem?_cons_succ, List.getElem?_nil, List.getD_cons_zero, List.getD_cons_succ, List.map_cons, List.map_nil, List.length_cons, List.length_nil, List.length_map, List.replicate, List.cons_append, List.nil_append, Nat.reduceAdd, Nat.reduceSub, Nat.reduceLeDiff, Nat.reduceLT, Nat.zero_le, Int.reduceLT, Int.reduceLE, Int.reduceEq, Int.reduceNeg, if_true, if_false, Bool.false_eq_true, Bool.true_eq_false, reduceIte, Bool.or_true, Bool.true_or, Bool.false_or, Bool.or_false, Bool.and_true, Bool.and_false, Bool.true_and, Bool.false_and, Bool.not_true, Bool.not_false, decide_true, decide_false, decide_eq_true_eq, and_self, not_true_eq_false, not_false_eq_true, ite_self, a_try_ok, a_raise0, a_raise, a_h0, a_h1, a_en0, a_en1, a_se_nx, a_se_rt, a_lv0, a_lv1, a_un0, a_un1, a_cx0, a_cx1, a_cx2, a_cx3, a_xf, a_pad, a_walk, a_rev, w_enum, w_zipL, w_zipT, e_max, e_min, e_and, e_sumA, e_sumAT, List.reverse_cons, List.reverse_nil, List.zip_cons_cons, List.zip_nil_left, List.zip_nil_right, subE_BadSizes_BadSizes, subE_BadSizes_BadDistance, subE_BadDistance_BadSizes, subE_BadDistance_BadDistance, p9, e1, e2], g2, .inl ⟨_, rfl, by omega⟩⟩
  · exact ⟨false, .int (lo - 2 - far), h2, by simp only [F__law_odd, B__law_odd, bindR_ok, bindR_ex, a_bind, a_of_some, a_var, a_c, a_bin, a_un, a_test, a_tru, a_cmp, a_and, a_or, a_not, a_if, a_andV, a_orV, a_notV, a_bl, a_nil, a_cons, a_tup, a_lst, a_call, a_callF, a_callIO, a_seq, a_next, a_ret, a_retN, a_drop, a_break, a_cont, a_ifS, a_asg, a_asgG, a_app, a_setI, a_iter, a_rng, a_for, a_slice, a_part0, a_part1, a_lc, a_yes, l_val, l_new, l_slot, f_val, f_new, f_slot, t_val, t_new, t_slot, s_val, s_new, s_slot, a_look2, a_look1, a_fa0, a_fa1, a_la0, a_la1, a_fn1, a_fn2, a_gN, a_gs0, a_gs1, a_gT, a_turn, a_fg0, a_fg1, a_wp0, a_wp1, a_rs0, a_rs1, a_mkF, a_mkIO, a_owL, a_owD, a_tkT, a_tkF, a_apf, a_apb, a_apn, a_aps, e_addI, e_subI, e_mulI, e_divI, e_modI, e_negI, e_lt, e_le, e_gt, e_ge, e_is, e_isnot, a_lift, e_lenL, e_lenT, e_lenS, e_intI, e_intB, e_absI, e_truB, e_truI, e_truN, e_truL, e_truT, e_ixL, e_ixT, e_tupL, e_tupT, e_lstL, e_lstT, e_sum, cEq_int, cNe_int, fin, finIO, outTk, own0, isS0, entry, entryIO, atI_0, atI_1, atI_2, atI_3, Option.map_some, List.set_cons_zero, List.set_cons_succ, List.getElem?_cons_zero, List.getElem?_cons_succ, List.getElem?_nil, List.getD_cons_zero, List.getD_cons_succ, List.map_cons, List.map_nil, List.length_cons, List.length_nil, List.length_map, List.replicate, List.cons_append, List.nil_append, Nat.reduceAdd, Nat.reduceSub, Nat.reduceLeDiff, Nat.reduceLT, Nat.zero_le, Int.reduceLT, Int.reduceLE, Int.reduceEq, Int.reduceNeg, if_true, if_false, Bool.false_eq_true, Bool.true_eq_false, reduceIte, Bool.or_true, Bool.true_or, Bool.false_or, Bool.or_false, Bool.and_true, Bool.and_false, Bool.true_and, Bool.false_and, Bool.not_true, Bool.not_false, decide_true, decide_false, decide_eq_true_eq, and_self, not_true_eq_false, not_false_eq_true, ite_self, a_try_ok, a_raise0, a_raise, a_h0, a_h1, a_en0, a_en1, a_se_nx, a_se_rt, a_lv0, a_lv1, a_un0, a_un1, a_cx0, a_cx1, a_cx2, a_cx3, a_xf, a_pad, a_walk, a_rev, w_enum, w_zipL, w_zipT, e_max, e_min, e_and, e_sumA, e_sumAT, List.reverse_cons, List.reverse_nil, List.zip_cons_cons, List.zip_nil_left, List.zip_nil_right, subE_BadSizes_BadSizes, subE_BadSizes_BadDistance, subE_BadDistance_BadSizes, subE_BadDistance_BadDistance, p9, e1, e2], g2, .inl ⟨_, rfl, by omega⟩⟩
  · exact ⟨false, .int (hi + 2 + far), h2, by simp only [F__law_odd, B__law_odd, bindR_ok, bindR_ex, a_bind, a_of_some, a_var, a_c, a_bin, a_un, a_test, a_tru, a_cmp, a_and, a_or, a_not, a_if, a_andV, a_orV, a_notV, a_bl, a_nil, a_cons, a_tup, a_lst, a_call, a_callF, a_callIO, a_seq, a_next, a_ret, a_retN, a_drop, a_break, a_cont, a_ifS, a_asg, a_asgG, a_app, a_setI, a_iter, a_rng, a_for, a_slice, a_part0, a_part1, a_lc, a_yes, l_val, l_new, l_slot, f_val, f_new, f_slot, t_val, t_new, t_slot, s_val, s_new, s_slot, a_look2, a_look1, a_fa0, a_fa1, a_la0, a_la1, a_fn1, a_fn2, a_gN, a_gs0, a_gs1, a_gT, a_turn, a_fg0, a_fg1, a_wp0, a_wp1, a_rs0, a_rs1, a_mkF, a_mkIO, a_owL, a_owD, a_tkT, a_tkF, a_apf, a_apb, a_apn, a_aps, e_addI, e_subI, e_mulI, e_divI, e_modI, e_negI, e_lt, e_le, e_gt, e_ge, e_is, e_isnot, a_lift, e_lenL, e_lenT, e_lenS, e_intI, e_intB, e_absI, e_truB, e_truI, e_truN, e_truL, e_truT, e_ixL, e_ixT, e_tupL, e_tupT, e_lstL, e_lstT, e_sum, cEq_int, cNe_int, fin, finIO, outTk, own0, isS0, entry, entryIO, atI_0, atI_1, atI_2, atI_3, Option.map_some, List.set_cons_zero, List.set_cons_succ, List.getElem?_cons_zero, List.getElem?_cons_succ, List.getElem?_nil, List.getD_cons_zero, List.getD_cons_succ, List.map_cons, List.map_nil, List.length_cons, List.length_nil, List.length_map, List.replicate, List.cons_append, List.nil_append, Nat.reduceAdd, Nat.reduceSub, Nat.reduceLeDiff, Nat.reduceLT, Nat.zero_le, Int.reduceLT, Int.reduceLE, Int.reduceEq, Int.reduceNeg, if_true, if_false, Bool.false_eq_true, Bool.true_eq_false, reduceIte, Bool.or_true, Bool.true_or, Bool.false_or, Bool.or_false, Bool.and_true, Bool.and_false, Bool.true_and, Bool.false_and, Bool.not_true, Bool.not_false, decide_true, decide_false, decide_eq_true_eq, and_self, not_true_eq_false, not_false_eq_true, ite_self, a_try_ok, a_raise0, a_raise, a_h0, a_h1, a_en0, a_en1, a_se_nx, a_se_rt, a_lv0, a_lv1, a_un0, a_un1, a_cx0, a_cx1, a_cx2, a_cx3, a_xf, a_pad, a_walk, a_rev, w_enum, w_zipL, w_zipT, e_max, e_min, e_and, e_sumA, e_sumAT, List.reverse_cons, List.reverse_nil, List.zip_cons_cons, List.zip_nil_left, List.zip_nil_right, subE_BadSizes_BadSizes, subE_BadSizes_BadDistance, subE_BadDistance_BadSizes, subE_BadDistance_BadDistance, p9, e1, e2], g2, .inl ⟨_, rfl, by omega⟩⟩
  · exact ⟨false, .bl true, h2, by simp only [F__law_odd, B__law_odd, bindR_ok, bindR_ex, a_bind, a_of_some, a_var, a_c, a_bin, a_un, a_test, a_tru, a_cmp, a_and, a_or, a_not, a_if, a_andV, a_orV, a_notV, a_bl, a_nil, a_cons, a_tup, a_lst, a_call, a_callF, a_callIO, a_seq, a_next, a_ret, a_retN, a_drop, a_break, a_cont, a_ifS, a_asg, a_asgG, a_app, a_setI, a_iter, a_rng, a_for, a_slice, a_part0, a_part1, a_lc, a_yes, l_val, l_new, l_slot, f_val, f_new, f_slot, t_val, t_new, t_slot, s_val, s_new, s_slot, a_look2, a_look1, a_fa0, a_fa1, a_la0, a_la1, a_fn1, a_fn2, a_gN, a_gs0, a_gs1, a_gT, a_turn, a_fg0, a_fg1, a_wp0, a_wp1, a_rs0, a_rs1, a_mkF, a_mkIO, a_owL, a_owD, a_tkT, a_tkF, a_apf, a_apb, a_apn, a_aps, e_addI, e_subI, e_mulI, e_divI, e_modI, e_negI, e_lt, e_le, e_gt, e_ge, e_is, e_isnot, a_lift, e_lenL, e_lenT, e_lenS, e_intI, e_intB, e_absI, e_truB, e_truI, e_truN, e_truL, e_truT, e_ixL, e_ixT, e_tupL, e_tupT, e_lstL, e_lstT, e_sum, cEq_int, cNe_int, fin, finIO, outTk, own0, isS0, entry, entryIO, atI_0, atI_1, atI_2, atI_3, Option.map_some, List.set_cons_zero, List.set_cons_succ, List.getElem?_cons_zero, List.getElem?_cons_succ, List.getElem?_nil, List.getD_cons_zero, List.getD_cons_succ, List.map_cons, List.map_nil, List.length_cons, List.length_nil, List.length_map, List.replicate, List.cons_append, List.nil_append, Nat.reduceAdd, Nat.reduceSub, Nat.reduceLeDiff, Nat.reduceLT, Nat.zero_le, Int.reduceLT, Int.reduceLE, Int.reduceEq, Int.reduceNeg, if_true, if_false, Bool.false_eq_true, Bool.true_eq_false, reduceIte, Bool.or_true, Bool.true_or, Bool.false_or, Bool.or_false, Bool.and_true, Bool.and_false, Bool.true_and, Bool.false_and, Bool.not_true, Bool.not_false, decide_true, decide_false, decide_eq_true_eq, and_self, not_true_eq_false, not_false_eq_true, ite_self, a_try_ok, a_raise0, a_raise, a_h0, a_h1, a_en0, a_en1, a_se_nx, a_se_rt, a_lv0, a_lv1, a_un0, a_un1, a_cx0, a_cx1, a_cx2, a_cx3, a_xf, a_pad, a_walk, a_rev, w_enum, w_zipL, w_zipT, e_max, e_min, e_and, e_sumA, e_sumAT, List.reverse_cons, List.reverse_nil, List.zip_cons_cons, List.zip_nil_left, List.zip_nil_right, subE_BadSizes_BadSizes, subE_BadSizes_BadDistance, subE_BadDistance_BadSizes, subE_BadDistance_BadDistance, p9, e1, e2], g2, .inr fun _ _ => W_bl⟩
  · exact ⟨false, .non, h2, by simp only [F__law_odd, B__law_odd, bindR_ok, bindR_ex, a_bind, a_of_some, a_var, a_c, a_bin, a_un, a_test, a_tru, a_cmp, a_and, a_or, a_not, a_if, a_andV, a_orV, a_notV, a_bl, a_nil, a_cons, a_tup, a_lst, a_call, a_callF, a_callIO, a_seq, a_next, a_ret, a_retN, a_drop, a_break, a_cont, a_ifS, a_asg, a_asgG, a_app, a_setI, a_iter, a_rng, a_for, a_slice, a_part0, a_part1, a_lc, a_yes, l_val, l_new, l_slot, f_val, f_new, f_slot, t_val, t_new, t_slot, s_val, s_new, s_slot, a_look2, a_look1, a_fa0, a_fa1, a_la0, a_la1, a_fn1, a_fn2, a_gN, a_gs0, a_gs1, a_gT, a_turn, a_fg0, a_fg1, a_wp0, a_wp1, a_rs0, a_rs1, a_mkF, a_mkIO, a_owL, a_owD, a_tkT, a_tkF, a_apf, a_apb, a_apn, a_aps, e_addI, e_subI, e_mulI, e_divI, e_modI, e_negI, e_lt, e_le, e_gt, e_ge, e_is, e_isnot, a_lift, e_lenL, e_lenT, e_lenS, e_intI, e_intB, e_absI, e_truB, e_truI, e_truN, e_truL, e_truT, e_ixL, e_ixT, e_tupL, e_tupT, e_lstL, e_lstT, e_sum, cEq_int, cNe_int, fin, finIO, outTk, own0, isS0, entry, entryIO, atI_0, atI_1, atI_2, atI_3, Option.map_some, List.set_cons_zero, List.set_cons_succ, List.getElem?_cons_zero, List.getElem?_cons_succ, List.getElem?_nil, List.getD_cons_zero, List.getD_cons_succ, List.map_cons, List.map_nil, List.length_cons, List.length_nil, List.length_map, List.replicate, List.cons_append, List.nil_append, Nat.reduceAdd, Nat.reduceSub, Nat.reduceLeDiff, Nat.reduceLT, Nat.zero_le, Int.reduceLT, Int.reduceLE, Int.reduceEq, Int.reduceNeg, if_true, if_false, Bool.false_eq_true, Bool.true_eq_false, reduceIte, Bool.or_true, Bool.true_or, Bool.false_or, Bool.or_false, Bool.and_true, Bool.and_false, Bool.true_and, Bool.false_and, Bool.not_true, Bool.not_false, decide_true, decide_false, decide_eq_true_eq, and_self, not_true_eq_false, not_false_eq_true, ite_self, a_try_ok, a_raise0, a_raise, a_h0, a_h1, a_en0, a_en1, a_se_nx, a_se_rt, a_lv0, a_lv1, a_un0, a_un1, a_cx0, a_cx1, a_cx2, a_cx3, a_xf, a_pad, a_walk, a_rev, w_enum, w_zipL, w_zipT, e_max, e_min, e_and, e_sumA, e_sumAT, List.reverse_cons, List.reverse_nil, List.zip_cons_cons, List.zip_nil_left, List.zip_nil_right, subE_BadSizes_BadSizes, subE_BadSizes_BadDistance, subE_BadDistance_BadSizes, subE_BadDistance_BadDistance, p9, e1, e2], g2, .inr fun _ _ => W_non⟩
  · exact ⟨false, .str (toString lo), h2, by simp only [F__law_odd, B__law_odd, bindR_ok, bindR_ex, a_bind, a_of_some, a_var, a_c, a_bin, a_un, a_test, a_tru, a_cmp, a_and, a_or, a_not, a_if, a_andV, a_orV, a_notV, a_bl, a_nil, a_cons, a_tup, a_lst, a_call, a_callF, a_callIO, a_seq, a_next, a_ret, a_retN, a_drop, a_break, a_cont, a_ifS, a_asg, a_asgG, a_app, a_setI, a_iter, a_rng, a_for, a_slice, a_part0, a_part1, a_lc, a_yes, l_val, l_new, l_slot, f_val, f_new, f_slot, t_val, t_new, t_slot, s_val, s_new, s_slot, a_look2, a_look1, a_fa0, a_fa1, a_la0, a_la1, a_fn1, a_fn2, a_gN, a_gs0, a_gs1, a_gT, a_turn, a_fg0, a_fg1, a_wp0, a_wp1, a_rs0, a_rs1, a_mkF, a_mkIO, a_owL, a_owD, a_tkT, a_tkF, a_apf, a_apb, a_apn, a_aps, e_addI, e_subI, e_mulI, e_divI, e_modI, e_negI, e_lt, e_le, e_gt, e_ge, e_is, e_isnot, a_lift, e_lenL, e_lenT, e_lenS, e_intI, e_intB, e_absI, e_truB, e_truI, e_truN, e_truL, e_truT, e_ixL, e_ixT, e_tupL, e_tupT, e_lstL, e_lstT, e_sum, cEq_int, cNe_int, fin, finIO, outTk, own0, isS0, entry, entryIO, atI_0, atI_1, atI_2, atI_3, Option.map_some, List.set_cons_zero, List.set_cons_succ, List.getElem?_cons_zero, List.getElem?_cons_succ, List.getElem?_nil, List.getD_cons_zero, List.getD_cons_succ, List.map_cons, List.map_nil, List.length_cons, List.length_nil, List.length_map, List.replicate, List.cons_append, List.nil_append, Nat.reduceAdd, Nat.reduceSub, Nat.reduceLeDiff, Nat.reduceLT, Nat.zero_le, Int.reduceLT, Int.reduceLE, Int.reduceEq, Int.reduceNeg, if_true, if_false, Bool.false_eq_true, Bool.true_eq_false, reduceIte, Bool.or_true, Bool.true_or, Bool.false_or, Bool.or_false, Bool.and_true, Bool.and_false, Bool.true_and, Bool.false_and, Bool.not_true, Bool.not_false, decide_true, decide_false, decide_eq_true_eq, and_self, not_true_eq_false, not_false_eq_true, ite_self, a_try_ok, a_raise0, a_raise, a_h0, a_h1, a_en0, a_en1, a_se_nx, a_se_rt, a_lv0, a_lv1, a_un0, a_un1, a_cx0, a_cx1, a_cx2, a_cx3, a_xf, a_pad, a_walk, a_rev, w_enum, w_zipL, w_zipT, e_max, e_min, e_and, e_sumA, e_sumAT, List.reverse_cons, List.reverse_nil, List.zip_cons_cons, List.zip_nil_left, List.zip_nil_right, subE_BadSizes_BadSizes, subE_BadSizes_BadDistance, subE_BadDistance_BadSizes, subE_BadDistance_BadDistance, p9, e1, e2, es], g2, .inr fun _ _ => W_str⟩
  · exact ⟨true, .lst [.int lo], h2, by simp only [F__law_odd, B__law_odd, bindR_ok, bindR_ex, a_bind, a_of_some, a_var, a_c, a_bin, a_un, a_test, a_tru, a_cmp, a_and, a_or, a_not, a_if, a_andV, a_orV, a_notV, a_bl, a_nil, a_cons, a_tup, a_lst, a_call, a_callF, a_callIO, a_seq, a_next, a_ret, a_retN, a_drop, a_break, a_cont, a_ifS, a_asg, a_asgG, a_app, a_setI, a_iter, a_rng, a_for, a_slice, a_part0, a_part1, a_lc, a_yes, l_val, l_new, l_slot, f_val, f_new, f_slot, t_val, t_new, t_slot, s_val, s_new, s_slot, a_look2, a_look1, a_fa0, a_fa1, a_la0, a_la1, a_fn1, a_fn2, a_gN, a_gs0, a_gs1, a_gT, a_turn, a_fg0, a_fg1, a_wp0, a_wp1, a_rs0, a_rs1, a_mkF, a_mkIO, a_owL, a_owD, a_tkT, a_tkF, a_apf, a_apb, a_apn, a_aps, e_addI, e_subI, e_mulI, e_divI, e_modI, e_negI, e_lt, e_le, e_gt, e_ge, e_is, e_isnot, a_lift, e_lenL, e_lenT, e_lenS, e_intI, e_intB, e_absI, e_truB, e_truI, e_truN, e_truL, e_truT, e_ixL, e_ixT, e_tupL, e_tupT, e_lstL, e_lstT, e_sum, cEq_int, cNe_int, fin, finIO, outTk, own0, isS0, entry, entryIO, atI_0, atI_1, atI_2, atI_3, Option.map_some, List.set_cons_zero, List.set_cons_succ, List.getElem?_cons_zero, List.getElem?_cons_succ, List.getElem?_nil, List.getD_cons_zero, List.getD_cons_succ, List.map_cons, List.map_nil, List.length_cons, List.length_nil, List.length_map, List.replicate, List.cons_append, List.nil_append, Nat.reduceAdd, Nat.reduceSub, Nat.reduceLeDiff, Nat.reduceLT, Nat.zero_le, Int.reduceLT, Int.reduceLE, Int.reduceEq, Int.reduceNeg, if_true, if_false, Bool.false_eq_true, Bool.true_eq_false, reduceIte, Bool.or_true, Bool.true_or, Bool.false_or, Bool.or_false, Bool.and_true, Bool.and_false, Bool.true_and, Bool.false_and, Bool.not_true, Bool.not_false, decide_true, decide_false, decide_eq_true_eq, and_self, not_true_eq_false, not_false_eq_true, ite_self, a_try_ok, a_raise0, a_raise, a_h0, a_h1, a_en0, a_en1, a_se_nx, a_se_rt, a_lv0, a_lv1, a_un0, a_un1, a_cx0, a_cx1, a_cx2, a_cx3, a_xf, a_pad, a_walk, a_rev, w_enum, w_zipL, w_zipT, e_max, e_min, e_and, e_sumA, e_sumAT, List.reverse_cons, List.reverse_nil, List.zip_cons_cons, List.zip_nil_left, List.zip_nil_right, subE_BadSizes_BadSizes, subE_BadSizes_BadDistance, subE_BadDistance_BadSizes, subE_BadDistance_BadDistance, p9, e1, e2], g2, .inr fun _ _ => W_lst⟩
/-! ### flags -/
def bit (f : Int) (k : Nat) : Bool := decide (Builtin.bitAnd (f / 2 ^ k) 1 = 1)
def wordB (b0 b1 b2 b3 : Bool) : Str := if b0 then "prime" else if b1 then "degree" else if b2 then "columns" else if b3 then "rank" else ""
theorem first_odd_eq {f : Int} (f0 : 0 ≤ f) (f1 : f < 16) : F__law_first_odd [.lst [.str "prime", .str "degree", .str "columns", .str "rank"], .int f] = .ok false (.str (wordB (bit f 0) (bit f 1) (bit f 2) (bit f 3))) .non := by
  rcases (show f = 0 ∨ f = 1 ∨ f = 2 ∨ f = 3 ∨ f = 4 ∨ f = 5 ∨ f = 6 ∨ f = 7 ∨ f = 8 ∨ f = 9 ∨ f = 10 ∨ f = 11 ∨ f = 12 ∨ f = 13 ∨ f = 14 ∨ f = 15 by omega) with rfl | rfl | rfl | rfl | rfl | rfl | rfl | rfl | rfl | rfl | rfl | rfl | rfl | rfl | rfl | rfl <;> rfl
def pickB (b : Bool) (o g : D) : D := if b then o else g
theorem told_flags {b0 b1 b2 b3 : Bool} {o0 o1 o2 o3 : D} {q m n r : Int} (hq : q = 2 ∨ q = 3) (m0 : 1 ≤ m) (m1 : m ≤ 12) (n0 : 1 ≤ n) (n1 : n ≤ 12) (r0 : 0 ≤ r) (r1 : r ≤ n) (w0 : Odd o0 2 3) (w1 : Odd o1 1 12) (w2 : Odd o2 1 12) (w3 : Odd o3 0 n) :
    ∃ x : Int, F__law_words_told [pickB b0 o0 (.int q), pickB b1 o1 (.int m), pickB b2 o2 (.int n), pickB b3 o3 (.int r)] = .ok false (if wordB b0 b1 b2 b3 = "" then .tup [.str "told", .int x] else .tup [.str "sizes", .str (wordB b0 b1 b2 b3)]) .non := by
  have gq : W (.int q) 2 3 true := W_good (by omega) (by omega)
  have gm : W (.int m) 1 12 true := W_good m0 m1
  have gn : W (.int n) 1 12 true := W_good n0 n1
  have hm : W (pickB b1 o1 (.int m)) 1 12 (!b1) := by cases b1; exact gm; exact w1.w
  have hn : W (pickB b2 o2 (.int n)) 1 12 (!b2) := by cases b2; exact gn; exact w2.w
  cases b0 with
  | true => exact ⟨0, told_sizes (wor_ex (check_eq (p := pickB true o0 (.int q)) w0.w hm hn))⟩
  | false =>
    cases b1 with
    | true => exact ⟨0, told_sizes (wor_ex (check_eq (p := pickB false o0 (.int q)) gq hm hn))⟩
    | false =>
      cases b2 with
      | true => exact ⟨0, told_sizes (wor_ex (check_eq (p := pickB false o0 (.int q)) gq hm hn))⟩
      | false =>
        cases b3 with
        | true => exact ⟨0, told_sizes (wor_rank (b := true) hq m0 m1 n0 n1 w3.w)⟩
        | false => exact ⟨_, told_good hq m0 m1 n0 n1 r0 r1⟩
theorem mtold_flags {b0 b1 b2 b3 : Bool} {o0 o1 o2 o3 : D} {q : Int} {m n d : Nat} (hq : q = 2 ∨ q = 3) (m1 : m ≤ 12) (n0 : 1 ≤ n) (nm : n ≤ m) (d0 : 1 ≤ d) (d1 : d ≤ n + 1) (w0 : Odd o0 2 3) (w1 : Odd o1 1 12) (w2 : Odd o2 1 m) (w3 : Odd o3 1 (n + 1)) :
    ∃ xs : List D, F__law_met_told [pickB b0 o0 (.int q), pickB b1 o1 (.int m), pickB b2 o2 (.int n), pickB b3 o3 (.int d)] = .ok false (if wordB b0 b1 b2 b3 = "" then .tup [.str "told", .tup xs] else if wordB b0 b1 b2 b3 = "rank" then .tup [.str "distance", .str ""] else .tup [.str "sizes", .str (wordB b0 b1 b2 b3)]) .non := by
  have gq : W (.int q) 2 3 true := W_good (by omega) (by omega)
  have gm : W (.int m) 1 12 true := W_good (by omega) (by omega)
  have gn : W (.int n) 1 12 true := W_good (by omega) (by omega)
  have hm : W (pickB b1 o1 (.int m)) 1 12 (!b1) := by cases b1; exact gm; exact w1.w
  have hn : ∃ b, W (pickB b2 o2 (.int n)) 1 12 b := by
    cases b2
    · exact ⟨_, gn⟩
    · rcases w2 with ⟨j, rfl, _⟩ | w2
      · exact ⟨_, whole_int j 1 12⟩
      · exact ⟨_, w2 1 12⟩
  obtain ⟨bn, hn⟩ := hn
  cases b0 with
  | true => exact ⟨[], mtold_ex (mc_sizes (check_eq (p := pickB true o0 (.int q)) w0.w hm hn))⟩
  | false =>
    cases b1 with
    | true => exact ⟨[], mtold_ex (mc_sizes (check_eq (p := pickB false o0 (.int q)) gq hm hn))⟩
    | false =>
      cases b2 with
      | true =>
        rcases w2 with ⟨j, rfl, hj⟩ | w2
        · by_cases c : 1 ≤ j ∧ j ≤ 12
          · exact ⟨[], mtold_ex (mc_cols (check_eq gq gm (W_good c.1 c.2)) (by omega))⟩
          · exact ⟨[], mtold_ex (mc_sizes (check_eq (p := pickB false o0 (.int q)) gq gm (W_bad c)))⟩
        · exact ⟨[], mtold_ex (mc_sizes (check_eq (p := pickB false o0 (.int q)) gq gm (w2 1 12)))⟩
      | false =>
        cases b3 with
        | true => exact ⟨[], mtold_dist (mc_dist (check_eq gq gm gn) (by omega) w3.w)⟩
        | false => exact ⟨_, mtold_good (met_eq hq m1 n0 nm d0 d1)⟩
/-! ### the refusals -/
theorem e_shrN {f : Int} {i : Nat} : dShr (.int f) (.int (i : Int)) = some (.val (.int (f / 2 ^ i))) := by
  have := e_shr (i := f) (j := (i : Int)) (by omega)
  rwa [Int.toNat_natCast] at this
theorem ask_elt {h n m o g : D} {f : Int} {i : Nat} {gs os : List D} {s6 s7 s8 : S} (h1 : atI gs (i : Int) = some g) (h2 : atI os (i : Int) = some o) :
    (mIf (mCmp cEq (mBin dAnd (mBin dShr (mVar 5) (mVar 9)) (mC (.int 1))) (mC (.int 1))) (mBin dIx (mVar 4) (mVar 9)) (mBin dIx (mVar 3) (mVar 9))) [.ow h, .sh n, .sh m, .ow (.lst gs), .ow (.lst os), .sh (.int f), s6, s7, s8, .sh (.int (i : Int))] = .ok (.val (pickB (bit f i) o g)) [.ow h, .sh n, .sh m, .ow (.lst gs), .ow (.lst os), .sh (.int f), s6, s7, s8, .sh (.int (i : Int))] := by
  unfold pickB bit
  by_cases c : Builtin.bitAnd (f / 2 ^ i) 1 = 1
  · simp only [bindR_ok, bindR_ex, a_bind, a_of_some, a_var, a_c, a_bin, a_un, a_test, a_tru, a_cmp, a_and, a_or, a_not, a_if, a_andV, a_orV, a_notV, a_bl, a_nil, a_cons, a_tup, a_lst, a_call, a_callF, a_callIO, a_seq, a_next, a_ret, a_retN, a_drop, a_break, a_cont, a_ifS, a_asg, a_asgG, a_app, a_setI, a_iter, a_rng, a_for, a_slice, a_part0, a_part1, a_lc, a_yes, l_val, l_new, l_slot, f_val, f_new, f_slot, t_val, t_new, t_slot, s_val, s_new, s_slot, a_look2, a_look1, a_fa0, a_fa1, a_la0, a_la1, a_fn1, a_fn2, a_gN, a_gs0, a_gs1, a_gT, a_turn, a_fg0, a_fg1, a_wp0, a_wp1, a_rs0, a_rs1, a_mkF, a_mkIO, a_owL, a_owD, a_tkT, a_tkF, a_apf, a_apb, a_apn, a_aps, e_addI, e_subI, e_mulI, e_divI, e_modI, e_negI, e_lt, e_le, e_gt, e_ge, e_is, e_isnot, a_lift, e_lenL, e_lenT, e_lenS, e_intI, e_intB, e_absI, e_truB, e_truI, e_truN, e_truL, e_truT, e_ixL, e_ixT, e_tupL, e_tupT, e_lstL, e_lstT, e_sum, cEq_int, cNe_int, fin, finIO, outTk, own0, isS0, entry, entryIO, atI_0, atI_1, atI_2, atI_3, Option.map_some, List.set_cons_zero, List.set_cons_succ, List.getElem?_cons_zero, List.getElem?_cons_succ, List.getElem?_nil, List.getD_cons_zero, List.getD_cons_succ, List.map_cons, List.map_nil, List.length_cons, List.length_nil, List.length_map, List.replicate, List.cons_append, List.nil_append, Nat.reduceAdd, Nat.reduceSub, Nat.reduceLeDiff, Nat.reduceLT, Nat.zero_le, Int.reduceLT, Int.reduceLE, Int.reduceEq, Int.reduceNeg, if_true, if_false, Bool.false_eq_true, Bool.true_eq_false, reduceIte, Bool.or_true, Bool.true_or, Bool.false_or, Bool.or_false, Bool.and_true, Bool.and_false, Bool.true_and, Bool.false_and, Bool.not_true, Bool.not_false, decide_true, decide_false, decide_eq_true_eq, and_self, not_true_eq_false, not_false_eq_true, ite_self, a_try_ok, a_raise0, a_raise, a_h0, a_h1, a_en0, a_en1, a_se_nx, a_se_rt, a_lv0, a_lv1, a_un0, a_un1, a_cx0, a_cx1, a_cx2, a_cx3, a_xf, a_pad, a_walk, a_rev, w_enum, w_zipL, w_zipT, e_max, e_min, e_and, e_sumA, e_sumAT, List.reverse_cons, List.reverse_nil, List.zip_cons_cons, List.zip_nil_left, List.zip_nil_right, subE_BadSizes_BadSizes, subE_BadSizes_BadDistance, subE_BadDistance_BadSizes, subE_BadDistance_BadDistance, e_shrN, h1, h2, c]
  · simp only [bindR_ok, bindR_ex, a_bind, a_of_some, a_var, a_c, a_bin, a_un, a_test, a_tru, a_cmp, a_and, a_or, a_not, a_if, a_andV, a_orV, a_notV, a_bl, a_nil, a_cons, a_tup, a_lst, a_call, a_callF, a_callIO, a_seq, a_next, a_ret, a_retN, a_drop, a_break, a_cont, a_ifS, a_asg, a_asgG, a_app, a_setI, a_iter, a_rng, a_for, a_slice, a_part0, a_part1, a_lc, a_yes, l_val, l_new, l_slot, f_val, f_new, f_slot, t_val, t_new, t_slot, s_val, s_new, s_slot, a_look2, a_look1, a_fa0, a_fa1, a_la0, a_la1, a_fn1, a_fn2, a_gN, a_gs0, a_gs1, a_gT, a_turn, a_fg0, a_fg1, a_wp0, a_wp1, a_rs0, a_rs1, a_mkF, a_mkIO, a_owL, a_owD, a_tkT, a_tkF, a_apf, a_apb, a_apn, a_aps, e_addI, e_subI, e_mulI, e_divI, e_modI, e_negI, e_lt, e_le, e_gt, e_ge, e_is, e_isnot, a_lift, e_lenL, e_lenT, e_lenS, e_intI, e_intB, e_absI, e_truB, e_truI, e_truN, e_truL, e_truT, e_ixL, e_ixT, e_tupL, e_tupT, e_lstL, e_lstT, e_sum, cEq_int, cNe_int, fin, finIO, outTk, own0, isS0, entry, entryIO, atI_0, atI_1, atI_2, atI_3, Option.map_some, List.set_cons_zero, List.set_cons_succ, List.getElem?_cons_zero, List.getElem?_cons_succ, List.getElem?_nil, List.getD_cons_zero, List.getD_cons_succ, List.map_cons, List.map_nil, List.length_cons, List.length_nil, List.length_map, List.replicate, List.cons_append, List.nil_append, Nat.reduceAdd, Nat.reduceSub, Nat.reduceLeDiff, Nat.reduceLT, Nat.zero_le, Int.reduceLT, Int.reduceLE, Int.reduceEq, Int.reduceNeg, if_true, if_false, Bool.false_eq_true, Bool.true_eq_false, reduceIte, Bool.or_true, Bool.true_or, Bool.false_or, Bool.or_false, Bool.and_true, Bool.and_false, Bool.true_and, Bool.false_and, Bool.not_true, Bool.not_false, decide_true, decide_false, decide_eq_true_eq, and_self, not_true_eq_false, not_false_eq_true, ite_self, a_try_ok, a_raise0, a_raise, a_h0, a_h1, a_en0, a_en1, a_se_nx, a_se_rt, a_lv0, a_lv1, a_un0, a_un1, a_cx0, a_cx1, a_cx2, a_cx3, a_xf, a_pad, a_walk, a_rev, w_enum, w_zipL, w_zipT, e_max, e_min, e_and, e_sumA, e_sumAT, List.reverse_cons, List.reverse_nil, List.zip_cons_cons, List.zip_nil_left, List.zip_nil_right, subE_BadSizes_BadSizes, subE_BadSizes_BadDistance, subE_BadDistance_BadSizes, subE_BadDistance_BadDistance, e_shrN, h1, h2, c]
theorem ask_lc {h n m o0 o1 o2 o3 g0 g1 g2 g3 : D} {f : Int} {s6 s7 s8 : S} :
    mLcLoop (gN 9) [9] mYes (mIf (mCmp cEq (mBin dAnd (mBin dShr (mVar 5) (mVar 9)) (mC (.int 1))) (mC (.int 1))) (mBin dIx (mVar 4) (mVar 9)) (mBin dIx (mVar 3) (mVar 9))) (rngD 0 4) [] [.ow h, .sh n, .sh m, .ow (.lst [g0, g1, g2, g3]), .ow (.lst [o0, o1, o2, o3]), .sh (.int f), s6, s7, s8, .no] =
      .ok [pickB (bit f 0) o0 g0, pickB (bit f 1) o1 g1, pickB (bit f 2) o2 g2, pickB (bit f 3) o3 g3] [.ow h, .sh n, .sh m, .ow (.lst [g0, g1, g2, g3]), .ow (.lst [o0, o1, o2, o3]), .sh (.int f), s6, s7, s8, .no] := by
  have L := lc_fn (g := gN 9) (own := [9]) (test := mYes) (elt := (mIf (mCmp cEq (mBin dAnd (mBin dShr (mVar 5) (mVar 9)) (mC (.int 1))) (mC (.int 1))) (mBin dIx (mVar 4) (mVar 9)) (mBin dIx (mVar 3) (mVar 9)))) (fun _ => [.ow h, .sh n, .sh m, .ow (.lst [g0, g1, g2, g3]), .ow (.lst [o0, o1, o2, o3]), .sh (.int f), s6, s7, s8, .no])
    (fun i => pickB (bit f i) ([o0, o1, o2, o3].getD i .non) ([g0, g1, g2, g3].getD i .non)) (rngD 0 4) 0 [] (by rw [rng_len]; unfold lim; simp) (fun i d hi => by
      obtain ⟨h1, rfl⟩ := rng_get hi
      rw [Int.zero_add, Nat.zero_add]
      have gt : ∀ (a b c e : D), atI [a, b, c, e] (i : Int) = some ([a, b, c, e].getD i .non) := fun a b c e => atI_nat (by
        rcases (show i = 0 ∨ i = 1 ∨ i = 2 ∨ i = 3 by omega) with rfl | rfl | rfl | rfl <;> rfl)
      exact ⟨_, _, _, _, _, rfl, rfl, ask_elt (gt _ _ _ _) (gt _ _ _ _), rfl, rfl⟩)
  exact L
theorem w_facts (b0 b1 b2 b3 : Bool) : wordB b0 b1 b2 b3 = "" ∨ (wordB b0 b1 b2 b3 ≠ "" ∧ cNe (.str (wordB b0 b1 b2 b3)) (.str "") = some true ∧ cEq (.str (wordB b0 b1 b2 b3)) (.str "") = some false ∧ D.pl 64 (.tup [.str "sizes", .str (wordB b0 b1 b2 b3)]) = true ∧
    ((wordB b0 b1 b2 b3 = "rank" ∧ cEq (.str (wordB b0 b1 b2 b3)) (.str "rank") = some true) ∨ (wordB b0 b1 b2 b3 ≠ "rank" ∧ cEq (.str (wordB b0 b1 b2 b3)) (.str "rank") = some false))) := by
  cases b0 <;> cases b1 <;> cases b2 <;> cases b3 <;> first
    | exact .inl rfl
    | exact .inr ⟨by decide +kernel, by decide +kernel, by decide +kernel, by decide +kernel, .inl ⟨rfl, by decide +kernel⟩⟩
    | exact .inr ⟨by decide +kernel, by decide +kernel, by decide +kernel, by decide +kernel, .inr ⟨by decide +kernel, by decide +kernel⟩⟩
theorem empty_eq : cEq (.str "") (.str "") = some true := cEq_self (by rw [pl_str]; decide +kernel)
theorem empty_ne : cNe (.str "") (.str "") = some false := cNe_self (by rw [pl_str]; decide +kernel)
theorem told_eq : cEq (.str "told") (.str "told") = some true := cEq_self (by rw [pl_str]; decide +kernel)
theorem dist_eq : cEq (.tup [.str "distance", .str ""]) (.tup [.str "distance", .str ""]) = some true := cEq_self (by decide +kernel)
theorem tk_set {b : Bool} {d : D} : (tkOf b d).settle = .val d := by cases b <;> rfl
theorem tk_force {b : Bool} {d : D} {env : VM.Env} : force (tkOf b d) env = .ok d env := by cases b <;> rfl
theorem two {x : D} {a b : Int} (h : x ∈ ([.int a, .int b] : List D)) : ∃ i, x = .int i ∧ (i = a ∨ i = b) := by
  simp only [List.mem_cons, List.not_mem_nil, or_false] at h
  rcases h with rfl | rfl
  · exact ⟨_, rfl, .inl rfl⟩
  · exact ⟨_, rfl, .inr rfl⟩
theorem refuse_good {h : D} (g : GoodHand h) : ∃ h', F__law_refusals_hold [h] = .ok false (.bl true) h' := by
  obtain ⟨c, h1, e1, g1, c0, c1⟩ := take_good (many := 12) g (by omega) (by decide)
  obtain ⟨N, hN⟩ : ∃ N : Nat, 1 + c = (N : Int) := ⟨(1 + c).toNat, by omega⟩
  obtain ⟨t, h2, e2, g2, t0, t1⟩ := take_good (many := 13 - (N : Int)) g1 (by omega) (divOk_of (b := 20) (by omega) (by omega) (by omega))
  obtain ⟨M, hM⟩ : ∃ M : Nat, (N : Int) + t = (M : Int) := ⟨((N : Int) + t).toNat, by omega⟩
  obtain ⟨q0, h3, e3, g3, q1, q2⟩ := take_good (many := 2) g2 (by omega) (by decide)
  have hq : 2 + q0 = 2 ∨ 2 + q0 = 3 := by omega
  generalize hQ : 2 + q0 = q at hq
  obtain ⟨x, h4, e4, g4, hx⟩ := pick_good (xs := [.int 0, .int (N : Int)]) g3 (by simp) (by simp)
  obtain ⟨r, rfl, hr⟩ := two hx
  obtain ⟨w1, o0, h5, e5, g5, O0⟩ := odd_good (lo := 2) (hi := 3) g4 (by omega) (by omega) (by omega)
  obtain ⟨w2, o1, h6, e6, g6, O1⟩ := odd_good (lo := 1) (hi := 12) g5 (by omega) (by omega) (by omega)
  obtain ⟨w3, o2, h7, e7, g7, O2⟩ := odd_good (lo := 1) (hi := 12) g6 (by omega) (by omega) (by omega)
  obtain ⟨w4, o3, h8, e8, g8, O3⟩ := odd_good (lo := 0) (hi := (N : Int)) g7 (by omega) (by omega) (by omega)
  obtain ⟨f, h9, e9, g9, f0, f1⟩ := take_good (many := 16) g8 (by omega) (by decide)
  obtain ⟨x2, h10, e10, g10, hx2⟩ := pick_good (xs := [.int 1, .int ((N : Int) + 1)]) g9 (by simp) (by simp)
  obtain ⟨dd, rfl, hdd⟩ := two hx2
  obtain ⟨d, rfl⟩ : ∃ d : Nat, dd = (d : Int) := ⟨dd.toNat, by omega⟩
  obtain ⟨w5, p2, h11, e11, g11, P2⟩ := odd_good (lo := 1) (hi := (M : Int)) g10 (by omega) (by omega) (by omega)
  obtain ⟨w6, p3, h12, e12, g12, P3⟩ := odd_good (lo := 1) (hi := (N : Int) + 1) g11 (by omega) (by omega) (by omega)
  obtain ⟨y1, T1⟩ := told_flags (b0 := bit f 0) (b1 := bit f 1) (b2 := bit f 2) (b3 := bit f 3) (r := r) hq (show (1 : Int) ≤ (M : Int) by omega) (by omega) (show (1 : Int) ≤ (N : Int) by omega) (by omega) (by omega) (by omega) O0 O1 O2 O3
  obtain ⟨ys, T2⟩ := mtold_flags (b0 := bit f 0) (b1 := bit f 1) (b2 := bit f 2) (b3 := bit f 3) (m := M) (n := N) (d := d) hq (by omega) (by omega) (by omega) (by omega) (by omega) O0 O1 P2 P3
  have F1 := first_odd_eq f0 f1
  have WF := w_facts (bit f 0) (bit f 1) (bit f 2) (bit f 3)
  generalize hw : wordB (bit f 0) (bit f 1) (bit f 2) (bit f 3) = w at T1 T2 F1 WF
  have ok4 : okR 4 = true := by decide
  have n4 : Int.toNat 4 = 4 := by decide
  have now : ∀ (h n m a b c : D) (s6 s7 s8 : S), noOw [9] [.ow h, .sh n, .sh m, .ow a, .ow b, .sh c, s6, s7, s8, .no] = true := fun _ _ _ _ _ _ _ _ _ => rfl
  generalize ht : (if w = "" then D.tup [.str "told", .int y1] else D.tup [.str "sizes", .str w]) = tv at T1
  generalize hu : (if w = "" then D.tup [.str "told", .tup ys] else if w = "rank" then D.tup [.str "distance", .str ""] else D.tup [.str "sizes", .str w]) = uv at T2
  have pre : ∀ R : Rs Fl, (∀ (A1 A2 : D), (mSeq (mIfS (mCmp cEq (mVar 8) (mC (.str ""))) (mRet (mBin (lift cEq) (mBin dIx (mVar 7) (mC (.int 0))) (mC (.str "told")))) mNext)
      (mRet (mBin (lift cEq) (mVar 7) (mIf (mCmp cEq (mVar 8) (mC (.str "rank"))) (mTup (mCons (mC (.str "distance")) (mCons (mC (.str "")) mNil))) (mTup (mCons (mC (.str "sizes")) (mCons (mVar 8) mNil))))))) [.ow h12, .sh (.int N), .sh (.int M), .ow (.lst [.int q, .int M, .int N, .int d]), .ow (.lst [o0, o1, p2, p3]), .sh (.int f), .ow (.lst [pickB (bit f 0) o0 (.int q), pickB (bit f 1) o1 (.int M), pickB (bit f 2) p2 (.int N), pickB (bit f 3) p3 (.int d)]), .sh uv, .sh (.str w), .no] = R) → B__law_refusals_hold (entryIO 10 h []) = R := by
    intro R hR
    unfold B__law_refusals_hold
    refine (seq_ok (e := [.ow h1, .sh (.int N), .no, .no, .no, .no, .no, .no, .no, .no]) (by simp only [bindR_ok, bindR_ex, a_bind, a_of_some, a_var, a_c, a_bin, a_un, a_test, a_tru, a_cmp, a_and, a_or, a_not, a_if, a_andV, a_orV, a_notV, a_bl, a_nil, a_cons, a_tup, a_lst, a_call, a_callF, a_callIO, a_seq, a_next, a_ret, a_retN, a_drop, a_break, a_cont, a_ifS, a_asg, a_asgG, a_app, a_setI, a_iter, a_rng, a_for, a_slice, a_part0, a_part1, a_lc, a_yes, l_val, l_new, l_slot, f_val, f_new, f_slot, t_val, t_new, t_slot, s_val, s_new, s_slot, a_look2, a_look1, a_fa0, a_fa1, a_la0, a_la1, a_fn1, a_fn2, a_gN, a_gs0, a_gs1, a_gT, a_turn, a_fg0, a_fg1, a_wp0, a_wp1, a_rs0, a_rs1, a_mkF, a_mkIO, a_owL, a_owD, a_tkT, a_tkF, a_apf, a_apb, a_apn, a_aps, e_addI, e_subI, e_mulI, e_divI, e_modI, e_negI, e_lt, e_le, e_gt, e_ge, e_is, e_isnot, a_lift, e_lenL, e_lenT, e_lenS, e_intI, e_intB, e_absI, e_truB, e_truI, e_truN, e_truL, e_truT, e_ixL, e_ixT, e_tupL, e_tupT, e_lstL, e_lstT, e_sum, cEq_int, cNe_int, fin, finIO, outTk, own0, isS0, entry, entryIO, atI_0, atI_1, atI_2, atI_3, Option.map_some, List.set_cons_zero, List.set_cons_succ, List.getElem?_cons_zero, List.getElem?_cons_succ, List.getElem?_nil, List.getD_cons_zero, List.getD_cons_succ, List.map_cons, List.map_nil, List.length_cons, List.length_nil, List.length_map, List.replicate, List.cons_append, List.nil_append, Nat.reduceAdd, Nat.reduceSub, Nat.reduceLeDiff, Nat.reduceLT, Nat.zero_le, Int.reduceLT, Int.reduceLE, Int.reduceEq, Int.reduceNeg, if_true, if_false, Bool.false_eq_true, Bool.true_eq_false, reduceIte, Bool.or_true, Bool.true_or, Bool.false_or, Bool.or_false, Bool.and_true, Bool.and_false, Bool.true_and, Bool.false_and, Bool.not_true, Bool.not_false, decide_true, decide_false, decide_eq_true_eq, and_self, not_true_eq_false, not_false_eq_true, ite_self, a_try_ok, a_raise0, a_raise, a_h0, a_h1, a_en0, a_en1, a_se_nx, a_se_rt, a_lv0, a_lv1, a_un0, a_un1, a_cx0, a_cx1, a_cx2, a_cx3, a_xf, a_pad, a_walk, a_rev, w_enum, w_zipL, w_zipT, e_max, e_min, e_and, e_sumA, e_sumAT, List.reverse_cons, List.reverse_nil, List.zip_cons_cons, List.zip_nil_left, List.zip_nil_right, subE_BadSizes_BadSizes, subE_BadSizes_BadDistance, subE_BadDistance_BadSizes, subE_BadDistance_BadDistance, e1, hN])).trans ?_
    refine (seq_ok (e := [.ow h2, .sh (.int N), .sh (.int M), .no, .no, .no, .no, .no, .no, .no]) (by simp only [bindR_ok, bindR_ex, a_bind, a_of_some, a_var, a_c, a_bin, a_un, a_test, a_tru, a_cmp, a_and, a_or, a_not, a_if, a_andV, a_orV, a_notV, a_bl, a_nil, a_cons, a_tup, a_lst, a_call, a_callF, a_callIO, a_seq, a_next, a_ret, a_retN, a_drop, a_break, a_cont, a_ifS, a_asg, a_asgG, a_app, a_setI, a_iter, a_rng, a_for, a_slice, a_part0, a_part1, a_lc, a_yes, l_val, l_new, l_slot, f_val, f_new, f_slot, t_val, t_new, t_slot, s_val, s_new, s_slot, a_look2, a_look1, a_fa0, a_fa1, a_la0, a_la1, a_fn1, a_fn2, a_gN, a_gs0, a_gs1, a_gT, a_turn, a_fg0, a_fg1, a_wp0, a_wp1, a_rs0, a_rs1, a_mkF, a_mkIO, a_owL, a_owD, a_tkT, a_tkF, a_apf, a_apb, a_apn, a_aps, e_addI, e_subI, e_mulI, e_divI, e_modI, e_negI, e_lt, e_le, e_gt, e_ge, e_is, e_isnot, a_lift, e_lenL, e_lenT, e_lenS, e_intI, e_intB, e_absI, e_truB, e_truI, e_truN, e_truL, e_truT, e_ixL, e_ixT, e_tupL, e_tupT, e_lstL, e_lstT, e_sum, cEq_int, cNe_int, fin, finIO, outTk, own0, isS0, entry, entryIO, atI_0, atI_1, atI_2, atI_3, Option.map_some, List.set_cons_zero, List.set_cons_succ, List.getElem?_cons_zero, List.getElem?_cons_succ, List.getElem?_nil, List.getD_cons_zero, List.getD_cons_succ, List.map_cons, List.map_nil, List.length_cons, List.length_nil, List.length_map, List.replicate, List.cons_append, List.nil_append, Nat.reduceAdd, Nat.reduceSub, Nat.reduceLeDiff, Nat.reduceLT, Nat.zero_le, Int.reduceLT, Int.reduceLE, Int.reduceEq, Int.reduceNeg, if_true, if_false, Bool.false_eq_true, Bool.true_eq_false, reduceIte, Bool.or_true, Bool.true_or, Bool.false_or, Bool.or_false, Bool.and_true, Bool.and_false, Bool.true_and, Bool.false_and, Bool.not_true, Bool.not_false, decide_true, decide_false, decide_eq_true_eq, and_self, not_true_eq_false, not_false_eq_true, ite_self, a_try_ok, a_raise0, a_raise, a_h0, a_h1, a_en0, a_en1, a_se_nx, a_se_rt, a_lv0, a_lv1, a_un0, a_un1, a_cx0, a_cx1, a_cx2, a_cx3, a_xf, a_pad, a_walk, a_rev, w_enum, w_zipL, w_zipT, e_max, e_min, e_and, e_sumA, e_sumAT, List.reverse_cons, List.reverse_nil, List.zip_cons_cons, List.zip_nil_left, List.zip_nil_right, subE_BadSizes_BadSizes, subE_BadSizes_BadDistance, subE_BadDistance_BadSizes, subE_BadDistance_BadDistance, e2, hM])).trans ?_
    refine (seq_ok (e := [.ow h4, .sh (.int N), .sh (.int M), .ow (.lst [.int q, .int M, .int N, .int r]), .no, .no, .no, .no, .no, .no]) (by simp only [bindR_ok, bindR_ex, a_bind, a_of_some, a_var, a_c, a_bin, a_un, a_test, a_tru, a_cmp, a_and, a_or, a_not, a_if, a_andV, a_orV, a_notV, a_bl, a_nil, a_cons, a_tup, a_lst, a_call, a_callF, a_callIO, a_seq, a_next, a_ret, a_retN, a_drop, a_break, a_cont, a_ifS, a_asg, a_asgG, a_app, a_setI, a_iter, a_rng, a_for, a_slice, a_part0, a_part1, a_lc, a_yes, l_val, l_new, l_slot, f_val, f_new, f_slot, t_val, t_new, t_slot, s_val, s_new, s_slot, a_look2, a_look1, a_fa0, a_fa1, a_la0, a_la1, a_fn1, a_fn2, a_gN, a_gs0, a_gs1, a_gT, a_turn, a_fg0, a_fg1, a_wp0, a_wp1, a_rs0, a_rs1, a_mkF, a_mkIO, a_owL, a_owD, a_tkT, a_tkF, a_apf, a_apb, a_apn, a_aps, e_addI, e_subI, e_mulI, e_divI, e_modI, e_negI, e_lt, e_le, e_gt, e_ge, e_is, e_isnot, a_lift, e_lenL, e_lenT, e_lenS, e_intI, e_intB, e_absI, e_truB, e_truI, e_truN, e_truL, e_truT, e_ixL, e_ixT, e_tupL, e_tupT, e_lstL, e_lstT, e_sum, cEq_int, cNe_int, fin, finIO, outTk, own0, isS0, entry, entryIO, atI_0, atI_1, atI_2, atI_3, Option.map_some, List.set_cons_zero, List.set_cons_succ, List.getElem?_cons_zero, List.getElem?_cons_succ, List.getElem?_nil, List.getD_cons_zero, List.getD_cons_succ, List.map_cons, List.map_nil, List.length_cons, List.length_nil, List.length_map, List.replicate, List.cons_append, List.nil_append, Nat.reduceAdd, Nat.reduceSub, Nat.reduceLeDiff, Nat.reduceLT, Nat.zero_le, Int.reduceLT, Int.reduceLE, Int.reduceEq, Int.reduceNeg, if_true, if_false, Bool.false_eq_true, Bool.true_eq_false, reduceIte, Bool.or_true, Bool.true_or, Bool.false_or, Bool.or_false, Bool.and_true, Bool.and_false, Bool.true_and, Bool.false_and, Bool.not_true, Bool.not_false, decide_true, decide_false, decide_eq_true_eq, and_self, not_true_eq_false, not_false_eq_true, ite_self, a_try_ok, a_raise0, a_raise, a_h0, a_h1, a_en0, a_en1, a_se_nx, a_se_rt, a_lv0, a_lv1, a_un0, a_un1, a_cx0, a_cx1, a_cx2, a_cx3, a_xf, a_pad, a_walk, a_rev, w_enum, w_zipL, w_zipT, e_max, e_min, e_and, e_sumA, e_sumAT, List.reverse_cons, List.reverse_nil, List.zip_cons_cons, List.zip_nil_left, List.zip_nil_right, subE_BadSizes_BadSizes, subE_BadSizes_BadDistance, subE_BadDistance_BadSizes, subE_BadDistance_BadDistance, e3, hQ, e4])).trans ?_
    refine (seq_ok (e := [.ow h8, .sh (.int N), .sh (.int M), .ow (.lst [.int q, .int M, .int N, .int r]), .ow (.lst [o0, o1, o2, o3]), .no, .no, .no, .no, .no]) (by simp only [bindR_ok, bindR_ex, a_bind, a_of_some, a_var, a_c, a_bin, a_un, a_test, a_tru, a_cmp, a_and, a_or, a_not, a_if, a_andV, a_orV, a_notV, a_bl, a_nil, a_cons, a_tup, a_lst, a_call, a_callF, a_callIO, a_seq, a_next, a_ret, a_retN, a_drop, a_break, a_cont, a_ifS, a_asg, a_asgG, a_app, a_setI, a_iter, a_rng, a_for, a_slice, a_part0, a_part1, a_lc, a_yes, l_val, l_new, l_slot, f_val, f_new, f_slot, t_val, t_new, t_slot, s_val, s_new, s_slot, a_look2, a_look1, a_fa0, a_fa1, a_la0, a_la1, a_fn1, a_fn2, a_gN, a_gs0, a_gs1, a_gT, a_turn, a_fg0, a_fg1, a_wp0, a_wp1, a_rs0, a_rs1, a_mkF, a_mkIO, a_owL, a_owD, a_tkT, a_tkF, a_apf, a_apb, a_apn, a_aps, e_addI, e_subI, e_mulI, e_divI, e_modI, e_negI, e_lt, e_le, e_gt, e_ge, e_is, e_isnot, a_lift, e_lenL, e_lenT, e_lenS, e_intI, e_intB, e_absI, e_truB, e_truI, e_truN, e_truL, e_truT, e_ixL, e_ixT, e_tupL, e_tupT, e_lstL, e_lstT, e_sum, cEq_int, cNe_int, fin, finIO, outTk, own0, isS0, entry, entryIO, atI_0, atI_1, atI_2, atI_3, Option.map_some, List.set_cons_zero, List.set_cons_succ, List.getElem?_cons_zero, List.getElem?_cons_succ, List.getElem?_nil, List.getD_cons_zero, List.getD_cons_succ, List.map_cons, List.map_nil, List.length_cons, List.length_nil, List.length_map, List.replicate, List.cons_append, List.nil_append, Nat.reduceAdd, Nat.reduceSub, Nat.reduceLeDiff, Nat.reduceLT, Nat.zero_le, Int.reduceLT, Int.reduceLE, Int.reduceEq, Int.reduceNeg, if_true, if_false, Bool.false_eq_true, Bool.true_eq_false, reduceIte, Bool.or_true, Bool.true_or, Bool.false_or, Bool.or_false, Bool.and_true, Bool.and_false, Bool.true_and, Bool.false_and, Bool.not_true, Bool.not_false, decide_true, decide_false, decide_eq_true_eq, and_self, not_true_eq_false, not_false_eq_true, ite_self, a_try_ok, a_raise0, a_raise, a_h0, a_h1, a_en0, a_en1, a_se_nx, a_se_rt, a_lv0, a_lv1, a_un0, a_un1, a_cx0, a_cx1, a_cx2, a_cx3, a_xf, a_pad, a_walk, a_rev, w_enum, w_zipL, w_zipT, e_max, e_min, e_and, e_sumA, e_sumAT, List.reverse_cons, List.reverse_nil, List.zip_cons_cons, List.zip_nil_left, List.zip_nil_right, subE_BadSizes_BadSizes, subE_BadSizes_BadDistance, subE_BadDistance_BadSizes, subE_BadDistance_BadDistance, e5, e6, e7, e8, tk_set])).trans ?_
    refine (seq_ok (e := [.ow h9, .sh (.int N), .sh (.int M), .ow (.lst [.int q, .int M, .int N, .int r]), .ow (.lst [o0, o1, o2, o3]), .sh (.int f), .no, .no, .no, .no]) (by simp only [bindR_ok, bindR_ex, a_bind, a_of_some, a_var, a_c, a_bin, a_un, a_test, a_tru, a_cmp, a_and, a_or, a_not, a_if, a_andV, a_orV, a_notV, a_bl, a_nil, a_cons, a_tup, a_lst, a_call, a_callF, a_callIO, a_seq, a_next, a_ret, a_retN, a_drop, a_break, a_cont, a_ifS, a_asg, a_asgG, a_app, a_setI, a_iter, a_rng, a_for, a_slice, a_part0, a_part1, a_lc, a_yes, l_val, l_new, l_slot, f_val, f_new, f_slot, t_val, t_new, t_slot, s_val, s_new, s_slot, a_look2, a_look1, a_fa0, a_fa1, a_la0, a_la1, a_fn1, a_fn2, a_gN, a_gs0, a_gs1, a_gT, a_turn, a_fg0, a_fg1, a_wp0, a_wp1, a_rs0, a_rs1, a_mkF, a_mkIO, a_owL, a_owD, a_tkT, a_tkF, a_apf, a_apb, a_apn, a_aps, e_addI, e_subI, e_mulI, e_divI, e_modI, e_negI, e_lt, e_le, e_gt, e_ge, e_is, e_isnot, a_lift, e_lenL, e_lenT, e_lenS, e_intI, e_intB, e_absI, e_truB, e_truI, e_truN, e_truL, e_truT, e_ixL, e_ixT, e_tupL, e_tupT, e_lstL, e_lstT, e_sum, cEq_int, cNe_int, fin, finIO, outTk, own0, isS0, entry, entryIO, atI_0, atI_1, atI_2, atI_3, Option.map_some, List.set_cons_zero, List.set_cons_succ, List.getElem?_cons_zero, List.getElem?_cons_succ, List.getElem?_nil, List.getD_cons_zero, List.getD_cons_succ, List.map_cons, List.map_nil, List.length_cons, List.length_nil, List.length_map, List.replicate, List.cons_append, List.nil_append, Nat.reduceAdd, Nat.reduceSub, Nat.reduceLeDiff, Nat.reduceLT, Nat.zero_le, Int.reduceLT, Int.reduceLE, Int.reduceEq, Int.reduceNeg, if_true, if_false, Bool.false_eq_true, Bool.true_eq_false, reduceIte, Bool.or_true, Bool.true_or, Bool.false_or, Bool.or_false, Bool.and_true, Bool.and_false, Bool.true_and, Bool.false_and, Bool.not_true, Bool.not_false, decide_true, decide_false, decide_eq_true_eq, and_self, not_true_eq_false, not_false_eq_true, ite_self, a_try_ok, a_raise0, a_raise, a_h0, a_h1, a_en0, a_en1, a_se_nx, a_se_rt, a_lv0, a_lv1, a_un0, a_un1, a_cx0, a_cx1, a_cx2, a_cx3, a_xf, a_pad, a_walk, a_rev, w_enum, w_zipL, w_zipT, e_max, e_min, e_and, e_sumA, e_sumAT, List.reverse_cons, List.reverse_nil, List.zip_cons_cons, List.zip_nil_left, List.zip_nil_right, subE_BadSizes_BadSizes, subE_BadSizes_BadDistance, subE_BadDistance_BadSizes, subE_BadDistance_BadDistance, e9])).trans ?_
    refine (seq_ok (e := [.ow h9, .sh (.int N), .sh (.int M), .ow (.lst [.int q, .int M, .int N, .int r]), .ow (.lst [o0, o1, o2, o3]), .sh (.int f), .ow (.lst [pickB (bit f 0) o0 (.int q), pickB (bit f 1) o1 (.int M), pickB (bit f 2) o2 (.int N), pickB (bit f 3) o3 (.int r)]), .no, .no, .no]) (by simp only [bindR_ok, bindR_ex, a_bind, a_of_some, a_var, a_c, a_bin, a_un, a_test, a_tru, a_cmp, a_and, a_or, a_not, a_if, a_andV, a_orV, a_notV, a_bl, a_nil, a_cons, a_tup, a_lst, a_call, a_callF, a_callIO, a_seq, a_next, a_ret, a_retN, a_drop, a_break, a_cont, a_ifS, a_asg, a_asgG, a_app, a_setI, a_iter, a_rng, a_for, a_slice, a_part0, a_part1, a_lc, a_yes, l_val, l_new, l_slot, f_val, f_new, f_slot, t_val, t_new, t_slot, s_val, s_new, s_slot, a_look2, a_look1, a_fa0, a_fa1, a_la0, a_la1, a_fn1, a_fn2, a_gN, a_gs0, a_gs1, a_gT, a_turn, a_fg0, a_fg1, a_wp0, a_wp1, a_rs0, a_rs1, a_mkF, a_mkIO, a_owL, a_owD, a_tkT, a_tkF, a_apf, a_apb, a_apn, a_aps, e_addI, e_subI, e_mulI, e_divI, e_modI, e_negI, e_lt, e_le, e_gt, e_ge, e_is, e_isnot, a_lift, e_lenL, e_lenT, e_lenS, e_intI, e_intB, e_absI, e_truB, e_truI, e_truN, e_truL, e_truT, e_ixL, e_ixT, e_tupL, e_tupT, e_lstL, e_lstT, e_sum, cEq_int, cNe_int, fin, finIO, outTk, own0, isS0, entry, entryIO, atI_0, atI_1, atI_2, atI_3, Option.map_some, List.set_cons_zero, List.set_cons_succ, List.getElem?_cons_zero, List.getElem?_cons_succ, List.getElem?_nil, List.getD_cons_zero, List.getD_cons_succ, List.map_cons, List.map_nil, List.length_cons, List.length_nil, List.length_map, List.replicate, List.cons_append, List.nil_append, Nat.reduceAdd, Nat.reduceSub, Nat.reduceLeDiff, Nat.reduceLT, Nat.zero_le, Int.reduceLT, Int.reduceLE, Int.reduceEq, Int.reduceNeg, if_true, if_false, Bool.false_eq_true, Bool.true_eq_false, reduceIte, Bool.or_true, Bool.true_or, Bool.false_or, Bool.or_false, Bool.and_true, Bool.and_false, Bool.true_and, Bool.false_and, Bool.not_true, Bool.not_false, decide_true, decide_false, decide_eq_true_eq, and_self, not_true_eq_false, not_false_eq_true, ite_self, a_try_ok, a_raise0, a_raise, a_h0, a_h1, a_en0, a_en1, a_se_nx, a_se_rt, a_lv0, a_lv1, a_un0, a_un1, a_cx0, a_cx1, a_cx2, a_cx3, a_xf, a_pad, a_walk, a_rev, w_enum, w_zipL, w_zipT, e_max, e_min, e_and, e_sumA, e_sumAT, List.reverse_cons, List.reverse_nil, List.zip_cons_cons, List.zip_nil_left, List.zip_nil_right, subE_BadSizes_BadSizes, subE_BadSizes_BadDistance, subE_BadDistance_BadSizes, subE_BadDistance_BadDistance, ok4, n4, now, ask_lc])).trans ?_
    refine (seq_ok (e := [.ow h9, .sh (.int N), .sh (.int M), .ow (.lst [.int q, .int M, .int N, .int r]), .ow (.lst [o0, o1, o2, o3]), .sh (.int f), .ow (.lst [pickB (bit f 0) o0 (.int q), pickB (bit f 1) o1 (.int M), pickB (bit f 2) o2 (.int N), pickB (bit f 3) o3 (.int r)]), .sh tv, .no, .no]) (by simp only [bindR_ok, bindR_ex, a_bind, a_of_some, a_var, a_c, a_bin, a_un, a_test, a_tru, a_cmp, a_and, a_or, a_not, a_if, a_andV, a_orV, a_notV, a_bl, a_nil, a_cons, a_tup, a_lst, a_call, a_callF, a_callIO, a_seq, a_next, a_ret, a_retN, a_drop, a_break, a_cont, a_ifS, a_asg, a_asgG, a_app, a_setI, a_iter, a_rng, a_for, a_slice, a_part0, a_part1, a_lc, a_yes, l_val, l_new, l_slot, f_val, f_new, f_slot, t_val, t_new, t_slot, s_val, s_new, s_slot, a_look2, a_look1, a_fa0, a_fa1, a_la0, a_la1, a_fn1, a_fn2, a_gN, a_gs0, a_gs1, a_gT, a_turn, a_fg0, a_fg1, a_wp0, a_wp1, a_rs0, a_rs1, a_mkF, a_mkIO, a_owL, a_owD, a_tkT, a_tkF, a_apf, a_apb, a_apn, a_aps, e_addI, e_subI, e_mulI, e_divI, e_modI, e_negI, e_lt, e_le, e_gt, e_ge, e_is, e_isnot, a_lift, e_lenL, e_lenT, e_lenS, e_intI, e_intB, e_absI, e_truB, e_truI, e_truN, e_truL, e_truT, e_ixL, e_ixT, e_tupL, e_tupT, e_lstL, e_lstT, e_sum, cEq_int, cNe_int, fin, finIO, outTk, own0, isS0, entry, entryIO, atI_0, atI_1, atI_2, atI_3, Option.map_some, List.set_cons_zero, List.set_cons_succ, List.getElem?_cons_zero, List.getElem?_cons_succ, List.getElem?_nil, List.getD_cons_zero, List.getD_cons_succ, List.map_cons, List.map_nil, List.length_cons, List.length_nil, List.length_map, List.replicate, List.cons_append, List.nil_append, Nat.reduceAdd, Nat.reduceSub, Nat.reduceLeDiff, Nat.reduceLT, Nat.zero_le, Int.reduceLT, Int.reduceLE, Int.reduceEq, Int.reduceNeg, if_true, if_false, Bool.false_eq_true, Bool.true_eq_false, reduceIte, Bool.or_true, Bool.true_or, Bool.false_or, Bool.or_false, Bool.and_true, Bool.and_false, Bool.true_and, Bool.false_and, Bool.not_true, Bool.not_false, decide_true, decide_false, decide_eq_true_eq, and_self, not_true_eq_false, not_false_eq_true, ite_self, a_try_ok, a_raise0, a_raise, a_h0, a_h1, a_en0, a_en1, a_se_nx, a_se_rt, a_lv0, a_lv1, a_un0, a_un1, a_cx0, a_cx1, a_cx2, a_cx3, a_xf, a_pad, a_walk, a_rev, w_enum, w_zipL, w_zipT, e_max, e_min, e_and, e_sumA, e_sumAT, List.reverse_cons, List.reverse_nil, List.zip_cons_cons, List.zip_nil_left, List.zip_nil_right, subE_BadSizes_BadSizes, subE_BadSizes_BadDistance, subE_BadDistance_BadSizes, subE_BadDistance_BadDistance, T1])).trans ?_
    refine (seq_ok (e := [.ow h9, .sh (.int N), .sh (.int M), .ow (.lst [.int q, .int M, .int N, .int r]), .ow (.lst [o0, o1, o2, o3]), .sh (.int f), .ow (.lst [pickB (bit f 0) o0 (.int q), pickB (bit f 1) o1 (.int M), pickB (bit f 2) o2 (.int N), pickB (bit f 3) o3 (.int r)]), .sh tv, .sh (.str w), .no]) (by simp only [bindR_ok, bindR_ex, a_bind, a_of_some, a_var, a_c, a_bin, a_un, a_test, a_tru, a_cmp, a_and, a_or, a_not, a_if, a_andV, a_orV, a_notV, a_bl, a_nil, a_cons, a_tup, a_lst, a_call, a_callF, a_callIO, a_seq, a_next, a_ret, a_retN, a_drop, a_break, a_cont, a_ifS, a_asg, a_asgG, a_app, a_setI, a_iter, a_rng, a_for, a_slice, a_part0, a_part1, a_lc, a_yes, l_val, l_new, l_slot, f_val, f_new, f_slot, t_val, t_new, t_slot, s_val, s_new, s_slot, a_look2, a_look1, a_fa0, a_fa1, a_la0, a_la1, a_fn1, a_fn2, a_gN, a_gs0, a_gs1, a_gT, a_turn, a_fg0, a_fg1, a_wp0, a_wp1, a_rs0, a_rs1, a_mkF, a_mkIO, a_owL, a_owD, a_tkT, a_tkF, a_apf, a_apb, a_apn, a_aps, e_addI, e_subI, e_mulI, e_divI, e_modI, e_negI, e_lt, e_le, e_gt, e_ge, e_is, e_isnot, a_lift, e_lenL, e_lenT, e_lenS, e_intI, e_intB, e_absI, e_truB, e_truI, e_truN, e_truL, e_truT, e_ixL, e_ixT, e_tupL, e_tupT, e_lstL, e_lstT, e_sum, cEq_int, cNe_int, fin, finIO, outTk, own0, isS0, entry, entryIO, atI_0, atI_1, atI_2, atI_3, Option.map_some, List.set_cons_zero, List.set_cons_succ, List.getElem?_cons_zero, List.getElem?_cons_succ, List.getElem?_nil, List.getD_cons_zero, List.getD_cons_succ, List.map_cons, List.map_nil, List.length_cons, List.length_nil, List.length_map, List.replicate, List.cons_append, List.nil_append, Nat.reduceAdd, Nat.reduceSub, Nat.reduceLeDiff, Nat.reduceLT, Nat.zero_le, Int.reduceLT, Int.reduceLE, Int.reduceEq, Int.reduceNeg, if_true, if_false, Bool.false_eq_true, Bool.true_eq_false, reduceIte, Bool.or_true, Bool.true_or, Bool.false_or, Bool.or_false, Bool.and_true, Bool.and_false, Bool.true_and, Bool.false_and, Bool.not_true, Bool.not_false, decide_true, decide_false, decide_eq_true_eq, and_self, not_true_eq_false, not_false_eq_true, ite_self, a_try_ok, a_raise0, a_raise, a_h0, a_h1, a_en0, a_en1, a_se_nx, a_se_rt, a_lv0, a_lv1, a_un0, a_un1, a_cx0, a_cx1, a_cx2, a_cx3, a_xf, a_pad, a_walk, a_rev, w_enum, w_zipL, w_zipT, e_max, e_min, e_and, e_sumA, e_sumAT, List.reverse_cons, List.reverse_nil, List.zip_cons_cons, List.zip_nil_left, List.zip_nil_right, subE_BadSizes_BadSizes, subE_BadSizes_BadDistance, subE_BadDistance_BadSizes, subE_BadDistance_BadDistance, F1])).trans ?_
    refine (seq_ok (e := [.ow h9, .sh (.int N), .sh (.int M), .ow (.lst [.int q, .int M, .int N, .int r]), .ow (.lst [o0, o1, o2, o3]), .sh (.int f), .ow (.lst [pickB (bit f 0) o0 (.int q), pickB (bit f 1) o1 (.int M), pickB (bit f 2) o2 (.int N), pickB (bit f 3) o3 (.int r)]), .sh tv, .sh (.str w), .no]) (by
      rcases WF with z | ⟨z, w1, w2, w3, _⟩
      · rw [if_pos z] at ht
        subst ht
        rw [z]
        simp only [bindR_ok, bindR_ex, a_bind, a_of_some, a_var, a_c, a_bin, a_un, a_test, a_tru, a_cmp, a_and, a_or, a_not, a_if, a_andV, a_orV, a_notV, a_bl, a_nil, a_cons, a_tup, a_lst, a_call, a_callF, a_callIO, a_seq, a_next, a_ret, a_retN, a_drop, a_break, a_cont, a_ifS, a_asg, a_asgG, a_app, a_setI, a_iter, a_rng, a_for, a_slice, a_part0, a_part1, a_lc, a_yes, l_val, l_new, l_slot, f_val, f_new, f_slot, t_val, t_new, t_slot, s_val, s_new, s_slot, a_look2, a_look1, a_fa0, a_fa1, a_la0, a_la1, a_fn1, a_fn2, a_gN, a_gs0, a_gs1, a_gT, a_turn, a_fg0, a_fg1, a_wp0, a_wp1, a_rs0, a_rs1, a_mkF, a_mkIO, a_owL, a_owD, a_tkT, a_tkF, a_apf, a_apb, a_apn, a_aps, e_addI, e_subI, e_mulI, e_divI, e_modI, e_negI, e_lt, e_le, e_gt, e_ge, e_is, e_isnot, a_lift, e_lenL, e_lenT, e_lenS, e_intI, e_intB, e_absI, e_truB, e_truI, e_truN, e_truL, e_truT, e_ixL, e_ixT, e_tupL, e_tupT, e_lstL, e_lstT, e_sum, cEq_int, cNe_int, fin, finIO, outTk, own0, isS0, entry, entryIO, atI_0, atI_1, atI_2, atI_3, Option.map_some, List.set_cons_zero, List.set_cons_succ, List.getElem?_cons_zero, List.getElem?_cons_succ, List.getElem?_nil, List.getD_cons_zero, List.getD_cons_succ, List.map_cons, List.map_nil, List.length_cons, List.length_nil, List.length_map, List.replicate, List.cons_append, List.nil_append, Nat.reduceAdd, Nat.reduceSub, Nat.reduceLeDiff, Nat.reduceLT, Nat.zero_le, Int.reduceLT, Int.reduceLE, Int.reduceEq, Int.reduceNeg, if_true, if_false, Bool.false_eq_true, Bool.true_eq_false, reduceIte, Bool.or_true, Bool.true_or, Bool.false_or, Bool.or_false, Bool.and_true, Bool.and_false, Bool.true_and, Bool.false_and, Bool.not_true, Bool.not_false, decide_true, decide_false, decide_eq_true_eq, and_self, not_true_eq_false, not_false_eq_true, ite_self, a_try_ok, a_raise0, a_raise, a_h0, a_h1, a_en0, a_en1, a_se_nx, a_se_rt, a_lv0, a_lv1, a_un0, a_un1, a_cx0, a_cx1, a_cx2, a_cx3, a_xf, a_pad, a_walk, a_rev, w_enum, w_zipL, w_zipT, e_max, e_min, e_and, e_sumA, e_sumAT, List.reverse_cons, List.reverse_nil, List.zip_cons_cons, List.zip_nil_left, List.zip_nil_right, subE_BadSizes_BadSizes, subE_BadSizes_BadDistance, subE_BadDistance_BadSizes, subE_BadDistance_BadDistance, empty_ne, empty_eq, told_told]
      · rw [if_neg z] at ht
        subst ht
        have w4 := cNe_self w3
        simp only [bindR_ok, bindR_ex, a_bind, a_of_some, a_var, a_c, a_bin, a_un, a_test, a_tru, a_cmp, a_and, a_or, a_not, a_if, a_andV, a_orV, a_notV, a_bl, a_nil, a_cons, a_tup, a_lst, a_call, a_callF, a_callIO, a_seq, a_next, a_ret, a_retN, a_drop, a_break, a_cont, a_ifS, a_asg, a_asgG, a_app, a_setI, a_iter, a_rng, a_for, a_slice, a_part0, a_part1, a_lc, a_yes, l_val, l_new, l_slot, f_val, f_new, f_slot, t_val, t_new, t_slot, s_val, s_new, s_slot, a_look2, a_look1, a_fa0, a_fa1, a_la0, a_la1, a_fn1, a_fn2, a_gN, a_gs0, a_gs1, a_gT, a_turn, a_fg0, a_fg1, a_wp0, a_wp1, a_rs0, a_rs1, a_mkF, a_mkIO, a_owL, a_owD, a_tkT, a_tkF, a_apf, a_apb, a_apn, a_aps, e_addI, e_subI, e_mulI, e_divI, e_modI, e_negI, e_lt, e_le, e_gt, e_ge, e_is, e_isnot, a_lift, e_lenL, e_lenT, e_lenS, e_intI, e_intB, e_absI, e_truB, e_truI, e_truN, e_truL, e_truT, e_ixL, e_ixT, e_tupL, e_tupT, e_lstL, e_lstT, e_sum, cEq_int, cNe_int, fin, finIO, outTk, own0, isS0, entry, entryIO, atI_0, atI_1, atI_2, atI_3, Option.map_some, List.set_cons_zero, List.set_cons_succ, List.getElem?_cons_zero, List.getElem?_cons_succ, List.getElem?_nil, List.getD_cons_zero, List.getD_cons_succ, List.map_cons, List.map_nil, List.length_cons, List.length_nil, List.length_map, List.replicate, List.cons_append, List.nil_append, Nat.reduceAdd, Nat.reduceSub, Nat.reduceLeDiff, Nat.reduceLT, Nat.zero_le, Int.reduceLT, Int.reduceLE, Int.reduceEq, Int.reduceNeg, if_true, if_false, Bool.false_eq_true, Bool.true_eq_false, reduceIte, Bool.or_true, Bool.true_or, Bool.false_or, Bool.or_false, Bool.and_true, Bool.and_false, Bool.true_and, Bool.false_and, Bool.not_true, Bool.not_false, decide_true, decide_false, decide_eq_true_eq, and_self, not_true_eq_false, not_false_eq_true, ite_self, a_try_ok, a_raise0, a_raise, a_h0, a_h1, a_en0, a_en1, a_se_nx, a_se_rt, a_lv0, a_lv1, a_un0, a_un1, a_cx0, a_cx1, a_cx2, a_cx3, a_xf, a_pad, a_walk, a_rev, w_enum, w_zipL, w_zipT, e_max, e_min, e_and, e_sumA, e_sumAT, List.reverse_cons, List.reverse_nil, List.zip_cons_cons, List.zip_nil_left, List.zip_nil_right, subE_BadSizes_BadSizes, subE_BadSizes_BadDistance, subE_BadDistance_BadSizes, subE_BadDistance_BadDistance, w1, w2, w4])).trans ?_
    refine (seq_ok (e := [.ow h10, .sh (.int N), .sh (.int M), .ow (.lst [.int q, .int M, .int N, .int d]), .ow (.lst [o0, o1, o2, o3]), .sh (.int f), .ow (.lst [pickB (bit f 0) o0 (.int q), pickB (bit f 1) o1 (.int M), pickB (bit f 2) o2 (.int N), pickB (bit f 3) o3 (.int r)]), .sh tv, .sh (.str w), .no]) (by simp only [bindR_ok, bindR_ex, a_bind, a_of_some, a_var, a_c, a_bin, a_un, a_test, a_tru, a_cmp, a_and, a_or, a_not, a_if, a_andV, a_orV, a_notV, a_bl, a_nil, a_cons, a_tup, a_lst, a_call, a_callF, a_callIO, a_seq, a_next, a_ret, a_retN, a_drop, a_break, a_cont, a_ifS, a_asg, a_asgG, a_app, a_setI, a_iter, a_rng, a_for, a_slice, a_part0, a_part1, a_lc, a_yes, l_val, l_new, l_slot, f_val, f_new, f_slot, t_val, t_new, t_slot, s_val, s_new, s_slot, a_look2, a_look1, a_fa0, a_fa1, a_la0, a_la1, a_fn1, a_fn2, a_gN, a_gs0, a_gs1, a_gT, a_turn, a_fg0, a_fg1, a_wp0, a_wp1, a_rs0, a_rs1, a_mkF, a_mkIO, a_owL, a_owD, a_tkT, a_tkF, a_apf, a_apb, a_apn, a_aps, e_addI, e_subI, e_mulI, e_divI, e_modI, e_negI, e_lt, e_le, e_gt, e_ge, e_is, e_isnot, a_lift, e_lenL, e_lenT, e_lenS, e_intI, e_intB, e_absI, e_truB, e_truI, e_truN, e_truL, e_truT, e_ixL, e_ixT, e_tupL, e_tupT, e_lstL, e_lstT, e_sum, cEq_int, cNe_int, fin, finIO, outTk, own0, isS0, entry, entryIO, atI_0, atI_1, atI_2, atI_3, Option.map_some, List.set_cons_zero, List.set_cons_succ, List.getElem?_cons_zero, List.getElem?_cons_succ, List.getElem?_nil, List.getD_cons_zero, List.getD_cons_succ, List.map_cons, List.map_nil, List.length_cons, List.length_nil, List.length_map, List.replicate, List.cons_append, List.nil_append, Nat.reduceAdd, Nat.reduceSub, Nat.reduceLeDiff, Nat.reduceLT, Nat.zero_le, Int.reduceLT, Int.reduceLE, Int.reduceEq, Int.reduceNeg, if_true, if_false, Bool.false_eq_true, Bool.true_eq_false, reduceIte, Bool.or_true, Bool.true_or, Bool.false_or, Bool.or_false, Bool.and_true, Bool.and_false, Bool.true_and, Bool.false_and, Bool.not_true, Bool.not_false, decide_true, decide_false, decide_eq_true_eq, and_self, not_true_eq_false, not_false_eq_true, ite_self, a_try_ok, a_raise0, a_raise, a_h0, a_h1, a_en0, a_en1, a_se_nx, a_se_rt, a_lv0, a_lv1, a_un0, a_un1, a_cx0, a_cx1, a_cx2, a_cx3, a_xf, a_pad, a_walk, a_rev, w_enum, w_zipL, w_zipT, e_max, e_min, e_and, e_sumA, e_sumAT, List.reverse_cons, List.reverse_nil, List.zip_cons_cons, List.zip_nil_left, List.zip_nil_right, subE_BadSizes_BadSizes, subE_BadSizes_BadDistance, subE_BadDistance_BadSizes, subE_BadDistance_BadDistance, e10, ixN_3 (show 3 < 4 by decide)])).trans ?_
    refine (seq_ok (e := [.ow h11, .sh (.int N), .sh (.int M), .ow (.lst [.int q, .int M, .int N, .int d]), .ow (.lst [o0, o1, p2, o3]), .sh (.int f), .ow (.lst [pickB (bit f 0) o0 (.int q), pickB (bit f 1) o1 (.int M), pickB (bit f 2) o2 (.int N), pickB (bit f 3) o3 (.int r)]), .sh tv, .sh (.str w), .no]) (by simp only [bindR_ok, bindR_ex, a_bind, a_of_some, a_var, a_c, a_bin, a_un, a_test, a_tru, a_cmp, a_and, a_or, a_not, a_if, a_andV, a_orV, a_notV, a_bl, a_nil, a_cons, a_tup, a_lst, a_call, a_callF, a_callIO, a_seq, a_next, a_ret, a_retN, a_drop, a_break, a_cont, a_ifS, a_asg, a_asgG, a_app, a_setI, a_iter, a_rng, a_for, a_slice, a_part0, a_part1, a_lc, a_yes, l_val, l_new, l_slot, f_val, f_new, f_slot, t_val, t_new, t_slot, s_val, s_new, s_slot, a_look2, a_look1, a_fa0, a_fa1, a_la0, a_la1, a_fn1, a_fn2, a_gN, a_gs0, a_gs1, a_gT, a_turn, a_fg0, a_fg1, a_wp0, a_wp1, a_rs0, a_rs1, a_mkF, a_mkIO, a_owL, a_owD, a_tkT, a_tkF, a_apf, a_apb, a_apn, a_aps, e_addI, e_subI, e_mulI, e_divI, e_modI, e_negI, e_lt, e_le, e_gt, e_ge, e_is, e_isnot, a_lift, e_lenL, e_lenT, e_lenS, e_intI, e_intB, e_absI, e_truB, e_truI, e_truN, e_truL, e_truT, e_ixL, e_ixT, e_tupL, e_tupT, e_lstL, e_lstT, e_sum, cEq_int, cNe_int, fin, finIO, outTk, own0, isS0, entry, entryIO, atI_0, atI_1, atI_2, atI_3, Option.map_some, List.set_cons_zero, List.set_cons_succ, List.getElem?_cons_zero, List.getElem?_cons_succ, List.getElem?_nil, List.getD_cons_zero, List.getD_cons_succ, List.map_cons, List.map_nil, List.length_cons, List.length_nil, List.length_map, List.replicate, List.cons_append, List.nil_append, Nat.reduceAdd, Nat.reduceSub, Nat.reduceLeDiff, Nat.reduceLT, Nat.zero_le, Int.reduceLT, Int.reduceLE, Int.reduceEq, Int.reduceNeg, if_true, if_false, Bool.false_eq_true, Bool.true_eq_false, reduceIte, Bool.or_true, Bool.true_or, Bool.false_or, Bool.or_false, Bool.and_true, Bool.and_false, Bool.true_and, Bool.false_and, Bool.not_true, Bool.not_false, decide_true, decide_false, decide_eq_true_eq, and_self, not_true_eq_false, not_false_eq_true, ite_self, a_try_ok, a_raise0, a_raise, a_h0, a_h1, a_en0, a_en1, a_se_nx, a_se_rt, a_lv0, a_lv1, a_un0, a_un1, a_cx0, a_cx1, a_cx2, a_cx3, a_xf, a_pad, a_walk, a_rev, w_enum, w_zipL, w_zipT, e_max, e_min, e_and, e_sumA, e_sumAT, List.reverse_cons, List.reverse_nil, List.zip_cons_cons, List.zip_nil_left, List.zip_nil_right, subE_BadSizes_BadSizes, subE_BadSizes_BadDistance, subE_BadDistance_BadSizes, subE_BadDistance_BadDistance, e11, tk_force, ixN_2 (show 2 < 4 by decide)])).trans ?_
    refine (seq_ok (e := [.ow h12, .sh (.int N), .sh (.int M), .ow (.lst [.int q, .int M, .int N, .int d]), .ow (.lst [o0, o1, p2, p3]), .sh (.int f), .ow (.lst [pickB (bit f 0) o0 (.int q), pickB (bit f 1) o1 (.int M), pickB (bit f 2) o2 (.int N), pickB (bit f 3) o3 (.int r)]), .sh tv, .sh (.str w), .no]) (by simp only [bindR_ok, bindR_ex, a_bind, a_of_some, a_var, a_c, a_bin, a_un, a_test, a_tru, a_cmp, a_and, a_or, a_not, a_if, a_andV, a_orV, a_notV, a_bl, a_nil, a_cons, a_tup, a_lst, a_call, a_callF, a_callIO, a_seq, a_next, a_ret, a_retN, a_drop, a_break, a_cont, a_ifS, a_asg, a_asgG, a_app, a_setI, a_iter, a_rng, a_for, a_slice, a_part0, a_part1, a_lc, a_yes, l_val, l_new, l_slot, f_val, f_new, f_slot, t_val, t_new, t_slot, s_val, s_new, s_slot, a_look2, a_look1, a_fa0, a_fa1, a_la0, a_la1, a_fn1, a_fn2, a_gN, a_gs0, a_gs1, a_gT, a_turn, a_fg0, a_fg1, a_wp0, a_wp1, a_rs0, a_rs1, a_mkF, a_mkIO, a_owL, a_owD, a_tkT, a_tkF, a_apf, a_apb, a_apn, a_aps, e_addI, e_subI, e_mulI, e_divI, e_modI, e_negI, e_lt, e_le, e_gt, e_ge, e_is, e_isnot, a_lift, e_lenL, e_lenT, e_lenS, e_intI, e_intB, e_absI, e_truB, e_truI, e_truN, e_truL, e_truT, e_ixL, e_ixT, e_tupL, e_tupT, e_lstL, e_lstT, e_sum, cEq_int, cNe_int, fin, finIO, outTk, own0, isS0, entry, entryIO, atI_0, atI_1, atI_2, atI_3, Option.map_some, List.set_cons_zero, List.set_cons_succ, List.getElem?_cons_zero, List.getElem?_cons_succ, List.getElem?_nil, List.getD_cons_zero, List.getD_cons_succ, List.map_cons, List.map_nil, List.length_cons, List.length_nil, List.length_map, List.replicate, List.cons_append, List.nil_append, Nat.reduceAdd, Nat.reduceSub, Nat.reduceLeDiff, Nat.reduceLT, Nat.zero_le, Int.reduceLT, Int.reduceLE, Int.reduceEq, Int.reduceNeg, if_true, if_false, Bool.false_eq_true, Bool.true_eq_false, reduceIte, Bool.or_true, Bool.true_or, Bool.false_or, Bool.or_false, Bool.and_true, Bool.and_false, Bool.true_and, Bool.false_and, Bool.not_true, Bool.not_false, decide_true, decide_false, decide_eq_true_eq, and_self, not_true_eq_false, not_false_eq_true, ite_self, a_try_ok, a_raise0, a_raise, a_h0, a_h1, a_en0, a_en1, a_se_nx, a_se_rt, a_lv0, a_lv1, a_un0, a_un1, a_cx0, a_cx1, a_cx2, a_cx3, a_xf, a_pad, a_walk, a_rev, w_enum, w_zipL, w_zipT, e_max, e_min, e_and, e_sumA, e_sumAT, List.reverse_cons, List.reverse_nil, List.zip_cons_cons, List.zip_nil_left, List.zip_nil_right, subE_BadSizes_BadSizes, subE_BadSizes_BadDistance, subE_BadDistance_BadSizes, subE_BadDistance_BadDistance, e12, tk_force, ixN_3 (show 3 < 4 by decide)])).trans ?_
    refine (seq_ok (e := [.ow h12, .sh (.int N), .sh (.int M), .ow (.lst [.int q, .int M, .int N, .int d]), .ow (.lst [o0, o1, p2, p3]), .sh (.int f), .ow (.lst [pickB (bit f 0) o0 (.int q), pickB (bit f 1) o1 (.int M), pickB (bit f 2) p2 (.int N), pickB (bit f 3) p3 (.int d)]), .sh tv, .sh (.str w), .no]) (by simp only [bindR_ok, bindR_ex, a_bind, a_of_some, a_var, a_c, a_bin, a_un, a_test, a_tru, a_cmp, a_and, a_or, a_not, a_if, a_andV, a_orV, a_notV, a_bl, a_nil, a_cons, a_tup, a_lst, a_call, a_callF, a_callIO, a_seq, a_next, a_ret, a_retN, a_drop, a_break, a_cont, a_ifS, a_asg, a_asgG, a_app, a_setI, a_iter, a_rng, a_for, a_slice, a_part0, a_part1, a_lc, a_yes, l_val, l_new, l_slot, f_val, f_new, f_slot, t_val, t_new, t_slot, s_val, s_new, s_slot, a_look2, a_look1, a_fa0, a_fa1, a_la0, a_la1, a_fn1, a_fn2, a_gN, a_gs0, a_gs1, a_gT, a_turn, a_fg0, a_fg1, a_wp0, a_wp1, a_rs0, a_rs1, a_mkF, a_mkIO, a_owL, a_owD, a_tkT, a_tkF, a_apf, a_apb, a_apn, a_aps, e_addI, e_subI, e_mulI, e_divI, e_modI, e_negI, e_lt, e_le, e_gt, e_ge, e_is, e_isnot, a_lift, e_lenL, e_lenT, e_lenS, e_intI, e_intB, e_absI, e_truB, e_truI, e_truN, e_truL, e_truT, e_ixL, e_ixT, e_tupL, e_tupT, e_lstL, e_lstT, e_sum, cEq_int, cNe_int, fin, finIO, outTk, own0, isS0, entry, entryIO, atI_0, atI_1, atI_2, atI_3, Option.map_some, List.set_cons_zero, List.set_cons_succ, List.getElem?_cons_zero, List.getElem?_cons_succ, List.getElem?_nil, List.getD_cons_zero, List.getD_cons_succ, List.map_cons, List.map_nil, List.length_cons, List.length_nil, List.length_map, List.replicate, List.cons_append, List.nil_append, Nat.reduceAdd, Nat.reduceSub, Nat.reduceLeDiff, Nat.reduceLT, Nat.zero_le, Int.reduceLT, Int.reduceLE, Int.reduceEq, Int.reduceNeg, if_true, if_false, Bool.false_eq_true, Bool.true_eq_false, reduceIte, Bool.or_true, Bool.true_or, Bool.false_or, Bool.or_false, Bool.and_true, Bool.and_false, Bool.true_and, Bool.false_and, Bool.not_true, Bool.not_false, decide_true, decide_false, decide_eq_true_eq, and_self, not_true_eq_false, not_false_eq_true, ite_self, a_try_ok, a_raise0, a_raise, a_h0, a_h1, a_en0, a_en1, a_se_nx, a_se_rt, a_lv0, a_lv1, a_un0, a_un1, a_cx0, a_cx1, a_cx2, a_cx3, a_xf, a_pad, a_walk, a_rev, w_enum, w_zipL, w_zipT, e_max, e_min, e_and, e_sumA, e_sumAT, List.reverse_cons, List.reverse_nil, List.zip_cons_cons, List.zip_nil_left, List.zip_nil_right, subE_BadSizes_BadSizes, subE_BadSizes_BadDistance, subE_BadDistance_BadSizes, subE_BadDistance_BadDistance, ok4, n4, now, ask_lc])).trans ?_
    refine (seq_ok (e := [.ow h12, .sh (.int N), .sh (.int M), .ow (.lst [.int q, .int M, .int N, .int d]), .ow (.lst [o0, o1, p2, p3]), .sh (.int f), .ow (.lst [pickB (bit f 0) o0 (.int q), pickB (bit f 1) o1 (.int M), pickB (bit f 2) p2 (.int N), pickB (bit f 3) p3 (.int d)]), .sh uv, .sh (.str w), .no]) (by simp only [bindR_ok, bindR_ex, a_bind, a_of_some, a_var, a_c, a_bin, a_un, a_test, a_tru, a_cmp, a_and, a_or, a_not, a_if, a_andV, a_orV, a_notV, a_bl, a_nil, a_cons, a_tup, a_lst, a_call, a_callF, a_callIO, a_seq, a_next, a_ret, a_retN, a_drop, a_break, a_cont, a_ifS, a_asg, a_asgG, a_app, a_setI, a_iter, a_rng, a_for, a_slice, a_part0, a_part1, a_lc, a_yes, l_val, l_new, l_slot, f_val, f_new, f_slot, t_val, t_new, t_slot, s_val, s_new, s_slot, a_look2, a_look1, a_fa0, a_fa1, a_la0, a_la1, a_fn1, a_fn2, a_gN, a_gs0, a_gs1, a_gT, a_turn, a_fg0, a_fg1, a_wp0, a_wp1, a_rs0, a_rs1, a_mkF, a_mkIO, a_owL, a_owD, a_tkT, a_tkF, a_apf, a_apb, a_apn, a_aps, e_addI, e_subI, e_mulI, e_divI, e_modI, e_negI, e_lt, e_le, e_gt, e_ge, e_is, e_isnot, a_lift, e_lenL, e_lenT, e_lenS, e_intI, e_intB, e_absI, e_truB, e_truI, e_truN, e_truL, e_truT, e_ixL, e_ixT, e_tupL, e_tupT, e_lstL, e_lstT, e_sum, cEq_int, cNe_int, fin, finIO, outTk, own0, isS0, entry, entryIO, atI_0, atI_1, atI_2, atI_3, Option.map_some, List.set_cons_zero, List.set_cons_succ, List.getElem?_cons_zero, List.getElem?_cons_succ, List.getElem?_nil, List.getD_cons_zero, List.getD_cons_succ, List.map_cons, List.map_nil, List.length_cons, List.length_nil, List.length_map, List.replicate, List.cons_append, List.nil_append, Nat.reduceAdd, Nat.reduceSub, Nat.reduceLeDiff, Nat.reduceLT, Nat.zero_le, Int.reduceLT, Int.reduceLE, Int.reduceEq, Int.reduceNeg, if_true, if_false, Bool.false_eq_true, Bool.true_eq_false, reduceIte, Bool.or_true, Bool.true_or, Bool.false_or, Bool.or_false, Bool.and_true, Bool.and_false, Bool.true_and, Bool.false_and, Bool.not_true, Bool.not_false, decide_true, decide_false, decide_eq_true_eq, and_self, not_true_eq_false, not_false_eq_true, ite_self, a_try_ok, a_raise0, a_raise, a_h0, a_h1, a_en0, a_en1, a_se_nx, a_se_rt, a_lv0, a_lv1, a_un0, a_un1, a_cx0, a_cx1, a_cx2, a_cx3, a_xf, a_pad, a_walk, a_rev, w_enum, w_zipL, w_zipT, e_max, e_min, e_and, e_sumA, e_sumAT, List.reverse_cons, List.reverse_nil, List.zip_cons_cons, List.zip_nil_left, List.zip_nil_right, subE_BadSizes_BadSizes, subE_BadSizes_BadDistance, subE_BadDistance_BadSizes, subE_BadDistance_BadDistance, T2])).trans ?_
    exact hR .non .non
  refine ⟨h12, ?_⟩
  unfold F__law_refusals_hold
  rw [a_mkIO, pre (.ok (.rt (.val (.bl true))) [.ow h12, .sh (.int N), .sh (.int M), .ow (.lst [.int q, .int M, .int N, .int d]), .ow (.lst [o0, o1, p2, p3]), .sh (.int f), .ow (.lst [pickB (bit f 0) o0 (.int q), pickB (bit f 1) o1 (.int M), pickB (bit f 2) p2 (.int N), pickB (bit f 3) p3 (.int d)]), .sh uv, .sh (.str w), .no]) fun _ _ => ?_]
  · simp only [bindR_ok, bindR_ex, a_bind, a_of_some, a_var, a_c, a_bin, a_un, a_test, a_tru, a_cmp, a_and, a_or, a_not, a_if, a_andV, a_orV, a_notV, a_bl, a_nil, a_cons, a_tup, a_lst, a_call, a_callF, a_callIO, a_seq, a_next, a_ret, a_retN, a_drop, a_break, a_cont, a_ifS, a_asg, a_asgG, a_app, a_setI, a_iter, a_rng, a_for, a_slice, a_part0, a_part1, a_lc, a_yes, l_val, l_new, l_slot, f_val, f_new, f_slot, t_val, t_new, t_slot, s_val, s_new, s_slot, a_look2, a_look1, a_fa0, a_fa1, a_la0, a_la1, a_fn1, a_fn2, a_gN, a_gs0, a_gs1, a_gT, a_turn, a_fg0, a_fg1, a_wp0, a_wp1, a_rs0, a_rs1, a_mkF, a_mkIO, a_owL, a_owD, a_tkT, a_tkF, a_apf, a_apb, a_apn, a_aps, e_addI, e_subI, e_mulI, e_divI, e_modI, e_negI, e_lt, e_le, e_gt, e_ge, e_is, e_isnot, a_lift, e_lenL, e_lenT, e_lenS, e_intI, e_intB, e_absI, e_truB, e_truI, e_truN, e_truL, e_truT, e_ixL, e_ixT, e_tupL, e_tupT, e_lstL, e_lstT, e_sum, cEq_int, cNe_int, fin, finIO, outTk, own0, isS0, entry, entryIO, atI_0, atI_1, atI_2, atI_3, Option.map_some, List.set_cons_zero, List.set_cons_succ, List.getElem?_cons_zero, List.getElem?_cons_succ, List.getElem?_nil, List.getD_cons_zero, List.getD_cons_succ, List.map_cons, List.map_nil, List.length_cons, List.length_nil, List.length_map, List.replicate, List.cons_append, List.nil_append, Nat.reduceAdd, Nat.reduceSub, Nat.reduceLeDiff, Nat.reduceLT, Nat.zero_le, Int.reduceLT, Int.reduceLE, Int.reduceEq, Int.reduceNeg, if_true, if_false, Bool.false_eq_true, Bool.true_eq_false, reduceIte, Bool.or_true, Bool.true_or, Bool.false_or, Bool.or_false, Bool.and_true, Bool.and_false, Bool.true_and, Bool.false_and, Bool.not_true, Bool.not_false, decide_true, decide_false, decide_eq_true_eq, and_self, not_true_eq_false, not_false_eq_true, ite_self, a_try_ok, a_raise0, a_raise, a_h0, a_h1, a_en0, a_en1, a_se_nx, a_se_rt, a_lv0, a_lv1, a_un0, a_un1, a_cx0, a_cx1, a_cx2, a_cx3, a_xf, a_pad, a_walk, a_rev, w_enum, w_zipL, w_zipT, e_max, e_min, e_and, e_sumA, e_sumAT, List.reverse_cons, List.reverse_nil, List.zip_cons_cons, List.zip_nil_left, List.zip_nil_right, subE_BadSizes_BadSizes, subE_BadSizes_BadDistance, subE_BadDistance_BadSizes, subE_BadDistance_BadDistance]
  · rcases WF with z | ⟨z, w1, w2, w3, ⟨w4, w5⟩ | ⟨w4, w5⟩⟩
    · rw [if_pos z] at hu
      subst hu
      rw [z]
      simp only [bindR_ok, bindR_ex, a_bind, a_of_some, a_var, a_c, a_bin, a_un, a_test, a_tru, a_cmp, a_and, a_or, a_not, a_if, a_andV, a_orV, a_notV, a_bl, a_nil, a_cons, a_tup, a_lst, a_call, a_callF, a_callIO, a_seq, a_next, a_ret, a_retN, a_drop, a_break, a_cont, a_ifS, a_asg, a_asgG, a_app, a_setI, a_iter, a_rng, a_for, a_slice, a_part0, a_part1, a_lc, a_yes, l_val, l_new, l_slot, f_val, f_new, f_slot, t_val, t_new, t_slot, s_val, s_new, s_slot, a_look2, a_look1, a_fa0, a_fa1, a_la0, a_la1, a_fn1, a_fn2, a_gN, a_gs0, a_gs1, a_gT, a_turn, a_fg0, a_fg1, a_wp0, a_wp1, a_rs0, a_rs1, a_mkF, a_mkIO, a_owL, a_owD, a_tkT, a_tkF, a_apf, a_apb, a_apn, a_aps, e_addI, e_subI, e_mulI, e_divI, e_modI, e_negI, e_lt, e_le, e_gt, e_ge, e_is, e_isnot, a_lift, e_lenL, e_lenT, e_lenS, e_intI, e_intB, e_absI, e_truB, e_truI, e_truN, e_truL, e_truT, e_ixL, e_ixT, e_tupL, e_tupT, e_lstL, e_lstT, e_sum, cEq_int, cNe_int, fin, finIO, outTk, own0, isS0, entry, entryIO, atI_0, atI_1, atI_2, atI_3, Option.map_some, List.set_cons_zero, List.set_cons_succ, List.getElem?_cons_zero, List.getElem?_cons_succ, List.getElem?_nil, List.getD_cons_zero, List.getD_cons_succ, List.map_cons, List.map_nil, List.length_cons, List.length_nil, List.length_map, List.replicate, List.cons_append, List.nil_append, Nat.reduceAdd, Nat.reduceSub, Nat.reduceLeDiff, Nat.reduceLT, Nat.zero_le, Int.reduceLT, Int.reduceLE, Int.reduceEq, Int.reduceNeg, if_true, if_false, Bool.false_eq_true, Bool.true_eq_false, reduceIte, Bool.or_true, Bool.true_or, Bool.false_or, Bool.or_false, Bool.and_true, Bool.and_false, Bool.true_and, Bool.false_and, Bool.not_true, Bool.not_false, decide_true, decide_false, decide_eq_true_eq, and_self, not_true_eq_false, not_false_eq_true, ite_self, a_try_ok, a_raise0, a_raise, a_h0, a_h1, a_en0, a_en1, a_se_nx, a_se_rt, a_lv0, a_lv1, a_un0, a_un1, a_cx0, a_cx1, a_cx2, a_cx3, a_xf, a_pad, a_walk, a_rev, w_enum, w_zipL, w_zipT, e_max, e_min, e_and, e_sumA, e_sumAT, List.reverse_cons, List.reverse_nil, List.zip_cons_cons, List.zip_nil_left, List.zip_nil_right, subE_BadSizes_BadSizes, subE_BadSizes_BadDistance, subE_BadDistance_BadSizes, subE_BadDistance_BadDistance, empty_eq, told_eq]
    · rw [if_neg z, if_pos w4] at hu
      subst hu
      simp only [bindR_ok, bindR_ex, a_bind, a_of_some, a_var, a_c, a_bin, a_un, a_test, a_tru, a_cmp, a_and, a_or, a_not, a_if, a_andV, a_orV, a_notV, a_bl, a_nil, a_cons, a_tup, a_lst, a_call, a_callF, a_callIO, a_seq, a_next, a_ret, a_retN, a_drop, a_break, a_cont, a_ifS, a_asg, a_asgG, a_app, a_setI, a_iter, a_rng, a_for, a_slice, a_part0, a_part1, a_lc, a_yes, l_val, l_new, l_slot, f_val, f_new, f_slot, t_val, t_new, t_slot, s_val, s_new, s_slot, a_look2, a_look1, a_fa0, a_fa1, a_la0, a_la1, a_fn1, a_fn2, a_gN, a_gs0, a_gs1, a_gT, a_turn, a_fg0, a_fg1, a_wp0, a_wp1, a_rs0, a_rs1, a_mkF, a_mkIO, a_owL, a_owD, a_tkT, a_tkF, a_apf, a_apb, a_apn, a_aps, e_addI, e_subI, e_mulI, e_divI, e_modI, e_negI, e_lt, e_le, e_gt, e_ge, e_is, e_isnot, a_lift, e_lenL, e_lenT, e_lenS, e_intI, e_intB, e_absI, e_truB, e_truI, e_truN, e_truL, e_truT, e_ixL, e_ixT, e_tupL, e_tupT, e_lstL, e_lstT, e_sum, cEq_int, cNe_int, fin, finIO, outTk, own0, isS0, entry, entryIO, atI_0, atI_1, atI_2, atI_3, Option.map_some, List.set_cons_zero, List.set_cons_succ, List.getElem?_cons_zero, List.getElem?_cons_succ, List.getElem?_nil, List.getD_cons_zero, List.getD_cons_succ, List.map_cons, List.map_nil, List.length_cons, List.length_nil, List.length_map, List.replicate, List.cons_append, List.nil_append, Nat.reduceAdd, Nat.reduceSub, Nat.reduceLeDiff, Nat.reduceLT, Nat.zero_le, Int.reduceLT, Int.reduceLE, Int.reduceEq, Int.reduceNeg, if_true, if_false, Bool.false_eq_true, Bool.true_eq_false, reduceIte, Bool.or_true, Bool.true_or, Bool.false_or, Bool.or_false, Bool.and_true, Bool.and_false, Bool.true_and, Bool.false_and, Bool.not_true, Bool.not_false, decide_true, decide_false, decide_eq_true_eq, and_self, not_true_eq_false, not_false_eq_true, ite_self, a_try_ok, a_raise0, a_raise, a_h0, a_h1, a_en0, a_en1, a_se_nx, a_se_rt, a_lv0, a_lv1, a_un0, a_un1, a_cx0, a_cx1, a_cx2, a_cx3, a_xf, a_pad, a_walk, a_rev, w_enum, w_zipL, w_zipT, e_max, e_min, e_and, e_sumA, e_sumAT, List.reverse_cons, List.reverse_nil, List.zip_cons_cons, List.zip_nil_left, List.zip_nil_right, subE_BadSizes_BadSizes, subE_BadSizes_BadDistance, subE_BadDistance_BadSizes, subE_BadDistance_BadDistance, w2, w5, dist_eq]
    · rw [if_neg z, if_neg w4] at hu
      subst hu
      have w6 := cEq_self w3
      simp only [bindR_ok, bindR_ex, a_bind, a_of_some, a_var, a_c, a_bin, a_un, a_test, a_tru, a_cmp, a_and, a_or, a_not, a_if, a_andV, a_orV, a_notV, a_bl, a_nil, a_cons, a_tup, a_lst, a_call, a_callF, a_callIO, a_seq, a_next, a_ret, a_retN, a_drop, a_break, a_cont, a_ifS, a_asg, a_asgG, a_app, a_setI, a_iter, a_rng, a_for, a_slice, a_part0, a_part1, a_lc, a_yes, l_val, l_new, l_slot, f_val, f_new, f_slot, t_val, t_new, t_slot, s_val, s_new, s_slot, a_look2, a_look1, a_fa0, a_fa1, a_la0, a_la1, a_fn1, a_fn2, a_gN, a_gs0, a_gs1, a_gT, a_turn, a_fg0, a_fg1, a_wp0, a_wp1, a_rs0, a_rs1, a_mkF, a_mkIO, a_owL, a_owD, a_tkT, a_tkF, a_apf, a_apb, a_apn, a_aps, e_addI, e_subI, e_mulI, e_divI, e_modI, e_negI, e_lt, e_le, e_gt, e_ge, e_is, e_isnot, a_lift, e_lenL, e_lenT, e_lenS, e_intI, e_intB, e_absI, e_truB, e_truI, e_truN, e_truL, e_truT, e_ixL, e_ixT, e_tupL, e_tupT, e_lstL, e_lstT, e_sum, cEq_int, cNe_int, fin, finIO, outTk, own0, isS0, entry, entryIO, atI_0, atI_1, atI_2, atI_3, Option.map_some, List.set_cons_zero, List.set_cons_succ, List.getElem?_cons_zero, List.getElem?_cons_succ, List.getElem?_nil, List.getD_cons_zero, List.getD_cons_succ, List.map_cons, List.map_nil, List.length_cons, List.length_nil, List.length_map, List.replicate, List.cons_append, List.nil_append, Nat.reduceAdd, Nat.reduceSub, Nat.reduceLeDiff, Nat.reduceLT, Nat.zero_le, Int.reduceLT, Int.reduceLE, Int.reduceEq, Int.reduceNeg, if_true, if_false, Bool.false_eq_true, Bool.true_eq_false, reduceIte, Bool.or_true, Bool.true_or, Bool.false_or, Bool.or_false, Bool.and_true, Bool.and_false, Bool.true_and, Bool.false_and, Bool.not_true, Bool.not_false, decide_true, decide_false, decide_eq_true_eq, and_self, not_true_eq_false, not_false_eq_true, ite_self, a_try_ok, a_raise0, a_raise, a_h0, a_h1, a_en0, a_en1, a_se_nx, a_se_rt, a_lv0, a_lv1, a_un0, a_un1, a_cx0, a_cx1, a_cx2, a_cx3, a_xf, a_pad, a_walk, a_rev, w_enum, w_zipL, w_zipT, e_max, e_min, e_and, e_sumA, e_sumAT, List.reverse_cons, List.reverse_nil, List.zip_cons_cons, List.zip_nil_left, List.zip_nil_right, subE_BadSizes_BadSizes, subE_BadSizes_BadDistance, subE_BadDistance_BadSizes, subE_BadDistance_BadDistance, w2, w5, w6]
/-! ### the law -/
theorem cntB_ints (q : Int) (B : Nat → Int) (n k : Nat) : cntB q B n k = ((List.range k).map fun r => gR q n r * B r).map .int := by unfold cntB; rw [List.map_map]; rfl
theorem apart_cnt {q : Int} {B : Nat → Int} {n k : Nat} : apart true (.lst (cntB q B n k)) = true := by
  show (false || (true && (cntB q B n k).all D.flat)) = true
  rw [cntB_ints, List.all_map]
  simp [D.flat]
theorem cut_zero {q : Int} {m n d : Nat} (d0 : 1 ≤ d) (d1 : d ≤ n + 1) : cutD (cntB q (mA q m d) n (n + 1)) (some 1) (some (d : Int)) = List.replicate (d - 1) (.int 0) := by
  unfold VM.cutD
  rw [cntB_len, show (1 : Int) = ((1 : Nat) : Int) from rfl, HT.sIx_nat, HT.sIx_nat, show min 1 (n + 1) = 1 by omega, show min d (n + 1) = d by omega]
  apply List.ext_getElem?
  intro i
  rw [List.getElem?_take, List.getElem?_drop, List.getElem?_replicate]
  by_cases c : i < d - 1
  · rw [if_pos c, if_pos c]
    unfold cntB
    rw [List.getElem?_map, List.getElem?_range (by omega)]
    show some (D.int (gR q n (1 + i) * mA q m d (1 + i))) = _
    have : mA q m d (1 + i) = 0 := by
      unfold mA
      rw [if_neg (by omega), show 1 + i + 1 - d = 0 by omega]
      rfl
    rw [this, Int.mul_zero]
  · rw [if_neg c, if_neg c]
theorem rep_flat (k : Nat) : (List.replicate k [D.int 0]).flatten = List.replicate k (D.int 0) := by
  induction k with
  | zero => rfl
  | succ k ih => rw [List.replicate_succ, List.flatten_cons, ih]; rfl
theorem dmul_rep {k : Nat} (h : k ≤ 1000) : dMul (.lst [.int 0]) (.int (k : Int)) = some (.new (.lst (List.replicate k (.int 0)))) := by
  simp only [dMul]
  rw [if_pos ⟨by omega, by omega, by rw [Int.toNat_natCast, sizeLine_eq, List.length_singleton]; omega⟩, Int.toNat_natCast, rep_flat]
theorem pl_rep {k : Nat} : D.pl 64 (.lst (List.replicate k (.int 0))) = true := by
  rw [show 64 = 63 + 1 from rfl, pl_lst, List.all_eq_true]
  intro x hx
  rw [List.eq_of_mem_replicate hx]
  exact pl_int
theorem cnt_eq {q : Int} (h : q = 2 ∨ q = 3) {m n : Nat} (hm : m ≤ 12) (hn : n ≤ 12) : cntB q (mA q m 1) n (n + 1) = cntB q (gP q m) n (n + 1) := by
  unfold cntB
  refine List.map_congr_left fun r hr => ?_
  rw [mA_one h hm (by have := List.mem_range.mp hr; omega)]
theorem pl_toldT {q : Int} {B : Nat → Int} {n k : Nat} : D.pl 64 (.tup [.str "told", .tup (cntB q B n k)]) = true := by
  rw [show 64 = 62 + 1 + 1 from rfl, pl_tup, List.all_cons, List.all_cons, List.all_nil, pl_str, pl_tup, cntB_ints, pl_ints]
  decide +kernel
def wlL (q : Int) (m n k : Nat) : List D := (List.range k).map fun r => .tup [.str "told", .int (gR q n r * gP q m r)]
theorem pl_wl {q : Int} {m n k : Nat} : D.pl 64 (.lst (wlL q m n k)) = true := by
  rw [show 64 = 63 + 1 from rfl, pl_lst]
  unfold wlL
  rw [List.all_map, List.all_eq_true]
  intro x _
  show D.pl 63 (.tup [.str "told", .int _]) = true
  rw [show 63 = 62 + 1 from rfl, pl_tup, List.all_cons, List.all_cons, List.all_nil, pl_int, pl_str]
  decide +kernel
theorem lw_elt (FP : List D → Rf) (a b : D) (q m n d s x : Int) (s6 s7 s8 s9 s11 s12 : S) (j : Int) (hj : (if s - d + 1 > 0 then s - d + 1 else 0) = j) (mm : mulOk m j = true) (e1 : FP [.int q, .int (m * j)] = .ok false (.int x) .non) :
    (mCallF FP (mCons (mVar 2) (mCons (mBin dMul (mVar 3) (mCall (fn2 dMax) (mCons (mC (.int 0)) (mCons (mBin dAdd (mBin dSub (mVar 10) (mVar 5)) (mC (.int 1))) mNil)))) mNil))) [.sh a, .ow b, .sh (.int q), .sh (.int m), .sh (.int n), .sh (.int d), s6, s7, s8, s9, .sh (.int s), s11, s12] =
      .ok (.val (.int x)) [.sh a, .ow b, .sh (.int q), .sh (.int m), .sh (.int n), .sh (.int d), s6, s7, s8, s9, .sh (.int s), s11, s12] := by
  simp only [bindR_ok, bindR_ex, a_bind, a_of_some, a_var, a_c, a_bin, a_un, a_test, a_tru, a_cmp, a_and, a_or, a_not, a_if, a_andV, a_orV, a_notV, a_bl, a_nil, a_cons, a_tup, a_lst, a_call, a_callF, a_callIO, a_seq, a_next, a_ret, a_retN, a_drop, a_break, a_cont, a_ifS, a_asg, a_asgG, a_app, a_setI, a_iter, a_rng, a_for, a_slice, a_part0, a_part1, a_lc, a_yes, l_val, l_new, l_slot, f_val, f_new, f_slot, t_val, t_new, t_slot, s_val, s_new, s_slot, a_look2, a_look1, a_fa0, a_fa1, a_la0, a_la1, a_fn1, a_fn2, a_gN, a_gs0, a_gs1, a_gT, a_turn, a_fg0, a_fg1, a_wp0, a_wp1, a_rs0, a_rs1, a_mkF, a_mkIO, a_owL, a_owD, a_tkT, a_tkF, a_apf, a_apb, a_apn, a_aps, e_addI, e_subI, e_mulI, e_divI, e_modI, e_negI, e_lt, e_le, e_gt, e_ge, e_is, e_isnot, a_lift, e_lenL, e_lenT, e_lenS, e_intI, e_intB, e_absI, e_truB, e_truI, e_truN, e_truL, e_truT, e_ixL, e_ixT, e_tupL, e_tupT, e_lstL, e_lstT, e_sum, cEq_int, cNe_int, fin, finIO, outTk, own0, isS0, entry, entryIO, atI_0, atI_1, atI_2, atI_3, Option.map_some, List.set_cons_zero, List.set_cons_succ, List.getElem?_cons_zero, List.getElem?_cons_succ, List.getElem?_nil, List.getD_cons_zero, List.getD_cons_succ, List.map_cons, List.map_nil, List.length_cons, List.length_nil, List.length_map, List.replicate, List.cons_append, List.nil_append, Nat.reduceAdd, Nat.reduceSub, Nat.reduceLeDiff, Nat.reduceLT, Nat.zero_le, Int.reduceLT, Int.reduceLE, Int.reduceEq, Int.reduceNeg, if_true, if_false, Bool.false_eq_true, Bool.true_eq_false, reduceIte, Bool.or_true, Bool.true_or, Bool.false_or, Bool.or_false, Bool.and_true, Bool.and_false, Bool.true_and, Bool.false_and, Bool.not_true, Bool.not_false, decide_true, decide_false, decide_eq_true_eq, and_self, not_true_eq_false, not_false_eq_true, ite_self, a_try_ok, a_raise0, a_raise, a_h0, a_h1, a_en0, a_en1, a_se_nx, a_se_rt, a_lv0, a_lv1, a_un0, a_un1, a_cx0, a_cx1, a_cx2, a_cx3, a_xf, a_pad, a_walk, a_rev, w_enum, w_zipL, w_zipT, e_max, e_min, e_and, e_sumA, e_sumAT, List.reverse_cons, List.reverse_nil, List.zip_cons_cons, List.zip_nil_left, List.zip_nil_right, subE_BadSizes_BadSizes, subE_BadSizes_BadDistance, subE_BadDistance_BadSizes, subE_BadDistance_BadDistance, hj, mm, e1]
theorem lw_lc {q : Int} (h : q = 2 ∨ q = 3) {m n d : Nat} (hm : m ≤ 12) (hn : n ≤ 12) (d0 : 1 ≤ d) (d1 : d ≤ 13) (a b : D) (s6 s7 s8 s9 s11 s12 : S) :
    mLcLoop (gN 10) [10] mYes (mCallF F__law_power (mCons (mVar 2) (mCons (mBin dMul (mVar 3) (mCall (fn2 dMax) (mCons (mC (.int 0)) (mCons (mBin dAdd (mBin dSub (mVar 10) (mVar 5)) (mC (.int 1))) mNil)))) mNil))) (rngD 0 (n + 1)) [] [.sh a, .ow b, .sh (.int q), .sh (.int m), .sh (.int n), .sh (.int d), s6, s7, s8, s9, .no, s11, s12] =
      .ok (sumL q (mA q m d) (n + 1)) [.sh a, .ow b, .sh (.int q), .sh (.int m), .sh (.int n), .sh (.int d), s6, s7, s8, s9, .no, s11, s12] := by
  have L := lc_fn (g := gN 10) (own := [10]) (test := mYes) (elt := (mCallF F__law_power (mCons (mVar 2) (mCons (mBin dMul (mVar 3) (mCall (fn2 dMax) (mCons (mC (.int 0)) (mCons (mBin dAdd (mBin dSub (mVar 10) (mVar 5)) (mC (.int 1))) mNil)))) mNil))))
    (fun _ => [.sh a, .ow b, .sh (.int q), .sh (.int m), .sh (.int n), .sh (.int d), s6, s7, s8, s9, .no, s11, s12]) (fun s => .int (sumTo (fun r => mA q m d r * gR q s r) (s + 1))) (rngD 0 (n + 1)) 0 [] (by rw [rng_len]; unfold lim; simp; omega) (fun i x hi => by
      obtain ⟨h1, rfl⟩ := rng_get hi
      rw [Int.zero_add, Nat.zero_add]
      have hb : m * (i + 1 - d) ≤ 12 * 13 := Nat.mul_le_mul hm (by omega)
      have e1 := law_power_eq (q100 h) (e := ((m * (i + 1 - d) : Nat) : Int)) (by omega) (by omega)
      rw [Int.toNat_natCast, Int.natCast_mul] at e1
      exact ⟨_, _, .val (.int (q ^ (m * (i + 1 - d)))), _, _, rfl, rfl, lw_elt F__law_power a b q m n d i _ s6 s7 s8 s9 s11 s12 ((i + 1 - d : Nat) : Int) (by split <;> omega) (mulOk_le (a := 20) (b := 20) (by omega) (by omega) (by omega)) e1, by rw [met_id h hm d0 d1 (by omega)]; rfl, rfl⟩)
  rw [rng_len, List.nil_append] at L
  simp only [Nat.zero_add] at L
  exact L
theorem lt_elt (FW : List D → Rf) (a b : D) (q m n d r : Int) (x : D) (s6 s7 s8 s9 s10 s12 : S) (e1 : FW [.int q, .int m, .int n, .int r] = .ok false x .non) :
    (mCallF FW (mCons (mVar 2) (mCons (mVar 3) (mCons (mVar 4) (mCons (mVar 11) mNil))))) [.sh a, .ow b, .sh (.int q), .sh (.int m), .sh (.int n), .sh (.int d), s6, s7, s8, s9, s10, .sh (.int r), s12] =
      .ok (.val x) [.sh a, .ow b, .sh (.int q), .sh (.int m), .sh (.int n), .sh (.int d), s6, s7, s8, s9, s10, .sh (.int r), s12] := by
  simp only [bindR_ok, bindR_ex, a_bind, a_of_some, a_var, a_c, a_bin, a_un, a_test, a_tru, a_cmp, a_and, a_or, a_not, a_if, a_andV, a_orV, a_notV, a_bl, a_nil, a_cons, a_tup, a_lst, a_call, a_callF, a_callIO, a_seq, a_next, a_ret, a_retN, a_drop, a_break, a_cont, a_ifS, a_asg, a_asgG, a_app, a_setI, a_iter, a_rng, a_for, a_slice, a_part0, a_part1, a_lc, a_yes, l_val, l_new, l_slot, f_val, f_new, f_slot, t_val, t_new, t_slot, s_val, s_new, s_slot, a_look2, a_look1, a_fa0, a_fa1, a_la0, a_la1, a_fn1, a_fn2, a_gN, a_gs0, a_gs1, a_gT, a_turn, a_fg0, a_fg1, a_wp0, a_wp1, a_rs0, a_rs1, a_mkF, a_mkIO, a_owL, a_owD, a_tkT, a_tkF, a_apf, a_apb, a_apn, a_aps, e_addI, e_subI, e_mulI, e_divI, e_modI, e_negI, e_lt, e_le, e_gt, e_ge, e_is, e_isnot, a_lift, e_lenL, e_lenT, e_lenS, e_intI, e_intB, e_absI, e_truB, e_truI, e_truN, e_truL, e_truT, e_ixL, e_ixT, e_tupL, e_tupT, e_lstL, e_lstT, e_sum, cEq_int, cNe_int, fin, finIO, outTk, own0, isS0, entry, entryIO, atI_0, atI_1, atI_2, atI_3, Option.map_some, List.set_cons_zero, List.set_cons_succ, List.getElem?_cons_zero, List.getElem?_cons_succ, List.getElem?_nil, List.getD_cons_zero, List.getD_cons_succ, List.map_cons, List.map_nil, List.length_cons, List.length_nil, List.length_map, List.replicate, List.cons_append, List.nil_append, Nat.reduceAdd, Nat.reduceSub, Nat.reduceLeDiff, Nat.reduceLT, Nat.zero_le, Int.reduceLT, Int.reduceLE, Int.reduceEq, Int.reduceNeg, if_true, if_false, Bool.false_eq_true, Bool.true_eq_false, reduceIte, Bool.or_true, Bool.true_or, Bool.false_or, Bool.or_false, Bool.and_true, Bool.and_false, Bool.true_and, Bool.false_and, Bool.not_true, Bool.not_false, decide_true, decide_false, decide_eq_true_eq, and_self, not_true_eq_false, not_false_eq_true, ite_self, a_try_ok, a_raise0, a_raise, a_h0, a_h1, a_en0, a_en1, a_se_nx, a_se_rt, a_lv0, a_lv1, a_un0, a_un1, a_cx0, a_cx1, a_cx2, a_cx3, a_xf, a_pad, a_walk, a_rev, w_enum, w_zipL, w_zipT, e_max, e_min, e_and, e_sumA, e_sumAT, List.reverse_cons, List.reverse_nil, List.zip_cons_cons, List.zip_nil_left, List.zip_nil_right, subE_BadSizes_BadSizes, subE_BadSizes_BadDistance, subE_BadDistance_BadSizes, subE_BadDistance_BadDistance, e1]
theorem lt_lc {q : Int} (h : q = 2 ∨ q = 3) {m n : Nat} (m0 : 1 ≤ m) (hm : m ≤ 12) (n0 : 1 ≤ n) (hn : n ≤ 12) (d : Int) (a b : D) (s6 s7 s8 s9 s10 s12 : S) :
    mLcLoop (gN 11) [11] mYes (mCallF F__law_words_told (mCons (mVar 2) (mCons (mVar 3) (mCons (mVar 4) (mCons (mVar 11) mNil))))) (rngD 0 (n + 1)) [] [.sh a, .ow b, .sh (.int q), .sh (.int m), .sh (.int n), .sh (.int d), s6, s7, s8, s9, s10, .no, s12] =
      .ok (wlL q m n (n + 1)) [.sh a, .ow b, .sh (.int q), .sh (.int m), .sh (.int n), .sh (.int d), s6, s7, s8, s9, s10, .no, s12] := by
  have L := lc_fn (g := gN 11) (own := [11]) (test := mYes) (elt := (mCallF F__law_words_told (mCons (mVar 2) (mCons (mVar 3) (mCons (mVar 4) (mCons (mVar 11) mNil))))))
    (fun _ => [.sh a, .ow b, .sh (.int q), .sh (.int m), .sh (.int n), .sh (.int d), s6, s7, s8, s9, s10, .no, s12]) (fun r => .tup [.str "told", .int (gR q n r * gP q m r)]) (rngD 0 (n + 1)) 0 [] (by rw [rng_len]; unfold lim; simp; omega) (fun i x hi => by
      obtain ⟨h1, rfl⟩ := rng_get hi
      rw [Int.zero_add, Nat.zero_add]
      have t1 := told_good h (m := m) (n := n) (r := i) (by omega) (by omega) (by omega) (by omega) (by omega) (by omega)
      rw [tableV_nat (by omega)] at t1
      exact ⟨_, _, .val (.tup [.str "told", .int (gR q n i * gP q m i)]), _, _, rfl, rfl, lt_elt F__law_words_told a b q m n d i _ s6 s7 s8 s9 s10 s12 t1, rfl, rfl⟩)
  rw [rng_len, List.nil_append] at L
  simp only [Nat.zero_add] at L
  exact L
theorem lm_lc {q : Int} {m n : Nat} (hn : n ≤ 12) (a b : D) (s2 s3 s4 s5 s6 s7 s8 s9 s10 s11 : S) :
    mLcLoop (gN 12) [12] mYes (mTup (mCons (mC (.str "told")) (mCons (mVar 12) mNil))) (cntB q (gP q m) n (n + 1)) [] [.sh a, .ow b, s2, s3, s4, s5, s6, s7, s8, s9, s10, s11, .no] =
      .ok (wlL q m n (n + 1)) [.sh a, .ow b, s2, s3, s4, s5, s6, s7, s8, s9, s10, s11, .no] := by
  have L := lc_fn (g := gN 12) (own := [12]) (test := mYes) (elt := (mTup (mCons (mC (.str "told")) (mCons (mVar 12) mNil))))
    (fun _ => [.sh a, .ow b, s2, s3, s4, s5, s6, s7, s8, s9, s10, s11, .no]) (fun r => .tup [.str "told", .int (gR q n r * gP q m r)]) (cntB q (gP q m) n (n + 1)) 0 [] (by rw [cntB_len]; unfold lim; simp; omega) (fun i x hi => by
      rw [Nat.zero_add]
      unfold cntB at hi
      rw [List.getElem?_map] at hi
      cases z : (List.range (n + 1))[i]? with
      | none => rw [z] at hi; cases hi
      | some j =>
        rw [z] at hi
        cases hi
        obtain ⟨hl, hj⟩ := List.getElem?_eq_some_iff.mp z
        rw [List.getElem_range] at hj
        subst hj
        exact ⟨_, _, .val (.tup [.str "told", .int (gR q n i * gP q m i)]), _, _, rfl, rfl, by simp only [bindR_ok, bindR_ex, a_bind, a_of_some, a_var, a_c, a_bin, a_un, a_test, a_tru, a_cmp, a_and, a_or, a_not, a_if, a_andV, a_orV, a_notV, a_bl, a_nil, a_cons, a_tup, a_lst, a_call, a_callF, a_callIO, a_seq, a_next, a_ret, a_retN, a_drop, a_break, a_cont, a_ifS, a_asg, a_asgG, a_app, a_setI, a_iter, a_rng, a_for, a_slice, a_part0, a_part1, a_lc, a_yes, l_val, l_new, l_slot, f_val, f_new, f_slot, t_val, t_new, t_slot, s_val, s_new, s_slot, a_look2, a_look1, a_fa0, a_fa1, a_la0, a_la1, a_fn1, a_fn2, a_gN, a_gs0, a_gs1, a_gT, a_turn, a_fg0, a_fg1, a_wp0, a_wp1, a_rs0, a_rs1, a_mkF, a_mkIO, a_owL, a_owD, a_tkT, a_tkF, a_apf, a_apb, a_apn, a_aps, e_addI, e_subI, e_mulI, e_divI, e_modI, e_negI, e_lt, e_le, e_gt, e_ge, e_is, e_isnot, a_lift, e_lenL, e_lenT, e_lenS, e_intI, e_intB, e_absI, e_truB, e_truI, e_truN, e_truL, e_truT, e_ixL, e_ixT, e_tupL, e_tupT, e_lstL, e_lstT, e_sum, cEq_int, cNe_int, fin, finIO, outTk, own0, isS0, entry, entryIO, atI_0, atI_1, atI_2, atI_3, Option.map_some, List.set_cons_zero, List.set_cons_succ, List.getElem?_cons_zero, List.getElem?_cons_succ, List.getElem?_nil, List.getD_cons_zero, List.getD_cons_succ, List.map_cons, List.map_nil, List.length_cons, List.length_nil, List.length_map, List.replicate, List.cons_append, List.nil_append, Nat.reduceAdd, Nat.reduceSub, Nat.reduceLeDiff, Nat.reduceLT, Nat.zero_le, Int.reduceLT, Int.reduceLE, Int.reduceEq, Int.reduceNeg, if_true, if_false, Bool.false_eq_true, Bool.true_eq_false, reduceIte, Bool.or_true, Bool.true_or, Bool.false_or, Bool.or_false, Bool.and_true, Bool.and_false, Bool.true_and, Bool.false_and, Bool.not_true, Bool.not_false, decide_true, decide_false, decide_eq_true_eq, and_self, not_true_eq_false, not_false_eq_true, ite_self, a_try_ok, a_raise0, a_raise, a_h0, a_h1, a_en0, a_en1, a_se_nx, a_se_rt, a_lv0, a_lv1, a_un0, a_un1, a_cx0, a_cx1, a_cx2, a_cx3, a_xf, a_pad, a_walk, a_rev, w_enum, w_zipL, w_zipT, e_max, e_min, e_and, e_sumA, e_sumAT, List.reverse_cons, List.reverse_nil, List.zip_cons_cons, List.zip_nil_left, List.zip_nil_right, subE_BadSizes_BadSizes, subE_BadSizes_BadDistance, subE_BadDistance_BadSizes, subE_BadDistance_BadDistance]; rfl, rfl, rfl⟩)
  rw [cntB_len, List.nil_append] at L
  simp only [Nat.zero_add] at L
  exact L
section
variable {a h r6 f7 f8 Gd : D} {q m n d : Int} {Gs : List D}
theorem st12 (FT : List D → Rf) (hT : FT [.int q, .int m, .int n, .int n, r6] = .ok true (.lst Gs) .non) (ap : apart true (.lst Gs) = true) :
    mAsg 9 (mCallF FT (mCons (mVar 2) (mCons (mVar 3) (mCons (mVar 4) (mCons (mVar 4) (mCons (mVar 6) mNil)))))) [.sh a, .ow h, .sh (.int q), .sh (.int m), .sh (.int n), .sh (.int d), .ow r6, .sh f7, .sh f8, .no, .no, .no, .no] = .ok .nx [.sh a, .ow h, .sh (.int q), .sh (.int m), .sh (.int n), .sh (.int d), .ow r6, .sh f7, .sh f8, .ow (.lst Gs), .no, .no, .no] := by
  simp only [bindR_ok, bindR_ex, a_bind, a_of_some, a_var, a_c, a_bin, a_un, a_test, a_tru, a_cmp, a_and, a_or, a_not, a_if, a_andV, a_orV, a_notV, a_bl, a_nil, a_cons, a_tup, a_lst, a_call, a_callF, a_callIO, a_seq, a_next, a_ret, a_retN, a_drop, a_break, a_cont, a_ifS, a_asg, a_asgG, a_app, a_setI, a_iter, a_rng, a_for, a_slice, a_part0, a_part1, a_lc, a_yes, l_val, l_new, l_slot, f_val, f_new, f_slot, t_val, t_new, t_slot, s_val, s_new, s_slot, a_look2, a_look1, a_fa0, a_fa1, a_la0, a_la1, a_fn1, a_fn2, a_gN, a_gs0, a_gs1, a_gT, a_turn, a_fg0, a_fg1, a_wp0, a_wp1, a_rs0, a_rs1, a_mkF, a_mkIO, a_owL, a_owD, a_tkT, a_tkF, a_apf, a_apb, a_apn, a_aps, e_addI, e_subI, e_mulI, e_divI, e_modI, e_negI, e_lt, e_le, e_gt, e_ge, e_is, e_isnot, a_lift, e_lenL, e_lenT, e_lenS, e_intI, e_intB, e_absI, e_truB, e_truI, e_truN, e_truL, e_truT, e_ixL, e_ixT, e_tupL, e_tupT, e_lstL, e_lstT, e_sum, cEq_int, cNe_int, fin, finIO, outTk, own0, isS0, entry, entryIO, atI_0, atI_1, atI_2, atI_3, Option.map_some, List.set_cons_zero, List.set_cons_succ, List.getElem?_cons_zero, List.getElem?_cons_succ, List.getElem?_nil, List.getD_cons_zero, List.getD_cons_succ, List.map_cons, List.map_nil, List.length_cons, List.length_nil, List.length_map, List.replicate, List.cons_append, List.nil_append, Nat.reduceAdd, Nat.reduceSub, Nat.reduceLeDiff, Nat.reduceLT, Nat.zero_le, Int.reduceLT, Int.reduceLE, Int.reduceEq, Int.reduceNeg, if_true, if_false, Bool.false_eq_true, Bool.true_eq_false, reduceIte, Bool.or_true, Bool.true_or, Bool.false_or, Bool.or_false, Bool.and_true, Bool.and_false, Bool.true_and, Bool.false_and, Bool.not_true, Bool.not_false, decide_true, decide_false, decide_eq_true_eq, and_self, not_true_eq_false, not_false_eq_true, ite_self, a_try_ok, a_raise0, a_raise, a_h0, a_h1, a_en0, a_en1, a_se_nx, a_se_rt, a_lv0, a_lv1, a_un0, a_un1, a_cx0, a_cx1, a_cx2, a_cx3, a_xf, a_pad, a_walk, a_rev, w_enum, w_zipL, w_zipT, e_max, e_min, e_and, e_sumA, e_sumAT, List.reverse_cons, List.reverse_nil, List.zip_cons_cons, List.zip_nil_left, List.zip_nil_right, subE_BadSizes_BadSizes, subE_BadSizes_BadDistance, subE_BadDistance_BadSizes, subE_BadDistance_BadDistance, hT, ap]
theorem st13 (FM : List D → Rf) (hM : FM [.int q, .int m, .int n, .int 1] = .ok false (.tup [.str "told", .tup Gs]) .non) (ptT : cNe (.tup [.str "told", .tup Gs]) (.tup [.str "told", .tup Gs]) = some false) :
    mIfS (mCmp cNe (mCallF FM (mCons (mVar 2) (mCons (mVar 3) (mCons (mVar 4) (mCons (mC (.int 1)) mNil))))) (mTup (mCons (mC (.str "told")) (mCons (mCall (fn1 dTuple) (mCons (mVar 9) mNil)) mNil)))) (mRet (mC (.bl false))) mNext [.sh a, .ow h, .sh (.int q), .sh (.int m), .sh (.int n), .sh (.int d), .ow r6, .sh f7, .sh f8, .ow (.lst Gs), .no, .no, .no] = .ok .nx [.sh a, .ow h, .sh (.int q), .sh (.int m), .sh (.int n), .sh (.int d), .ow r6, .sh f7, .sh f8, .ow (.lst Gs), .no, .no, .no] := by
  simp only [bindR_ok, bindR_ex, a_bind, a_of_some, a_var, a_c, a_bin, a_un, a_test, a_tru, a_cmp, a_and, a_or, a_not, a_if, a_andV, a_orV, a_notV, a_bl, a_nil, a_cons, a_tup, a_lst, a_call, a_callF, a_callIO, a_seq, a_next, a_ret, a_retN, a_drop, a_break, a_cont, a_ifS, a_asg, a_asgG, a_app, a_setI, a_iter, a_rng, a_for, a_slice, a_part0, a_part1, a_lc, a_yes, l_val, l_new, l_slot, f_val, f_new, f_slot, t_val, t_new, t_slot, s_val, s_new, s_slot, a_look2, a_look1, a_fa0, a_fa1, a_la0, a_la1, a_fn1, a_fn2, a_gN, a_gs0, a_gs1, a_gT, a_turn, a_fg0, a_fg1, a_wp0, a_wp1, a_rs0, a_rs1, a_mkF, a_mkIO, a_owL, a_owD, a_tkT, a_tkF, a_apf, a_apb, a_apn, a_aps, e_addI, e_subI, e_mulI, e_divI, e_modI, e_negI, e_lt, e_le, e_gt, e_ge, e_is, e_isnot, a_lift, e_lenL, e_lenT, e_lenS, e_intI, e_intB, e_absI, e_truB, e_truI, e_truN, e_truL, e_truT, e_ixL, e_ixT, e_tupL, e_tupT, e_lstL, e_lstT, e_sum, cEq_int, cNe_int, fin, finIO, outTk, own0, isS0, entry, entryIO, atI_0, atI_1, atI_2, atI_3, Option.map_some, List.set_cons_zero, List.set_cons_succ, List.getElem?_cons_zero, List.getElem?_cons_succ, List.getElem?_nil, List.getD_cons_zero, List.getD_cons_succ, List.map_cons, List.map_nil, List.length_cons, List.length_nil, List.length_map, List.replicate, List.cons_append, List.nil_append, Nat.reduceAdd, Nat.reduceSub, Nat.reduceLeDiff, Nat.reduceLT, Nat.zero_le, Int.reduceLT, Int.reduceLE, Int.reduceEq, Int.reduceNeg, if_true, if_false, Bool.false_eq_true, Bool.true_eq_false, reduceIte, Bool.or_true, Bool.true_or, Bool.false_or, Bool.or_false, Bool.and_true, Bool.and_false, Bool.true_and, Bool.false_and, Bool.not_true, Bool.not_false, decide_true, decide_false, decide_eq_true_eq, and_self, not_true_eq_false, not_false_eq_true, ite_self, a_try_ok, a_raise0, a_raise, a_h0, a_h1, a_en0, a_en1, a_se_nx, a_se_rt, a_lv0, a_lv1, a_un0, a_un1, a_cx0, a_cx1, a_cx2, a_cx3, a_xf, a_pad, a_walk, a_rev, w_enum, w_zipL, w_zipT, e_max, e_min, e_and, e_sumA, e_sumAT, List.reverse_cons, List.reverse_nil, List.zip_cons_cons, List.zip_nil_left, List.zip_nil_right, subE_BadSizes_BadSizes, subE_BadSizes_BadDistance, subE_BadDistance_BadSizes, subE_BadDistance_BadDistance, hM, ptT]
theorem st14 (el1 el2 : M Tk) (k : Nat) (wl : List D) (o1 : okR (n + 1) = true) (n1 : (n + 1).toNat = k)
    (L1 : ∀ s9, mLcLoop (gN 11) [11] mYes el1 (rngD 0 k) [] [.sh a, .ow h, .sh (.int q), .sh (.int m), .sh (.int n), .sh (.int d), .ow r6, .sh f7, .sh f8, s9, .no, .no, .no] = .ok wl [.sh a, .ow h, .sh (.int q), .sh (.int m), .sh (.int n), .sh (.int d), .ow r6, .sh f7, .sh f8, s9, .no, .no, .no])
    (L2 : ∀ s9, mLcLoop (gN 12) [12] mYes el2 Gs [] [.sh a, .ow h, .sh (.int q), .sh (.int m), .sh (.int n), .sh (.int d), .ow r6, .sh f7, .sh f8, s9, .no, .no, .no] = .ok wl [.sh a, .ow h, .sh (.int q), .sh (.int m), .sh (.int n), .sh (.int d), .ow r6, .sh f7, .sh f8, s9, .no, .no, .no])
    (wlT : cNe (.lst wl) (.lst wl) = some false) :
    mIfS (mCmp cNe (mLc (mRng (mCons (mBin dAdd (mVar 4) (mC (.int 1))) mNil)) (gN 11) [11] mYes el1) (mLc (mIter (mVar 9)) (gN 12) [12] mYes el2)) (mRet (mC (.bl false))) mNext [.sh a, .ow h, .sh (.int q), .sh (.int m), .sh (.int n), .sh (.int d), .ow r6, .sh f7, .sh f8, .ow (.lst Gs), .no, .no, .no] = .ok .nx [.sh a, .ow h, .sh (.int q), .sh (.int m), .sh (.int n), .sh (.int d), .ow r6, .sh f7, .sh f8, .sh (.lst Gs), .no, .no, .no] := by
  have now11 : ∀ (s0 s1 s2 s3 s4 s5 s6 s7 s8 s9 s10 s12 : S), noOw [11] [s0, s1, s2, s3, s4, s5, s6, s7, s8, s9, s10, .no, s12] = true := fun _ _ _ _ _ _ _ _ _ _ _ _ => rfl
  have now12 : ∀ (s0 s1 s2 s3 s4 s5 s6 s7 s8 s9 s10 s11 : S), noOw [12] [s0, s1, s2, s3, s4, s5, s6, s7, s8, s9, s10, s11, .no] = true := fun _ _ _ _ _ _ _ _ _ _ _ _ => rfl
  simp only [bindR_ok, bindR_ex, a_bind, a_of_some, a_var, a_c, a_bin, a_un, a_test, a_tru, a_cmp, a_and, a_or, a_not, a_if, a_andV, a_orV, a_notV, a_bl, a_nil, a_cons, a_tup, a_lst, a_call, a_callF, a_callIO, a_seq, a_next, a_ret, a_retN, a_drop, a_break, a_cont, a_ifS, a_asg, a_asgG, a_app, a_setI, a_iter, a_rng, a_for, a_slice, a_part0, a_part1, a_lc, a_yes, l_val, l_new, l_slot, f_val, f_new, f_slot, t_val, t_new, t_slot, s_val, s_new, s_slot, a_look2, a_look1, a_fa0, a_fa1, a_la0, a_la1, a_fn1, a_fn2, a_gN, a_gs0, a_gs1, a_gT, a_turn, a_fg0, a_fg1, a_wp0, a_wp1, a_rs0, a_rs1, a_mkF, a_mkIO, a_owL, a_owD, a_tkT, a_tkF, a_apf, a_apb, a_apn, a_aps, e_addI, e_subI, e_mulI, e_divI, e_modI, e_negI, e_lt, e_le, e_gt, e_ge, e_is, e_isnot, a_lift, e_lenL, e_lenT, e_lenS, e_intI, e_intB, e_absI, e_truB, e_truI, e_truN, e_truL, e_truT, e_ixL, e_ixT, e_tupL, e_tupT, e_lstL, e_lstT, e_sum, cEq_int, cNe_int, fin, finIO, outTk, own0, isS0, entry, entryIO, atI_0, atI_1, atI_2, atI_3, Option.map_some, List.set_cons_zero, List.set_cons_succ, List.getElem?_cons_zero, List.getElem?_cons_succ, List.getElem?_nil, List.getD_cons_zero, List.getD_cons_succ, List.map_cons, List.map_nil, List.length_cons, List.length_nil, List.length_map, List.replicate, List.cons_append, List.nil_append, Nat.reduceAdd, Nat.reduceSub, Nat.reduceLeDiff, Nat.reduceLT, Nat.zero_le, Int.reduceLT, Int.reduceLE, Int.reduceEq, Int.reduceNeg, if_true, if_false, Bool.false_eq_true, Bool.true_eq_false, reduceIte, Bool.or_true, Bool.true_or, Bool.false_or, Bool.or_false, Bool.and_true, Bool.and_false, Bool.true_and, Bool.false_and, Bool.not_true, Bool.not_false, decide_true, decide_false, decide_eq_true_eq, and_self, not_true_eq_false, not_false_eq_true, ite_self, a_try_ok, a_raise0, a_raise, a_h0, a_h1, a_en0, a_en1, a_se_nx, a_se_rt, a_lv0, a_lv1, a_un0, a_un1, a_cx0, a_cx1, a_cx2, a_cx3, a_xf, a_pad, a_walk, a_rev, w_enum, w_zipL, w_zipT, e_max, e_min, e_and, e_sumA, e_sumAT, List.reverse_cons, List.reverse_nil, List.zip_cons_cons, List.zip_nil_left, List.zip_nil_right, subE_BadSizes_BadSizes, subE_BadSizes_BadDistance, subE_BadDistance_BadSizes, subE_BadDistance_BadDistance, o1, n1, now11, now12, L1, L2, wlT]
theorem st15 (FD FW : List D → Rf) {h' s9 : D} {t0 T : Int} (e5 : FD [h, .int 12] = .ok false (.int t0) h') (hT : 1 + t0 = T) (WH : FW [.int q, .int m, .int T, r6] = .ok false (.bl true) .non) :
    mIfS (mNot (mTest (mCallF FW (mCons (mVar 2) (mCons (mVar 3) (mCons (mBin dAdd (mC (.int 1)) (mCallIO FD 1 (mCons (mC (.int 12)) mNil))) (mCons (mVar 6) mNil))))))) (mRet (mC (.bl false))) mNext [.sh a, .ow h, .sh (.int q), .sh (.int m), .sh (.int n), .sh (.int d), .ow r6, .sh f7, .sh f8, .sh s9, .no, .no, .no] = .ok .nx [.sh a, .ow h', .sh (.int q), .sh (.int m), .sh (.int n), .sh (.int d), .ow r6, .sh f7, .sh f8, .sh s9, .no, .no, .no] := by
  simp only [bindR_ok, bindR_ex, a_bind, a_of_some, a_var, a_c, a_bin, a_un, a_test, a_tru, a_cmp, a_and, a_or, a_not, a_if, a_andV, a_orV, a_notV, a_bl, a_nil, a_cons, a_tup, a_lst, a_call, a_callF, a_callIO, a_seq, a_next, a_ret, a_retN, a_drop, a_break, a_cont, a_ifS, a_asg, a_asgG, a_app, a_setI, a_iter, a_rng, a_for, a_slice, a_part0, a_part1, a_lc, a_yes, l_val, l_new, l_slot, f_val, f_new, f_slot, t_val, t_new, t_slot, s_val, s_new, s_slot, a_look2, a_look1, a_fa0, a_fa1, a_la0, a_la1, a_fn1, a_fn2, a_gN, a_gs0, a_gs1, a_gT, a_turn, a_fg0, a_fg1, a_wp0, a_wp1, a_rs0, a_rs1, a_mkF, a_mkIO, a_owL, a_owD, a_tkT, a_tkF, a_apf, a_apb, a_apn, a_aps, e_addI, e_subI, e_mulI, e_divI, e_modI, e_negI, e_lt, e_le, e_gt, e_ge, e_is, e_isnot, a_lift, e_lenL, e_lenT, e_lenS, e_intI, e_intB, e_absI, e_truB, e_truI, e_truN, e_truL, e_truT, e_ixL, e_ixT, e_tupL, e_tupT, e_lstL, e_lstT, e_sum, cEq_int, cNe_int, fin, finIO, outTk, own0, isS0, entry, entryIO, atI_0, atI_1, atI_2, atI_3, Option.map_some, List.set_cons_zero, List.set_cons_succ, List.getElem?_cons_zero, List.getElem?_cons_succ, List.getElem?_nil, List.getD_cons_zero, List.getD_cons_succ, List.map_cons, List.map_nil, List.length_cons, List.length_nil, List.length_map, List.replicate, List.cons_append, List.nil_append, Nat.reduceAdd, Nat.reduceSub, Nat.reduceLeDiff, Nat.reduceLT, Nat.zero_le, Int.reduceLT, Int.reduceLE, Int.reduceEq, Int.reduceNeg, if_true, if_false, Bool.false_eq_true, Bool.true_eq_false, reduceIte, Bool.or_true, Bool.true_or, Bool.false_or, Bool.or_false, Bool.and_true, Bool.and_false, Bool.true_and, Bool.false_and, Bool.not_true, Bool.not_false, decide_true, decide_false, decide_eq_true_eq, and_self, not_true_eq_false, not_false_eq_true, ite_self, a_try_ok, a_raise0, a_raise, a_h0, a_h1, a_en0, a_en1, a_se_nx, a_se_rt, a_lv0, a_lv1, a_un0, a_un1, a_cx0, a_cx1, a_cx2, a_cx3, a_xf, a_pad, a_walk, a_rev, w_enum, w_zipL, w_zipT, e_max, e_min, e_and, e_sumA, e_sumAT, List.reverse_cons, List.reverse_nil, List.zip_cons_cons, List.zip_nil_left, List.zip_nil_right, subE_BadSizes_BadSizes, subE_BadSizes_BadDistance, subE_BadDistance_BadSizes, subE_BadDistance_BadDistance, e5, hT, WH]
end
theorem law_true (ns : List Int) (hns : ns.length ≤ 63) : ∃ p, F_law [.scr ns] = .ok false (.bl true) p := by
  obtain ⟨h0, e0, g0⟩ := hand_good ns hns
  obtain ⟨q0, h1, e1, g1, q1, q2⟩ := take_good (many := 2) g0 (by omega) (by decide)
  have hq : 2 + q0 = 2 ∨ 2 + q0 = 3 := by omega
  generalize hQ : 2 + q0 = q at hq
  obtain ⟨m0, h2, e2, g2, m1, m2⟩ := take_good (many := 12) g1 (by omega) (by decide)
  obtain ⟨M, hM⟩ : ∃ M : Nat, 1 + m0 = (M : Int) := ⟨(1 + m0).toNat, by omega⟩
  obtain ⟨n0, h3, e3, g3, n1, n2⟩ := take_good (many := (M : Int)) g2 (by omega) (divOk_of (b := 20) (by omega) (by omega) (by omega))
  obtain ⟨N, hN⟩ : ∃ N : Nat, 1 + n0 = (N : Int) := ⟨(1 + n0).toNat, by omega⟩
  obtain ⟨d0, h4, e4, g4, d1, d2⟩ := take_good (many := (N : Int) + 1) g3 (by omega) (divOk_of (b := 20) (by omega) (by omega) (by omega))
  obtain ⟨d, hd⟩ : ∃ d : Nat, 1 + d0 = (d : Int) := ⟨(1 + d0).toNat, by omega⟩
  obtain ⟨t0, h5, e5, g5, t1, t2⟩ := take_good (many := 12) g4 (by omega) (by decide)
  obtain ⟨T, hT⟩ : ∃ T : Nat, 1 + t0 = (T : Int) := ⟨(1 + t0).toNat, by omega⟩
  obtain ⟨h6, e6⟩ := refuse_good g5
  have G := gauss_eq hq
  have mt := mtold_good (met_eq hq (m := M) (n := N) (d := d) (by omega) (by omega) (by omega) (by omega) (by omega))
  rw [show cntL q M N d (N + 1) = cntB q (mA q M d) N (N + 1) from rfl] at mt
  have mt1 := mtold_good (met_eq hq (m := M) (n := N) (d := 1) (by omega) (by omega) (by omega) (by omega) (by omega))
  rw [show cntL q M N 1 (N + 1) = cntB q (mA q M 1) N (N + 1) from rfl, cnt_eq hq (by omega) (by omega)] at mt1
  rw [show ((1 : Nat) : Int) = 1 from rfl] at mt1
  have LC := fun s6 s7 s8 s9 s11 s12 => lw_lc hq (m := M) (n := N) (d := d) (by omega) (by omega) (by omega) (by omega) (.scr ns) h4 s6 s7 s8 s9 s11 s12
  have SH := shares_eq hq (B := mA q M d) (k := 3884) (fun r hr => by
    unfold mA
    split
    · exact abs_mono (show (1 : Int).natAbs ≤ 2 ^ 0 by decide) (by omega)
    · exact mTot_abs hq (by omega) hr (by omega) _ (by omega)) (by omega) (show N ≤ 12 by omega)
  have c0 : atI (cntB q (mA q M d) N (N + 1)) 0 = some (.int 1) := by
    have := cntB_at (q := q) (B := mA q M d) (n := N) (k := N + 1) (r := 0) (by omega)
    rw [gR_zero, Int.one_mul] at this
    exact this
  have sl : dSl (.tup (cntB q (mA q M d) N (N + 1))) (some 1) (some (d : Int)) = some (.val (.tup (List.replicate (d - 1) (.int 0)))) := by
    rw [← cut_zero (q := q) (m := M) (n := N) (by omega) (show d ≤ N + 1 by omega)]
    rfl
  have rp := dmul_rep (k := d - 1) (by omega)
  have re := cNe_self (pl_rep (k := d - 1))
  have lr : (List.replicate (d - 1) (D.int 0)).length = d - 1 := List.length_replicate
  have sm := e_sumAT (ns := (List.range (N + 1)).map fun r => gR q N r * mA q M d r)
  rw [← cntB_ints, sumTo_range] at sm
  have id1 := met_id hq (m := M) (d := d) (s := N) (by omega) (by omega) (by omega) (by omega)
  rw [show sumTo (fun r => gR q N r * mA q M d r) (N + 1) = q ^ (M * (N + 1 - d)) by rw [← id1]; exact sumTo_ext _ fun r _ => Int.mul_comm _ _] at sm
  have hb : M * (N + 1 - d) ≤ 12 * 12 := Nat.mul_le_mul (by omega) (by omega)
  have pw := law_power_eq (q100 hq) (e := ((M * (N + 1 - d) : Nat) : Int)) (by omega) (by omega)
  rw [Int.toNat_natCast, Int.natCast_mul, show ((N + 1 - d : Nat) : Int) = (N : Int) - d + 1 by omega] at pw
  have mm : mulOk (M : Int) ((N : Int) - d + 1) = true := mulOk_le (a := 20) (b := 20) (by omega) (by omega) (by omega)
  have TB := ltables_eq hq (m := M) (n := N) (by omega) (by omega)
  have ptT := cNe_self (pl_toldT (q := q) (B := gP q M) (n := N) (k := N + 1))
  have wlT := cNe_self (pl_wl (q := q) (m := M) (n := N) (k := N + 1))
  have LT := fun s6 s7 s8 s9 s10 s12 => lt_lc hq (m := M) (n := N) (by omega) (by omega) (by omega) (by omega) d (.scr ns) h4 s6 s7 s8 s9 s10 s12
  have LM := fun s2 s3 s4 s5 s6 s7 s8 s9 s10 s11 => lm_lc (q := q) (m := M) (n := N) (by omega) (.scr ns) h4 s2 s3 s4 s5 s6 s7 s8 s9 s10 s11
  have WH := words_eq hq (m := M) (n := T) (by omega) (by omega) (by omega) (by omega)
  have okN : okR ((N : Int) + 1) = true := okR_of (by omega)
  have nN : ((N : Int) + 1).toNat = N + 1 := by omega
  have now10 : ∀ (s0 s1 s2 s3 s4 s5 s6 s7 s8 s9 s11 s12 : S), noOw [10] [s0, s1, s2, s3, s4, s5, s6, s7, s8, s9, .no, s11, s12] = true := fun _ _ _ _ _ _ _ _ _ _ _ _ => rfl
  have now11 : ∀ (s0 s1 s2 s3 s4 s5 s6 s7 s8 s9 s10 s12 : S), noOw [11] [s0, s1, s2, s3, s4, s5, s6, s7, s8, s9, s10, .no, s12] = true := fun _ _ _ _ _ _ _ _ _ _ _ _ => rfl
  have now12 : ∀ (s0 s1 s2 s3 s4 s5 s6 s7 s8 s9 s10 s11 : S), noOw [12] [s0, s1, s2, s3, s4, s5, s6, s7, s8, s9, s10, s11, .no] = true := fun _ _ _ _ _ _ _ _ _ _ _ _ => rfl
  generalize hC : cntB q (mA q M d) N (N + 1) = C at mt SH c0 sl sm
  generalize hG : cntB q (gP q M) N (N + 1) = Gs at mt1 TB ptT LM
  have apG : apart true (.lst Gs) = true := by rw [← hG]; exact apart_cnt
  have dr : ((d - 1 : Nat) : Int) = ((d - 1 : Nat) : Int) := rfl
  refine ⟨.non, ?_⟩
  unfold F_law
  rw [a_mkF]
  have key : B_law (entry 13 [.scr ns]) = .ok (.rt (.val (.bl true))) [.sh (.scr ns), .ow h6, .sh (.int q), .sh (.int M), .sh (.int N), .sh (.int d), .ow (.lst (rowsL q 13)), .sh (.tup [.str "told", .tup C]), .sh (.tup C), .sh (.lst Gs), .no, .no, .no] := by
    unfold B_law
    refine (seq_ok (e := [.sh (.scr ns), .ow h0, .no, .no, .no, .no, .no, .no, .no, .no, .no, .no, .no]) (by simp only [bindR_ok, bindR_ex, a_bind, a_of_some, a_var, a_c, a_bin, a_un, a_test, a_tru, a_cmp, a_and, a_or, a_not, a_if, a_andV, a_orV, a_notV, a_bl, a_nil, a_cons, a_tup, a_lst, a_call, a_callF, a_callIO, a_seq, a_next, a_ret, a_retN, a_drop, a_break, a_cont, a_ifS, a_asg, a_asgG, a_app, a_setI, a_iter, a_rng, a_for, a_slice, a_part0, a_part1, a_lc, a_yes, l_val, l_new, l_slot, f_val, f_new, f_slot, t_val, t_new, t_slot, s_val, s_new, s_slot, a_look2, a_look1, a_fa0, a_fa1, a_la0, a_la1, a_fn1, a_fn2, a_gN, a_gs0, a_gs1, a_gT, a_turn, a_fg0, a_fg1, a_wp0, a_wp1, a_rs0, a_rs1, a_mkF, a_mkIO, a_owL, a_owD, a_tkT, a_tkF, a_apf, a_apb, a_apn, a_aps, e_addI, e_subI, e_mulI, e_divI, e_modI, e_negI, e_lt, e_le, e_gt, e_ge, e_is, e_isnot, a_lift, e_lenL, e_lenT, e_lenS, e_intI, e_intB, e_absI, e_truB, e_truI, e_truN, e_truL, e_truT, e_ixL, e_ixT, e_tupL, e_tupT, e_lstL, e_lstT, e_sum, cEq_int, cNe_int, fin, finIO, outTk, own0, isS0, entry, entryIO, atI_0, atI_1, atI_2, atI_3, Option.map_some, List.set_cons_zero, List.set_cons_succ, List.getElem?_cons_zero, List.getElem?_cons_succ, List.getElem?_nil, List.getD_cons_zero, List.getD_cons_succ, List.map_cons, List.map_nil, List.length_cons, List.length_nil, List.length_map, List.replicate, List.cons_append, List.nil_append, Nat.reduceAdd, Nat.reduceSub, Nat.reduceLeDiff, Nat.reduceLT, Nat.zero_le, Int.reduceLT, Int.reduceLE, Int.reduceEq, Int.reduceNeg, if_true, if_false, Bool.false_eq_true, Bool.true_eq_false, reduceIte, Bool.or_true, Bool.true_or, Bool.false_or, Bool.or_false, Bool.and_true, Bool.and_false, Bool.true_and, Bool.false_and, Bool.not_true, Bool.not_false, decide_true, decide_false, decide_eq_true_eq, and_self, not_true_eq_false, not_false_eq_true, ite_self, a_try_ok, a_raise0, a_raise, a_h0, a_h1, a_en0, a_en1, a_se_nx, a_se_rt, a_lv0, a_lv1, a_un0, a_un1, a_cx0, a_cx1, a_cx2, a_cx3, a_xf, a_pad, a_walk, a_rev, w_enum, w_zipL, w_zipT, e_max, e_min, e_and, e_sumA, e_sumAT, List.reverse_cons, List.reverse_nil, List.zip_cons_cons, List.zip_nil_left, List.zip_nil_right, subE_BadSizes_BadSizes, subE_BadSizes_BadDistance, subE_BadDistance_BadSizes, subE_BadDistance_BadDistance, e0])).trans ?_
    refine (seq_ok (e := [.sh (.scr ns), .ow h1, .sh (.int q), .no, .no, .no, .no, .no, .no, .no, .no, .no, .no]) (by simp only [bindR_ok, bindR_ex, a_bind, a_of_some, a_var, a_c, a_bin, a_un, a_test, a_tru, a_cmp, a_and, a_or, a_not, a_if, a_andV, a_orV, a_notV, a_bl, a_nil, a_cons, a_tup, a_lst, a_call, a_callF, a_callIO, a_seq, a_next, a_ret, a_retN, a_drop, a_break, a_cont, a_ifS, a_asg, a_asgG, a_app, a_setI, a_iter, a_rng, a_for, a_slice, a_part0, a_part1, a_lc, a_yes, l_val, l_new, l_slot, f_val, f_new, f_slot, t_val, t_new, t_slot, s_val, s_new, s_slot, a_look2, a_look1, a_fa0, a_fa1, a_la0, a_la1, a_fn1, a_fn2, a_gN, a_gs0, a_gs1, a_gT, a_turn, a_fg0, a_fg1, a_wp0, a_wp1, a_rs0, a_rs1, a_mkF, a_mkIO, a_owL, a_owD, a_tkT, a_tkF, a_apf, a_apb, a_apn, a_aps, e_addI, e_subI, e_mulI, e_divI, e_modI, e_negI, e_lt, e_le, e_gt, e_ge, e_is, e_isnot, a_lift, e_lenL, e_lenT, e_lenS, e_intI, e_intB, e_absI, e_truB, e_truI, e_truN, e_truL, e_truT, e_ixL, e_ixT, e_tupL, e_tupT, e_lstL, e_lstT, e_sum, cEq_int, cNe_int, fin, finIO, outTk, own0, isS0, entry, entryIO, atI_0, atI_1, atI_2, atI_3, Option.map_some, List.set_cons_zero, List.set_cons_succ, List.getElem?_cons_zero, List.getElem?_cons_succ, List.getElem?_nil, List.getD_cons_zero, List.getD_cons_succ, List.map_cons, List.map_nil, List.length_cons, List.length_nil, List.length_map, List.replicate, List.cons_append, List.nil_append, Nat.reduceAdd, Nat.reduceSub, Nat.reduceLeDiff, Nat.reduceLT, Nat.zero_le, Int.reduceLT, Int.reduceLE, Int.reduceEq, Int.reduceNeg, if_true, if_false, Bool.false_eq_true, Bool.true_eq_false, reduceIte, Bool.or_true, Bool.true_or, Bool.false_or, Bool.or_false, Bool.and_true, Bool.and_false, Bool.true_and, Bool.false_and, Bool.not_true, Bool.not_false, decide_true, decide_false, decide_eq_true_eq, and_self, not_true_eq_false, not_false_eq_true, ite_self, a_try_ok, a_raise0, a_raise, a_h0, a_h1, a_en0, a_en1, a_se_nx, a_se_rt, a_lv0, a_lv1, a_un0, a_un1, a_cx0, a_cx1, a_cx2, a_cx3, a_xf, a_pad, a_walk, a_rev, w_enum, w_zipL, w_zipT, e_max, e_min, e_and, e_sumA, e_sumAT, List.reverse_cons, List.reverse_nil, List.zip_cons_cons, List.zip_nil_left, List.zip_nil_right, subE_BadSizes_BadSizes, subE_BadSizes_BadDistance, subE_BadDistance_BadSizes, subE_BadDistance_BadDistance, e1, hQ])).trans ?_
    refine (seq_ok (e := [.sh (.scr ns), .ow h2, .sh (.int q), .sh (.int M), .no, .no, .no, .no, .no, .no, .no, .no, .no]) (by simp only [bindR_ok, bindR_ex, a_bind, a_of_some, a_var, a_c, a_bin, a_un, a_test, a_tru, a_cmp, a_and, a_or, a_not, a_if, a_andV, a_orV, a_notV, a_bl, a_nil, a_cons, a_tup, a_lst, a_call, a_callF, a_callIO, a_seq, a_next, a_ret, a_retN, a_drop, a_break, a_cont, a_ifS, a_asg, a_asgG, a_app, a_setI, a_iter, a_rng, a_for, a_slice, a_part0, a_part1, a_lc, a_yes, l_val, l_new, l_slot, f_val, f_new, f_slot, t_val, t_new, t_slot, s_val, s_new, s_slot, a_look2, a_look1, a_fa0, a_fa1, a_la0, a_la1, a_fn1, a_fn2, a_gN, a_gs0, a_gs1, a_gT, a_turn, a_fg0, a_fg1, a_wp0, a_wp1, a_rs0, a_rs1, a_mkF, a_mkIO, a_owL, a_owD, a_tkT, a_tkF, a_apf, a_apb, a_apn, a_aps, e_addI, e_subI, e_mulI, e_divI, e_modI, e_negI, e_lt, e_le, e_gt, e_ge, e_is, e_isnot, a_lift, e_lenL, e_lenT, e_lenS, e_intI, e_intB, e_absI, e_truB, e_truI, e_truN, e_truL, e_truT, e_ixL, e_ixT, e_tupL, e_tupT, e_lstL, e_lstT, e_sum, cEq_int, cNe_int, fin, finIO, outTk, own0, isS0, entry, entryIO, atI_0, atI_1, atI_2, atI_3, Option.map_some, List.set_cons_zero, List.set_cons_succ, List.getElem?_cons_zero, List.getElem?_cons_succ, List.getElem?_nil, List.getD_cons_zero, List.getD_cons_succ, List.map_cons, List.map_nil, List.length_cons, List.length_nil, List.length_map, List.replicate, List.cons_append, List.nil_append, Nat.reduceAdd, Nat.reduceSub, Nat.reduceLeDiff, Nat.reduceLT, Nat.zero_le, Int.reduceLT, Int.reduceLE, Int.reduceEq, Int.reduceNeg, if_true, if_false, Bool.false_eq_true, Bool.true_eq_false, reduceIte, Bool.or_true, Bool.true_or, Bool.false_or, Bool.or_false, Bool.and_true, Bool.and_false, Bool.true_and, Bool.false_and, Bool.not_true, Bool.not_false, decide_true, decide_false, decide_eq_true_eq, and_self, not_true_eq_false, not_false_eq_true, ite_self, a_try_ok, a_raise0, a_raise, a_h0, a_h1, a_en0, a_en1, a_se_nx, a_se_rt, a_lv0, a_lv1, a_un0, a_un1, a_cx0, a_cx1, a_cx2, a_cx3, a_xf, a_pad, a_walk, a_rev, w_enum, w_zipL, w_zipT, e_max, e_min, e_and, e_sumA, e_sumAT, List.reverse_cons, List.reverse_nil, List.zip_cons_cons, List.zip_nil_left, List.zip_nil_right, subE_BadSizes_BadSizes, subE_BadSizes_BadDistance, subE_BadDistance_BadSizes, subE_BadDistance_BadDistance, e2, hM])).trans ?_
    refine (seq_ok (e := [.sh (.scr ns), .ow h3, .sh (.int q), .sh (.int M), .sh (.int N), .no, .no, .no, .no, .no, .no, .no, .no]) (by simp only [bindR_ok, bindR_ex, a_bind, a_of_some, a_var, a_c, a_bin, a_un, a_test, a_tru, a_cmp, a_and, a_or, a_not, a_if, a_andV, a_orV, a_notV, a_bl, a_nil, a_cons, a_tup, a_lst, a_call, a_callF, a_callIO, a_seq, a_next, a_ret, a_retN, a_drop, a_break, a_cont, a_ifS, a_asg, a_asgG, a_app, a_setI, a_iter, a_rng, a_for, a_slice, a_part0, a_part1, a_lc, a_yes, l_val, l_new, l_slot, f_val, f_new, f_slot, t_val, t_new, t_slot, s_val, s_new, s_slot, a_look2, a_look1, a_fa0, a_fa1, a_la0, a_la1, a_fn1, a_fn2, a_gN, a_gs0, a_gs1, a_gT, a_turn, a_fg0, a_fg1, a_wp0, a_wp1, a_rs0, a_rs1, a_mkF, a_mkIO, a_owL, a_owD, a_tkT, a_tkF, a_apf, a_apb, a_apn, a_aps, e_addI, e_subI, e_mulI, e_divI, e_modI, e_negI, e_lt, e_le, e_gt, e_ge, e_is, e_isnot, a_lift, e_lenL, e_lenT, e_lenS, e_intI, e_intB, e_absI, e_truB, e_truI, e_truN, e_truL, e_truT, e_ixL, e_ixT, e_tupL, e_tupT, e_lstL, e_lstT, e_sum, cEq_int, cNe_int, fin, finIO, outTk, own0, isS0, entry, entryIO, atI_0, atI_1, atI_2, atI_3, Option.map_some, List.set_cons_zero, List.set_cons_succ, List.getElem?_cons_zero, List.getElem?_cons_succ, List.getElem?_nil, List.getD_cons_zero, List.getD_cons_succ, List.map_cons, List.map_nil, List.length_cons, List.length_nil, List.length_map, List.replicate, List.cons_append, List.nil_append, Nat.reduceAdd, Nat.reduceSub, Nat.reduceLeDiff, Nat.reduceLT, Nat.zero_le, Int.reduceLT, Int.reduceLE, Int.reduceEq, Int.reduceNeg, if_true, if_false, Bool.false_eq_true, Bool.true_eq_false, reduceIte, Bool.or_true, Bool.true_or, Bool.false_or, Bool.or_false, Bool.and_true, Bool.and_false, Bool.true_and, Bool.false_and, Bool.not_true, Bool.not_false, decide_true, decide_false, decide_eq_true_eq, and_self, not_true_eq_false, not_false_eq_true, ite_self, a_try_ok, a_raise0, a_raise, a_h0, a_h1, a_en0, a_en1, a_se_nx, a_se_rt, a_lv0, a_lv1, a_un0, a_un1, a_cx0, a_cx1, a_cx2, a_cx3, a_xf, a_pad, a_walk, a_rev, w_enum, w_zipL, w_zipT, e_max, e_min, e_and, e_sumA, e_sumAT, List.reverse_cons, List.reverse_nil, List.zip_cons_cons, List.zip_nil_left, List.zip_nil_right, subE_BadSizes_BadSizes, subE_BadSizes_BadDistance, subE_BadDistance_BadSizes, subE_BadDistance_BadDistance, e3, hN])).trans ?_
    refine (seq_ok (e := [.sh (.scr ns), .ow h4, .sh (.int q), .sh (.int M), .sh (.int N), .sh (.int d), .no, .no, .no, .no, .no, .no, .no]) (by simp only [bindR_ok, bindR_ex, a_bind, a_of_some, a_var, a_c, a_bin, a_un, a_test, a_tru, a_cmp, a_and, a_or, a_not, a_if, a_andV, a_orV, a_notV, a_bl, a_nil, a_cons, a_tup, a_lst, a_call, a_callF, a_callIO, a_seq, a_next, a_ret, a_retN, a_drop, a_break, a_cont, a_ifS, a_asg, a_asgG, a_app, a_setI, a_iter, a_rng, a_for, a_slice, a_part0, a_part1, a_lc, a_yes, l_val, l_new, l_slot, f_val, f_new, f_slot, t_val, t_new, t_slot, s_val, s_new, s_slot, a_look2, a_look1, a_fa0, a_fa1, a_la0, a_la1, a_fn1, a_fn2, a_gN, a_gs0, a_gs1, a_gT, a_turn, a_fg0, a_fg1, a_wp0, a_wp1, a_rs0, a_rs1, a_mkF, a_mkIO, a_owL, a_owD, a_tkT, a_tkF, a_apf, a_apb, a_apn, a_aps, e_addI, e_subI, e_mulI, e_divI, e_modI, e_negI, e_lt, e_le, e_gt, e_ge, e_is, e_isnot, a_lift, e_lenL, e_lenT, e_lenS, e_intI, e_intB, e_absI, e_truB, e_truI, e_truN, e_truL, e_truT, e_ixL, e_ixT, e_tupL, e_tupT, e_lstL, e_lstT, e_sum, cEq_int, cNe_int, fin, finIO, outTk, own0, isS0, entry, entryIO, atI_0, atI_1, atI_2, atI_3, Option.map_some, List.set_cons_zero, List.set_cons_succ, List.getElem?_cons_zero, List.getElem?_cons_succ, List.getElem?_nil, List.getD_cons_zero, List.getD_cons_succ, List.map_cons, List.map_nil, List.length_cons, List.length_nil, List.length_map, List.replicate, List.cons_append, List.nil_append, Nat.reduceAdd, Nat.reduceSub, Nat.reduceLeDiff, Nat.reduceLT, Nat.zero_le, Int.reduceLT, Int.reduceLE, Int.reduceEq, Int.reduceNeg, if_true, if_false, Bool.false_eq_true, Bool.true_eq_false, reduceIte, Bool.or_true, Bool.true_or, Bool.false_or, Bool.or_false, Bool.and_true, Bool.and_false, Bool.true_and, Bool.false_and, Bool.not_true, Bool.not_false, decide_true, decide_false, decide_eq_true_eq, and_self, not_true_eq_false, not_false_eq_true, ite_self, a_try_ok, a_raise0, a_raise, a_h0, a_h1, a_en0, a_en1, a_se_nx, a_se_rt, a_lv0, a_lv1, a_un0, a_un1, a_cx0, a_cx1, a_cx2, a_cx3, a_xf, a_pad, a_walk, a_rev, w_enum, w_zipL, w_zipT, e_max, e_min, e_and, e_sumA, e_sumAT, List.reverse_cons, List.reverse_nil, List.zip_cons_cons, List.zip_nil_left, List.zip_nil_right, subE_BadSizes_BadSizes, subE_BadSizes_BadDistance, subE_BadDistance_BadSizes, subE_BadDistance_BadDistance, e4, hd])).trans ?_
    refine (seq_ok (e := [.sh (.scr ns), .ow h4, .sh (.int q), .sh (.int M), .sh (.int N), .sh (.int d), .ow (.lst (rowsL q 13)), .no, .no, .no, .no, .no, .no]) (by simp only [bindR_ok, bindR_ex, a_bind, a_of_some, a_var, a_c, a_bin, a_un, a_test, a_tru, a_cmp, a_and, a_or, a_not, a_if, a_andV, a_orV, a_notV, a_bl, a_nil, a_cons, a_tup, a_lst, a_call, a_callF, a_callIO, a_seq, a_next, a_ret, a_retN, a_drop, a_break, a_cont, a_ifS, a_asg, a_asgG, a_app, a_setI, a_iter, a_rng, a_for, a_slice, a_part0, a_part1, a_lc, a_yes, l_val, l_new, l_slot, f_val, f_new, f_slot, t_val, t_new, t_slot, s_val, s_new, s_slot, a_look2, a_look1, a_fa0, a_fa1, a_la0, a_la1, a_fn1, a_fn2, a_gN, a_gs0, a_gs1, a_gT, a_turn, a_fg0, a_fg1, a_wp0, a_wp1, a_rs0, a_rs1, a_mkF, a_mkIO, a_owL, a_owD, a_tkT, a_tkF, a_apf, a_apb, a_apn, a_aps, e_addI, e_subI, e_mulI, e_divI, e_modI, e_negI, e_lt, e_le, e_gt, e_ge, e_is, e_isnot, a_lift, e_lenL, e_lenT, e_lenS, e_intI, e_intB, e_absI, e_truB, e_truI, e_truN, e_truL, e_truT, e_ixL, e_ixT, e_tupL, e_tupT, e_lstL, e_lstT, e_sum, cEq_int, cNe_int, fin, finIO, outTk, own0, isS0, entry, entryIO, atI_0, atI_1, atI_2, atI_3, Option.map_some, List.set_cons_zero, List.set_cons_succ, List.getElem?_cons_zero, List.getElem?_cons_succ, List.getElem?_nil, List.getD_cons_zero, List.getD_cons_succ, List.map_cons, List.map_nil, List.length_cons, List.length_nil, List.length_map, List.replicate, List.cons_append, List.nil_append, Nat.reduceAdd, Nat.reduceSub, Nat.reduceLeDiff, Nat.reduceLT, Nat.zero_le, Int.reduceLT, Int.reduceLE, Int.reduceEq, Int.reduceNeg, if_true, if_false, Bool.false_eq_true, Bool.true_eq_false, reduceIte, Bool.or_true, Bool.true_or, Bool.false_or, Bool.or_false, Bool.and_true, Bool.and_false, Bool.true_and, Bool.false_and, Bool.not_true, Bool.not_false, decide_true, decide_false, decide_eq_true_eq, and_self, not_true_eq_false, not_false_eq_true, ite_self, a_try_ok, a_raise0, a_raise, a_h0, a_h1, a_en0, a_en1, a_se_nx, a_se_rt, a_lv0, a_lv1, a_un0, a_un1, a_cx0, a_cx1, a_cx2, a_cx3, a_xf, a_pad, a_walk, a_rev, w_enum, w_zipL, w_zipT, e_max, e_min, e_and, e_sumA, e_sumAT, List.reverse_cons, List.reverse_nil, List.zip_cons_cons, List.zip_nil_left, List.zip_nil_right, subE_BadSizes_BadSizes, subE_BadSizes_BadDistance, subE_BadDistance_BadSizes, subE_BadDistance_BadDistance, G])).trans ?_
    refine (seq_ok (e := [.sh (.scr ns), .ow h4, .sh (.int q), .sh (.int M), .sh (.int N), .sh (.int d), .ow (.lst (rowsL q 13)), .sh (.tup [.str "told", .tup C]), .no, .no, .no, .no, .no]) (by simp only [bindR_ok, bindR_ex, a_bind, a_of_some, a_var, a_c, a_bin, a_un, a_test, a_tru, a_cmp, a_and, a_or, a_not, a_if, a_andV, a_orV, a_notV, a_bl, a_nil, a_cons, a_tup, a_lst, a_call, a_callF, a_callIO, a_seq, a_next, a_ret, a_retN, a_drop, a_break, a_cont, a_ifS, a_asg, a_asgG, a_app, a_setI, a_iter, a_rng, a_for, a_slice, a_part0, a_part1, a_lc, a_yes, l_val, l_new, l_slot, f_val, f_new, f_slot, t_val, t_new, t_slot, s_val, s_new, s_slot, a_look2, a_look1, a_fa0, a_fa1, a_la0, a_la1, a_fn1, a_fn2, a_gN, a_gs0, a_gs1, a_gT, a_turn, a_fg0, a_fg1, a_wp0, a_wp1, a_rs0, a_rs1, a_mkF, a_mkIO, a_owL, a_owD, a_tkT, a_tkF, a_apf, a_apb, a_apn, a_aps, e_addI, e_subI, e_mulI, e_divI, e_modI, e_negI, e_lt, e_le, e_gt, e_ge, e_is, e_isnot, a_lift, e_lenL, e_lenT, e_lenS, e_intI, e_intB, e_absI, e_truB, e_truI, e_truN, e_truL, e_truT, e_ixL, e_ixT, e_tupL, e_tupT, e_lstL, e_lstT, e_sum, cEq_int, cNe_int, fin, finIO, outTk, own0, isS0, entry, entryIO, atI_0, atI_1, atI_2, atI_3, Option.map_some, List.set_cons_zero, List.set_cons_succ, List.getElem?_cons_zero, List.getElem?_cons_succ, List.getElem?_nil, List.getD_cons_zero, List.getD_cons_succ, List.map_cons, List.map_nil, List.length_cons, List.length_nil, List.length_map, List.replicate, List.cons_append, List.nil_append, Nat.reduceAdd, Nat.reduceSub, Nat.reduceLeDiff, Nat.reduceLT, Nat.zero_le, Int.reduceLT, Int.reduceLE, Int.reduceEq, Int.reduceNeg, if_true, if_false, Bool.false_eq_true, Bool.true_eq_false, reduceIte, Bool.or_true, Bool.true_or, Bool.false_or, Bool.or_false, Bool.and_true, Bool.and_false, Bool.true_and, Bool.false_and, Bool.not_true, Bool.not_false, decide_true, decide_false, decide_eq_true_eq, and_self, not_true_eq_false, not_false_eq_true, ite_self, a_try_ok, a_raise0, a_raise, a_h0, a_h1, a_en0, a_en1, a_se_nx, a_se_rt, a_lv0, a_lv1, a_un0, a_un1, a_cx0, a_cx1, a_cx2, a_cx3, a_xf, a_pad, a_walk, a_rev, w_enum, w_zipL, w_zipT, e_max, e_min, e_and, e_sumA, e_sumAT, List.reverse_cons, List.reverse_nil, List.zip_cons_cons, List.zip_nil_left, List.zip_nil_right, subE_BadSizes_BadSizes, subE_BadSizes_BadDistance, subE_BadDistance_BadSizes, subE_BadDistance_BadDistance, mt])).trans ?_
    refine (seq_ok (e := [.sh (.scr ns), .ow h4, .sh (.int q), .sh (.int M), .sh (.int N), .sh (.int d), .ow (.lst (rowsL q 13)), .sh (.tup [.str "told", .tup C]), .no, .no, .no, .no, .no]) (by simp only [bindR_ok, bindR_ex, a_bind, a_of_some, a_var, a_c, a_bin, a_un, a_test, a_tru, a_cmp, a_and, a_or, a_not, a_if, a_andV, a_orV, a_notV, a_bl, a_nil, a_cons, a_tup, a_lst, a_call, a_callF, a_callIO, a_seq, a_next, a_ret, a_retN, a_drop, a_break, a_cont, a_ifS, a_asg, a_asgG, a_app, a_setI, a_iter, a_rng, a_for, a_slice, a_part0, a_part1, a_lc, a_yes, l_val, l_new, l_slot, f_val, f_new, f_slot, t_val, t_new, t_slot, s_val, s_new, s_slot, a_look2, a_look1, a_fa0, a_fa1, a_la0, a_la1, a_fn1, a_fn2, a_gN, a_gs0, a_gs1, a_gT, a_turn, a_fg0, a_fg1, a_wp0, a_wp1, a_rs0, a_rs1, a_mkF, a_mkIO, a_owL, a_owD, a_tkT, a_tkF, a_apf, a_apb, a_apn, a_aps, e_addI, e_subI, e_mulI, e_divI, e_modI, e_negI, e_lt, e_le, e_gt, e_ge, e_is, e_isnot, a_lift, e_lenL, e_lenT, e_lenS, e_intI, e_intB, e_absI, e_truB, e_truI, e_truN, e_truL, e_truT, e_ixL, e_ixT, e_tupL, e_tupT, e_lstL, e_lstT, e_sum, cEq_int, cNe_int, fin, finIO, outTk, own0, isS0, entry, entryIO, atI_0, atI_1, atI_2, atI_3, Option.map_some, List.set_cons_zero, List.set_cons_succ, List.getElem?_cons_zero, List.getElem?_cons_succ, List.getElem?_nil, List.getD_cons_zero, List.getD_cons_succ, List.map_cons, List.map_nil, List.length_cons, List.length_nil, List.length_map, List.replicate, List.cons_append, List.nil_append, Nat.reduceAdd, Nat.reduceSub, Nat.reduceLeDiff, Nat.reduceLT, Nat.zero_le, Int.reduceLT, Int.reduceLE, Int.reduceEq, Int.reduceNeg, if_true, if_false, Bool.false_eq_true, Bool.true_eq_false, reduceIte, Bool.or_true, Bool.true_or, Bool.false_or, Bool.or_false, Bool.and_true, Bool.and_false, Bool.true_and, Bool.false_and, Bool.not_true, Bool.not_false, decide_true, decide_false, decide_eq_true_eq, and_self, not_true_eq_false, not_false_eq_true, ite_self, a_try_ok, a_raise0, a_raise, a_h0, a_h1, a_en0, a_en1, a_se_nx, a_se_rt, a_lv0, a_lv1, a_un0, a_un1, a_cx0, a_cx1, a_cx2, a_cx3, a_xf, a_pad, a_walk, a_rev, w_enum, w_zipL, w_zipT, e_max, e_min, e_and, e_sumA, e_sumAT, List.reverse_cons, List.reverse_nil, List.zip_cons_cons, List.zip_nil_left, List.zip_nil_right, subE_BadSizes_BadSizes, subE_BadSizes_BadDistance, subE_BadDistance_BadSizes, subE_BadDistance_BadDistance, told_told])).trans ?_
    refine (seq_ok (e := [.sh (.scr ns), .ow h4, .sh (.int q), .sh (.int M), .sh (.int N), .sh (.int d), .ow (.lst (rowsL q 13)), .sh (.tup [.str "told", .tup C]), .sh (.tup C), .no, .no, .no, .no]) (by simp only [bindR_ok, bindR_ex, a_bind, a_of_some, a_var, a_c, a_bin, a_un, a_test, a_tru, a_cmp, a_and, a_or, a_not, a_if, a_andV, a_orV, a_notV, a_bl, a_nil, a_cons, a_tup, a_lst, a_call, a_callF, a_callIO, a_seq, a_next, a_ret, a_retN, a_drop, a_break, a_cont, a_ifS, a_asg, a_asgG, a_app, a_setI, a_iter, a_rng, a_for, a_slice, a_part0, a_part1, a_lc, a_yes, l_val, l_new, l_slot, f_val, f_new, f_slot, t_val, t_new, t_slot, s_val, s_new, s_slot, a_look2, a_look1, a_fa0, a_fa1, a_la0, a_la1, a_fn1, a_fn2, a_gN, a_gs0, a_gs1, a_gT, a_turn, a_fg0, a_fg1, a_wp0, a_wp1, a_rs0, a_rs1, a_mkF, a_mkIO, a_owL, a_owD, a_tkT, a_tkF, a_apf, a_apb, a_apn, a_aps, e_addI, e_subI, e_mulI, e_divI, e_modI, e_negI, e_lt, e_le, e_gt, e_ge, e_is, e_isnot, a_lift, e_lenL, e_lenT, e_lenS, e_intI, e_intB, e_absI, e_truB, e_truI, e_truN, e_truL, e_truT, e_ixL, e_ixT, e_tupL, e_tupT, e_lstL, e_lstT, e_sum, cEq_int, cNe_int, fin, finIO, outTk, own0, isS0, entry, entryIO, atI_0, atI_1, atI_2, atI_3, Option.map_some, List.set_cons_zero, List.set_cons_succ, List.getElem?_cons_zero, List.getElem?_cons_succ, List.getElem?_nil, List.getD_cons_zero, List.getD_cons_succ, List.map_cons, List.map_nil, List.length_cons, List.length_nil, List.length_map, List.replicate, List.cons_append, List.nil_append, Nat.reduceAdd, Nat.reduceSub, Nat.reduceLeDiff, Nat.reduceLT, Nat.zero_le, Int.reduceLT, Int.reduceLE, Int.reduceEq, Int.reduceNeg, if_true, if_false, Bool.false_eq_true, Bool.true_eq_false, reduceIte, Bool.or_true, Bool.true_or, Bool.false_or, Bool.or_false, Bool.and_true, Bool.and_false, Bool.true_and, Bool.false_and, Bool.not_true, Bool.not_false, decide_true, decide_false, decide_eq_true_eq, and_self, not_true_eq_false, not_false_eq_true, ite_self, a_try_ok, a_raise0, a_raise, a_h0, a_h1, a_en0, a_en1, a_se_nx, a_se_rt, a_lv0, a_lv1, a_un0, a_un1, a_cx0, a_cx1, a_cx2, a_cx3, a_xf, a_pad, a_walk, a_rev, w_enum, w_zipL, w_zipT, e_max, e_min, e_and, e_sumA, e_sumAT, List.reverse_cons, List.reverse_nil, List.zip_cons_cons, List.zip_nil_left, List.zip_nil_right, subE_BadSizes_BadSizes, subE_BadSizes_BadDistance, subE_BadDistance_BadSizes, subE_BadDistance_BadDistance])).trans ?_
    refine (seq_ok (e := [.sh (.scr ns), .ow h4, .sh (.int q), .sh (.int M), .sh (.int N), .sh (.int d), .ow (.lst (rowsL q 13)), .sh (.tup [.str "told", .tup C]), .sh (.tup C), .no, .no, .no, .no]) (by simp only [bindR_ok, bindR_ex, a_bind, a_of_some, a_var, a_c, a_bin, a_un, a_test, a_tru, a_cmp, a_and, a_or, a_not, a_if, a_andV, a_orV, a_notV, a_bl, a_nil, a_cons, a_tup, a_lst, a_call, a_callF, a_callIO, a_seq, a_next, a_ret, a_retN, a_drop, a_break, a_cont, a_ifS, a_asg, a_asgG, a_app, a_setI, a_iter, a_rng, a_for, a_slice, a_part0, a_part1, a_lc, a_yes, l_val, l_new, l_slot, f_val, f_new, f_slot, t_val, t_new, t_slot, s_val, s_new, s_slot, a_look2, a_look1, a_fa0, a_fa1, a_la0, a_la1, a_fn1, a_fn2, a_gN, a_gs0, a_gs1, a_gT, a_turn, a_fg0, a_fg1, a_wp0, a_wp1, a_rs0, a_rs1, a_mkF, a_mkIO, a_owL, a_owD, a_tkT, a_tkF, a_apf, a_apb, a_apn, a_aps, e_addI, e_subI, e_mulI, e_divI, e_modI, e_negI, e_lt, e_le, e_gt, e_ge, e_is, e_isnot, a_lift, e_lenL, e_lenT, e_lenS, e_intI, e_intB, e_absI, e_truB, e_truI, e_truN, e_truL, e_truT, e_ixL, e_ixT, e_tupL, e_tupT, e_lstL, e_lstT, e_sum, cEq_int, cNe_int, fin, finIO, outTk, own0, isS0, entry, entryIO, atI_0, atI_1, atI_2, atI_3, Option.map_some, List.set_cons_zero, List.set_cons_succ, List.getElem?_cons_zero, List.getElem?_cons_succ, List.getElem?_nil, List.getD_cons_zero, List.getD_cons_succ, List.map_cons, List.map_nil, List.length_cons, List.length_nil, List.length_map, List.replicate, List.cons_append, List.nil_append, Nat.reduceAdd, Nat.reduceSub, Nat.reduceLeDiff, Nat.reduceLT, Nat.zero_le, Int.reduceLT, Int.reduceLE, Int.reduceEq, Int.reduceNeg, if_true, if_false, Bool.false_eq_true, Bool.true_eq_false, reduceIte, Bool.or_true, Bool.true_or, Bool.false_or, Bool.or_false, Bool.and_true, Bool.and_false, Bool.true_and, Bool.false_and, Bool.not_true, Bool.not_false, decide_true, decide_false, decide_eq_true_eq, and_self, not_true_eq_false, not_false_eq_true, ite_self, a_try_ok, a_raise0, a_raise, a_h0, a_h1, a_en0, a_en1, a_se_nx, a_se_rt, a_lv0, a_lv1, a_un0, a_un1, a_cx0, a_cx1, a_cx2, a_cx3, a_xf, a_pad, a_walk, a_rev, w_enum, w_zipL, w_zipT, e_max, e_min, e_and, e_sumA, e_sumAT, List.reverse_cons, List.reverse_nil, List.zip_cons_cons, List.zip_nil_left, List.zip_nil_right, subE_BadSizes_BadSizes, subE_BadSizes_BadDistance, subE_BadDistance_BadSizes, subE_BadDistance_BadDistance, okN, nN, now10, LC, SH])).trans ?_
    refine (seq_ok (e := [.sh (.scr ns), .ow h4, .sh (.int q), .sh (.int M), .sh (.int N), .sh (.int d), .ow (.lst (rowsL q 13)), .sh (.tup [.str "told", .tup C]), .sh (.tup C), .no, .no, .no, .no]) (by simp only [bindR_ok, bindR_ex, a_bind, a_of_some, a_var, a_c, a_bin, a_un, a_test, a_tru, a_cmp, a_and, a_or, a_not, a_if, a_andV, a_orV, a_notV, a_bl, a_nil, a_cons, a_tup, a_lst, a_call, a_callF, a_callIO, a_seq, a_next, a_ret, a_retN, a_drop, a_break, a_cont, a_ifS, a_asg, a_asgG, a_app, a_setI, a_iter, a_rng, a_for, a_slice, a_part0, a_part1, a_lc, a_yes, l_val, l_new, l_slot, f_val, f_new, f_slot, t_val, t_new, t_slot, s_val, s_new, s_slot, a_look2, a_look1, a_fa0, a_fa1, a_la0, a_la1, a_fn1, a_fn2, a_gN, a_gs0, a_gs1, a_gT, a_turn, a_fg0, a_fg1, a_wp0, a_wp1, a_rs0, a_rs1, a_mkF, a_mkIO, a_owL, a_owD, a_tkT, a_tkF, a_apf, a_apb, a_apn, a_aps, e_addI, e_subI, e_mulI, e_divI, e_modI, e_negI, e_lt, e_le, e_gt, e_ge, e_is, e_isnot, a_lift, e_lenL, e_lenT, e_lenS, e_intI, e_intB, e_absI, e_truB, e_truI, e_truN, e_truL, e_truT, e_ixL, e_ixT, e_tupL, e_tupT, e_lstL, e_lstT, e_sum, cEq_int, cNe_int, fin, finIO, outTk, own0, isS0, entry, entryIO, atI_0, atI_1, atI_2, atI_3, Option.map_some, List.set_cons_zero, List.set_cons_succ, List.getElem?_cons_zero, List.getElem?_cons_succ, List.getElem?_nil, List.getD_cons_zero, List.getD_cons_succ, List.map_cons, List.map_nil, List.length_cons, List.length_nil, List.length_map, List.replicate, List.cons_append, List.nil_append, Nat.reduceAdd, Nat.reduceSub, Nat.reduceLeDiff, Nat.reduceLT, Nat.zero_le, Int.reduceLT, Int.reduceLE, Int.reduceEq, Int.reduceNeg, if_true, if_false, Bool.false_eq_true, Bool.true_eq_false, reduceIte, Bool.or_true, Bool.true_or, Bool.false_or, Bool.or_false, Bool.and_true, Bool.and_false, Bool.true_and, Bool.false_and, Bool.not_true, Bool.not_false, decide_true, decide_false, decide_eq_true_eq, and_self, not_true_eq_false, not_false_eq_true, ite_self, a_try_ok, a_raise0, a_raise, a_h0, a_h1, a_en0, a_en1, a_se_nx, a_se_rt, a_lv0, a_lv1, a_un0, a_un1, a_cx0, a_cx1, a_cx2, a_cx3, a_xf, a_pad, a_walk, a_rev, w_enum, w_zipL, w_zipT, e_max, e_min, e_and, e_sumA, e_sumAT, List.reverse_cons, List.reverse_nil, List.zip_cons_cons, List.zip_nil_left, List.zip_nil_right, subE_BadSizes_BadSizes, subE_BadSizes_BadDistance, subE_BadDistance_BadSizes, subE_BadDistance_BadDistance, c0, sl, lr, rp, re])).trans ?_
    refine (seq_ok (e := [.sh (.scr ns), .ow h4, .sh (.int q), .sh (.int M), .sh (.int N), .sh (.int d), .ow (.lst (rowsL q 13)), .sh (.tup [.str "told", .tup C]), .sh (.tup C), .no, .no, .no, .no]) (by simp only [bindR_ok, bindR_ex, a_bind, a_of_some, a_var, a_c, a_bin, a_un, a_test, a_tru, a_cmp, a_and, a_or, a_not, a_if, a_andV, a_orV, a_notV, a_bl, a_nil, a_cons, a_tup, a_lst, a_call, a_callF, a_callIO, a_seq, a_next, a_ret, a_retN, a_drop, a_break, a_cont, a_ifS, a_asg, a_asgG, a_app, a_setI, a_iter, a_rng, a_for, a_slice, a_part0, a_part1, a_lc, a_yes, l_val, l_new, l_slot, f_val, f_new, f_slot, t_val, t_new, t_slot, s_val, s_new, s_slot, a_look2, a_look1, a_fa0, a_fa1, a_la0, a_la1, a_fn1, a_fn2, a_gN, a_gs0, a_gs1, a_gT, a_turn, a_fg0, a_fg1, a_wp0, a_wp1, a_rs0, a_rs1, a_mkF, a_mkIO, a_owL, a_owD, a_tkT, a_tkF, a_apf, a_apb, a_apn, a_aps, e_addI, e_subI, e_mulI, e_divI, e_modI, e_negI, e_lt, e_le, e_gt, e_ge, e_is, e_isnot, a_lift, e_lenL, e_lenT, e_lenS, e_intI, e_intB, e_absI, e_truB, e_truI, e_truN, e_truL, e_truT, e_ixL, e_ixT, e_tupL, e_tupT, e_lstL, e_lstT, e_sum, cEq_int, cNe_int, fin, finIO, outTk, own0, isS0, entry, entryIO, atI_0, atI_1, atI_2, atI_3, Option.map_some, List.set_cons_zero, List.set_cons_succ, List.getElem?_cons_zero, List.getElem?_cons_succ, List.getElem?_nil, List.getD_cons_zero, List.getD_cons_succ, List.map_cons, List.map_nil, List.length_cons, List.length_nil, List.length_map, List.replicate, List.cons_append, List.nil_append, Nat.reduceAdd, Nat.reduceSub, Nat.reduceLeDiff, Nat.reduceLT, Nat.zero_le, Int.reduceLT, Int.reduceLE, Int.reduceEq, Int.reduceNeg, if_true, if_false, Bool.false_eq_true, Bool.true_eq_false, reduceIte, Bool.or_true, Bool.true_or, Bool.false_or, Bool.or_false, Bool.and_true, Bool.and_false, Bool.true_and, Bool.false_and, Bool.not_true, Bool.not_false, decide_true, decide_false, decide_eq_true_eq, and_self, not_true_eq_false, not_false_eq_true, ite_self, a_try_ok, a_raise0, a_raise, a_h0, a_h1, a_en0, a_en1, a_se_nx, a_se_rt, a_lv0, a_lv1, a_un0, a_un1, a_cx0, a_cx1, a_cx2, a_cx3, a_xf, a_pad, a_walk, a_rev, w_enum, w_zipL, w_zipT, e_max, e_min, e_and, e_sumA, e_sumAT, List.reverse_cons, List.reverse_nil, List.zip_cons_cons, List.zip_nil_left, List.zip_nil_right, subE_BadSizes_BadSizes, subE_BadSizes_BadDistance, subE_BadDistance_BadSizes, subE_BadDistance_BadDistance, sm, mm, pw])).trans ?_
    refine (seq_ok (e := [.sh (.scr ns), .ow h4, .sh (.int q), .sh (.int M), .sh (.int N), .sh (.int d), .ow (.lst (rowsL q 13)), .sh (.tup [.str "told", .tup C]), .sh (.tup C), .ow (.lst Gs), .no, .no, .no]) (st12 F__law_tables TB apG)).trans ?_
    refine (seq_ok (e := [.sh (.scr ns), .ow h4, .sh (.int q), .sh (.int M), .sh (.int N), .sh (.int d), .ow (.lst (rowsL q 13)), .sh (.tup [.str "told", .tup C]), .sh (.tup C), .ow (.lst Gs), .no, .no, .no]) (st13 F__law_met_told mt1 ptT)).trans ?_
    refine (seq_ok (e := [.sh (.scr ns), .ow h4, .sh (.int q), .sh (.int M), .sh (.int N), .sh (.int d), .ow (.lst (rowsL q 13)), .sh (.tup [.str "told", .tup C]), .sh (.tup C), .sh (.lst Gs), .no, .no, .no]) (st14 _ _ (N + 1) _ okN nN (fun s9 => LT _ _ _ s9 _ _) (fun s9 => LM _ _ _ _ _ _ _ s9 _ _) wlT)).trans ?_
    refine (seq_ok (e := [.sh (.scr ns), .ow h5, .sh (.int q), .sh (.int M), .sh (.int N), .sh (.int d), .ow (.lst (rowsL q 13)), .sh (.tup [.str "told", .tup C]), .sh (.tup C), .sh (.lst Gs), .no, .no, .no]) (st15 F__law_draw F__law_words_hold e5 hT WH)).trans ?_
    simp only [bindR_ok, bindR_ex, a_bind, a_of_some, a_var, a_c, a_bin, a_un, a_test, a_tru, a_cmp, a_and, a_or, a_not, a_if, a_andV, a_orV, a_notV, a_bl, a_nil, a_cons, a_tup, a_lst, a_call, a_callF, a_callIO, a_seq, a_next, a_ret, a_retN, a_drop, a_break, a_cont, a_ifS, a_asg, a_asgG, a_app, a_setI, a_iter, a_rng, a_for, a_slice, a_part0, a_part1, a_lc, a_yes, l_val, l_new, l_slot, f_val, f_new, f_slot, t_val, t_new, t_slot, s_val, s_new, s_slot, a_look2, a_look1, a_fa0, a_fa1, a_la0, a_la1, a_fn1, a_fn2, a_gN, a_gs0, a_gs1, a_gT, a_turn, a_fg0, a_fg1, a_wp0, a_wp1, a_rs0, a_rs1, a_mkF, a_mkIO, a_owL, a_owD, a_tkT, a_tkF, a_apf, a_apb, a_apn, a_aps, e_addI, e_subI, e_mulI, e_divI, e_modI, e_negI, e_lt, e_le, e_gt, e_ge, e_is, e_isnot, a_lift, e_lenL, e_lenT, e_lenS, e_intI, e_intB, e_absI, e_truB, e_truI, e_truN, e_truL, e_truT, e_ixL, e_ixT, e_tupL, e_tupT, e_lstL, e_lstT, e_sum, cEq_int, cNe_int, fin, finIO, outTk, own0, isS0, entry, entryIO, atI_0, atI_1, atI_2, atI_3, Option.map_some, List.set_cons_zero, List.set_cons_succ, List.getElem?_cons_zero, List.getElem?_cons_succ, List.getElem?_nil, List.getD_cons_zero, List.getD_cons_succ, List.map_cons, List.map_nil, List.length_cons, List.length_nil, List.length_map, List.replicate, List.cons_append, List.nil_append, Nat.reduceAdd, Nat.reduceSub, Nat.reduceLeDiff, Nat.reduceLT, Nat.zero_le, Int.reduceLT, Int.reduceLE, Int.reduceEq, Int.reduceNeg, if_true, if_false, Bool.false_eq_true, Bool.true_eq_false, reduceIte, Bool.or_true, Bool.true_or, Bool.false_or, Bool.or_false, Bool.and_true, Bool.and_false, Bool.true_and, Bool.false_and, Bool.not_true, Bool.not_false, decide_true, decide_false, decide_eq_true_eq, and_self, not_true_eq_false, not_false_eq_true, ite_self, a_try_ok, a_raise0, a_raise, a_h0, a_h1, a_en0, a_en1, a_se_nx, a_se_rt, a_lv0, a_lv1, a_un0, a_un1, a_cx0, a_cx1, a_cx2, a_cx3, a_xf, a_pad, a_walk, a_rev, w_enum, w_zipL, w_zipT, e_max, e_min, e_and, e_sumA, e_sumAT, List.reverse_cons, List.reverse_nil, List.zip_cons_cons, List.zip_nil_left, List.zip_nil_right, subE_BadSizes_BadSizes, subE_BadSizes_BadDistance, subE_BadDistance_BadSizes, subE_BadDistance_BadDistance, e6]
  rw [key]
  rfl
end My
open PySem PySem.W PyProof.Rows
set_option maxHeartbeats 0 in
theorem PySem.Challenge.cw_rankwords_k12_whole_met_counts_of_great_holds : PySem.Challenge.rw_rankwords_k12_whole_met_counts_of_great.Holds := by
  w_on; o_law; k_head; (case hw => w_witness2)
  k_fill
  refine L2.walk_of (l := PySem.Challenge.rw_rankwords_k12_whole_met_counts_of_great) (n := 63) (k := 7) (x := "_law_script") (CX := fun w => L2.CX PySem.Challenge.pw_rankwords_k12_whole_met_counts_of_great w) (sp := fun w => VM.spL _ My.F_law) rfl (by decide) rfl ⟨rfl, by decide, by decide⟩ (fun w h Y => PySem.W.kIn_of Y) ?F (fun _ _ a ns hl _ hS => VM.law_spL hS (My.law_true ns hl)) (fun _ _ _ _ _ h => VM.cx_false h)
  case F =>
    intro w mg fa h KX G hmg
    refine' My.all_mk KX G hmg ?a0 ?l0 ?e0 ?k0 ?a1 ?l1 ?e1 ?k1 ?a2 ?l2 ?e2 ?k2 ?a3 ?l3 ?e3 ?k3 ?a4 ?l4 ?e4 ?k4 ?a5 ?l5 ?t5 ?e5 ?k5 ?a6 ?l6 ?e6 ?k6 ?a7 ?l7 ?e7 ?k7 ?a8 ?l8 ?e8 ?k8 ?a9 ?l9 ?e9 ?k9 ?a10 ?l10 ?e10 ?k10 ?a11 ?l11 ?e11 ?k11 ?a12 ?l12 ?e12 ?k12 ?a13 ?l13 ?e13 ?k13 ?a14 ?l14 ?e14 ?k14 ?a15 ?l15 ?e15 ?k15 ?a16 ?l16 ?e16 ?k16 ?a17 ?l17 ?e17 ?k17 ?a18 ?l18 ?e18 ?k18 ?a19 ?l19 ?e19 ?k19 ?a20 ?l20 ?e20 ?k20 ?a21 ?l21 ?e21 ?k21 ?a22 ?l22 ?e22 ?k22 ?a23 ?l23 ?e23 ?k23 ?aC0 ?aC1 ?aRR ?rR ?cR ?iI0 ?lI0 ?eI0 ?kI0 ?xI0 ?iI1 ?lI1 ?eI1 ?kI1 ?xI1 ?y_BadSizes_BadSizes ?y_BadSizes_BadDistance ?y_BadDistance_BadSizes ?y_BadDistance_BadDistance ?z_abs ?z_bool ?z_enumerate ?z_int ?z_isinstance ?z_len ?z_list ?z_max ?z_range ?z_str ?z_sum ?z_tuple ?g_MOST_SIDE
    (case a0 => k_is); (case l0 => k_is); (case e0 => k_is); (case k0 => k_is); (case a1 => k_is); (case l1 => k_is); (case e1 => k_is); (case k1 => k_is); (case a2 => k_is); (case l2 => k_is); (case e2 => k_is); (case k2 => k_is); (case a3 => k_is); (case l3 => k_is); (case e3 => k_is); (case k3 => k_is); (case a4 => k_is); (case l4 => k_is); (case e4 => k_is); (case k4 => k_is); (case a5 => k_is); (case l5 => k_is); (case t5 => k_is); (case e5 => k_is); (case k5 => k_is); (case a6 => k_is); (case l6 => k_is); (case e6 => k_is); (case k6 => k_is); (case a7 => k_is); (case l7 => k_is); (case e7 => k_is); (case k7 => k_is); (case a8 => k_is); (case l8 => k_is); (case e8 => k_is); (case k8 => k_is); (case a9 => k_is); (case l9 => k_is); (case e9 => k_is); (case k9 => k_is); (case a10 => k_is); (case l10 => k_is); (case e10 => k_is); (case k10 => k_is); (case a11 => k_is); (case l11 => k_is); (case e11 => k_is); (case k11 => k_is); (case a12 => k_is); (case l12 => k_is); (case e12 => k_is); (case k12 => k_is); (case a13 => k_is); (case l13 => k_is); (case e13 => k_is); (case k13 => k_is); (case a14 => k_is); (case l14 => k_is); (case e14 => k_is); (case k14 => k_is); (case a15 => k_is); (case l15 => k_is); (case e15 => k_is); (case k15 => k_is); (case a16 => k_is); (case l16 => k_is); (case e16 => k_is); (case k16 => k_is); (case a17 => k_is); (case l17 => k_is); (case e17 => k_is); (case k17 => k_is); (case a18 => k_is); (case l18 => k_is); (case e18 => k_is); (case k18 => k_is); (case a19 => k_is); (case l19 => k_is); (case e19 => k_is); (case k19 => k_is); (case a20 => k_is); (case l20 => k_is); (case e20 => k_is); (case k20 => k_is); (case a21 => k_is); (case l21 => k_is); (case e21 => k_is); (case k21 => k_is); (case a22 => k_is); (case l22 => k_is); (case e22 => k_is); (case k22 => k_is); (case a23 => k_is); (case l23 => k_is); (case e23 => k_is); (case k23 => k_is); (case aC0 => k_is); (case aC1 => k_is); (case aRR => k_is); (case rR => kernel_rfl); (case cR => k_is); (case iI0 => k_is); (case lI0 => k_is); (case eI0 => k_is); (case kI0 => k_is); (case xI0 => kernel_rfl); (case iI1 => k_is); (case lI1 => k_is); (case eI1 => k_is); (case kI1 => k_is); (case xI1 => kernel_rfl); (case y_BadSizes_BadSizes => kernel_rfl); (case y_BadSizes_BadDistance => kernel_rfl); (case y_BadDistance_BadSizes => kernel_rfl); (case y_BadDistance_BadDistance => kernel_rfl); (case z_abs => k_is); (case z_bool => k_is); (case z_enumerate => k_is); (case z_int => k_is); (case z_isinstance => k_is); (case z_len => k_is); (case z_list => k_is); (case z_max => k_is); (case z_range => k_is); (case z_str => k_is); (case z_sum => k_is); (case z_tuple => k_is); (case g_MOST_SIDE => k_is)
