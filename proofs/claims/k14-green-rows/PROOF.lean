import PyProof.Rows.All
import Wide.All
import OpenK.AllK
import Wide.FinOn
import HandS.ForMost
import HandS.Evl
import HandS.Walk
import HandS.TupAny
import HandS.IsInst
import KE.KTupSum
import KE.DataMinMax
import HandS.Star
import KE.KDictKeyed
import KE.KDictDisplayH
import KE.KDictWalk
import KE.KeyNested
import KE.GoesEnum
import HandS.Remove
import HandS.Conv
import PySem.Challenge.RW_dartwebs_k14_whole_green_rows
set_option Elab.async false
set_option linter.all false
set_option maxRecDepth 100000
set_option maxHeartbeats 1000000
/-! G1: things that stay (tuples, frozen lists), what a reading gives as a shape (Rp), evaluation to a shape (EvD). -/
namespace G
open PySem PySem.Spec PyProof.Rows L2 Evl

/-! ### fixed objects -/
def Imm : HO → Prop
  | .tup _ => True
  | .frz _ _ => True
  | _ => False
def Fz (H H' : Hp) : Prop := ∀ a o, Imm o → H a = some o → H' a = some o
theorem Fz.refl (H : Hp) : Fz H H := fun _ _ _ h => h
theorem Fz.trans {H H1 H2 : Hp} (a : Fz H H1) (b : Fz H1 H2) : Fz H H2 := fun x o i h => b x o i (a x o i h)
theorem Fz.ex {H H' : Hp} (e : Ex H H') : Fz H H' := fun x o _ h => e x o h
theorem Fz.new {H : Hp} {p : Addr} {u : HO} (h : H p = none) : Fz H (upd H p u) := fun a o _ e => by
  rw [upd_ne (ne_of_none e h)]
  exact e
theorem Fz.mut {H : Hp} {p : Addr} {o u : HO} (h : H p = some o) (hn : ¬ Imm o) : Fz H (upd H p u) := fun a x i e => by
  have : a ≠ p := fun z => by
    rw [z, h] at e
    cases e
    exact hn i
  rw [upd_ne this]
  exact e
theorem fz_t {K : PySem.W.Frag} {H H' : Hp} {a : Addr} {xs : List V} (e : Fz H H') (h : SqT K H a xs) : SqT K H' a xs := by
  rcases h with (h | ⟨o, h⟩) | h
  · exact .inl (.inl (e _ _ trivial h))
  · exact .inl (.inr ⟨o, e _ _ trivial h⟩)
  · exact .inr h
/-- a frozen list -/
def SqF (H : Hp) (a : Addr) (xs : List V) : Prop := ∃ o, H a = some (.frz o (.lst xs))
theorem fz_f {H H' : Hp} {a : Addr} {xs : List V} (e : Fz H H') (h : SqF H a xs) : SqF H' a xs := by
  obtain ⟨o, h⟩ := h
  exact ⟨o, e _ _ trivial h⟩
theorem SqF.l {K : PySem.W.Frag} {H : Hp} {a : Addr} {xs : List V} (h : SqF H a xs) : SqL K H a xs := .inl (.inr h)

/-! ### freezing -/
section
variable {X : Cx} {pins : List (Addr × Obj)} {σ : L2.St} {H : Hp} {s : Shared}
theorem inv_freeze (I : Inv X pins σ H s) {p : Addr} {xs : List V} (h : H p = some (.lst xs)) : ∃ o, Inv X pins σ (upd H p (.frz o (.lst xs))) s := by
  obtain ⟨z, its, n, r, e⟩ := I.hok p _ h
  have np : ∀ b, H b = none → b ≠ p := fun b n q => by
    rw [q, h] at n
    cases n
  refine ⟨{ cls := .type "list", data := .seq its.toArray n }, I.ok, I.os, I.bare, ?_, I.loc, I.cell, ?_, fun x c e => ?_, fun q hq => ?_, fun b u q => ?_, I.len⟩
  · refine ⟨I.base.keep, I.base.slot, fun b o e n hx => ?_, I.base.there, fun b ys q => ?_, fun b o u q => ?_, fun b ps q => ?_⟩
    · have m := I.base.free b o e n hx
      rw [upd_ne (np b m)]
      exact m
    · have m := I.base.tups b ys q
      rw [upd_ne (ne_of m h (by intro q; cases q))]
      exact m
    · have m := I.base.frzs b o u q
      rw [upd_ne (ne_of m h (by intro q; cases q))]
      exact m
    · obtain ⟨more, m⟩ := I.base.tbls b ps q
      refine ⟨more, ?_⟩
      rw [upd_ne (ne_of m h (by intro q; cases q))]
      exact m
  · rw [upd_ne (np _ I.free)]
    exact I.free
  · rw [upd_ne (np _ (I.freeC x c e))]
    exact I.freeC x c e
  · obtain ⟨a, b, c⟩ := I.pin q hq
    refine ⟨a, ?_, c⟩
    rw [upd_ne (np _ b)]
    exact b
  · by_cases hb : b = p
    · subst hb
      rw [upd_same] at q
      cases q
      exact ⟨e, z, its, n, r, e⟩
    · rw [upd_ne hb] at q
      refine (I.hok b u q).stay (fun _ _ _ x => x) (fun c q => ?_) fun c ys q => ?_
      · rw [upd_ne (ne_of q h (by intro q; cases q))]
        exact q
      · rw [upd_ne (ne_of q h (by intro q; cases q))]
        exact q
/-- lists become fixed, then k -/
inductive Gh : Hp → (Hp → Prop) → Prop
  | done {H : Hp} {k : Hp → Prop} : k H → Gh H k
  | frz {H : Hp} {k : Hp → Prop} (p : Addr) (xs : List V) : H p = some (.lst xs) → (∀ o, Gh (upd H p (.frz o (.lst xs))) k) → Gh H k
theorem Gh.run {k : Hp → Prop} (g : Gh H k) : Inv X pins σ H s → ∃ H', Inv X pins σ H' s ∧ k H' := by
  induction g with
  | done h => exact fun I => ⟨_, I, h⟩
  | frz p xs h _ ih =>
    intro I
    obtain ⟨o, J⟩ := inv_freeze I h
    exact ih o J
def tGhE (t : TE) : TE := fun σ H Q => t σ H fun v H1 => Gh H1 (Q v)
theorem pe_gh {e : Expr} {t : TE} (h : PE X e t) : PE X e (tGhE t) := by
  refine ⟨fun pins s σ H Q I q => ?_⟩
  refine thn (h.run pins s σ H _ I q) fun u s1 ⟨v, H1, I1, r1, q1⟩ => ?_
  obtain ⟨H2, I2, q2⟩ := q1.run I1
  exact ⟨v, H2, I2, r1, q2⟩
def tGhS (t : TS) : TS := fun D σ H => t { D with nx := fun σ' H' => Gh H' (D.nx σ') } σ H
theorem ps_gh {st : Stmt} {t : TS} (h : PS X st t) : PS X st (tGhS t) := by
  refine ⟨fun pins s σ H D I q => ?_⟩
  refine thn (h.run pins s σ H _ I q) fun f s1 q1 => ?_
  cases f with
  | next =>
    obtain ⟨σ', H', I', q'⟩ := q1
    obtain ⟨H2, I2, q2⟩ := q'.run I'
    exact ⟨σ', H2, I2, q2⟩
  | ret v => exact q1
  | brk => exact q1
  | cont => exact q1
/-- an expression whose value is a new list: it is frozen -/
def tFr (t : TE) : TE := fun σ H Q => t σ H fun v H1 => ∃ p xs, v = .ref p ∧ H1 p = some (.lst xs) ∧ ∀ o, Q (.ref p) (upd H1 p (.frz o (.lst xs)))
theorem pe_fr {e : Expr} {t : TE} (h : PE X e t) : PE X e (tFr t) := by
  refine ⟨fun pins s σ H Q I q => ?_⟩
  refine thn (h.run pins s σ H _ I q) fun u s1 ⟨v, H1, I1, r1, q1⟩ => ?_
  obtain ⟨p, xs, rfl, hp, q1⟩ := q1
  obtain ⟨o, I2⟩ := inv_freeze I1 hp
  exact ⟨.ref p, _, I2, r1, q1 o⟩
end

/-! ### shapes -/
structure Rp where
  is : V → Hp → Prop
  mono : ∀ {v : V} {H H' : Hp}, Fz H H' → is v H → is v H'
abbrev All2 (Rs : List Rp) (vs : List V) (H : Hp) : Prop := Paired (fun (R : Rp) v => R.is v H) Rs vs
theorem All2.mono {H H' : Hp} (e : Fz H H') : ∀ {Rs : List Rp} {vs : List V}, All2 Rs vs H → All2 Rs vs H'
  | _, _, .nil => .nil
  | _, _, .cons h t => .cons (Rp.mono _ e h) (All2.mono e t)
theorem All2.length {H : Hp} {Rs : List Rp} {vs : List V} (h : All2 Rs vs H) : Rs.length = vs.length := Paired.length h
theorem All2.get {H : Hp} : ∀ {Rs : List Rp} {vs : List V} {i : Nat} {R : Rp}, All2 Rs vs H → Rs[i]? = some R → ∃ v, vs[i]? = some v ∧ R.is v H
  | _, _, _, _, .nil, e => by simp at e
  | _, _, 0, _, .cons r _, e => by simp at e; subst e; exact ⟨_, rfl, r⟩
  | _, _, i + 1, R, .cons _ t, e => by
    obtain ⟨u, h1, h2⟩ := All2.get (i := i) (R := R) t (by simpa using e)
    exact ⟨u, by simpa using h1, h2⟩
theorem All2.getV {H : Hp} : ∀ {Rs : List Rp} {vs : List V} {i : Nat} {v : V}, All2 Rs vs H → vs[i]? = some v → ∃ R, Rs[i]? = some R ∧ R.is v H
  | _, _, _, _, .nil, e => by simp at e
  | _, _, 0, _, .cons r _, e => by simp at e; subst e; exact ⟨_, rfl, r⟩
  | _, _, i + 1, v, .cons _ t, e => by
    obtain ⟨u, h1, h2⟩ := All2.getV (i := i) (v := v) t (by simpa using e)
    exact ⟨u, by simpa using h1, h2⟩
theorem All2.append {H : Hp} : ∀ {Rs Ss : List Rp} {vs ws : List V}, All2 Rs vs H → All2 Ss ws H → All2 (Rs ++ Ss) (vs ++ ws) H
  | _, _, _, _, .nil, s => s
  | _, _, _, _, .cons r t, s => .cons r (All2.append t s)
theorem All2.snoc {H : Hp} {Rs : List Rp} {vs : List V} {R : Rp} {v : V} (h : All2 Rs vs H) (r : R.is v H) : All2 (Rs ++ [R]) (vs ++ [v]) H := All2.append h (.cons r .nil)
/-- a given value -/
def Rp.v (x : V) : Rp := ⟨fun v _ => v = x, fun _ h => h⟩
abbrev Rp.int (i : Int) : Rp := Rp.v (.int i)
abbrev Rp.bl (b : Bool) : Rp := Rp.v (.bl b)
abbrev Rp.non : Rp := Rp.v .non
def Rp.tup (K : PySem.W.Frag) (Rs : List Rp) : Rp := ⟨fun v H => ∃ p vs, v = .ref p ∧ SqT K H p vs ∧ All2 Rs vs H, fun e ⟨p, vs, a, b, c⟩ => ⟨p, vs, a, fz_t e b, c.mono e⟩⟩
def Rp.lst (Rs : List Rp) : Rp := ⟨fun v H => ∃ p vs, v = .ref p ∧ SqF H p vs ∧ All2 Rs vs H, fun e ⟨p, vs, a, b, c⟩ => ⟨p, vs, a, fz_f e b, c.mono e⟩⟩
/-- a tuple or a frozen list -/
def Rp.seq (K : PySem.W.Frag) (Rs : List Rp) : Rp := ⟨fun v H => ∃ p vs, v = .ref p ∧ (SqF H p vs ∨ SqT K H p vs) ∧ All2 Rs vs H, fun e ⟨p, vs, a, b, c⟩ => ⟨p, vs, a, b.imp (fz_f e) (fz_t e), c.mono e⟩⟩
theorem Rp.tup_seq {K : PySem.W.Frag} {Rs : List Rp} {v : V} {H : Hp} (h : (Rp.tup K Rs).is v H) : (Rp.seq K Rs).is v H := let ⟨p, vs, a, b, c⟩ := h; ⟨p, vs, a, .inr b, c⟩
theorem Rp.lst_seq {K : PySem.W.Frag} {Rs : List Rp} {v : V} {H : Hp} (h : (Rp.lst Rs).is v H) : (Rp.seq K Rs).is v H := let ⟨p, vs, a, b, c⟩ := h; ⟨p, vs, a, .inl b, c⟩
/-- one shape is another -/
def Rp.le (R S : Rp) : Prop := ∀ v H, R.is v H → S.is v H
theorem All2.le {H : Hp} : ∀ {Rs Ss : List Rp} {vs : List V}, All2 Rs vs H → Rs.length = Ss.length → (∀ (i : Nat) (R S : Rp), Rs[i]? = some R → Ss[i]? = some S → R.le S) → All2 Ss vs H
  | _, [], _, .nil, _, _ => .nil
  | _, [], _, .cons _ _, e, _ => by simp at e
  | _, _ :: _, _, .nil, e, _ => by simp at e
  | _, S :: Ss, _, .cons r t, e, h => .cons (h 0 _ S rfl rfl _ _ r) (All2.le t (by simpa using e) fun i R S' h1 h2 => h (i + 1) R S' (by simpa using h1) (by simpa using h2))
theorem All2.lemap {α : Type} {f g : α → Rp} {H : Hp} (h : ∀ a, (f a).le (g a)) {xs : List α} {vs : List V} (a : All2 (xs.map f) vs H) : All2 (xs.map g) vs H :=
  a.le (by simp) fun i R S h1 h2 => by
    rw [List.getElem?_map] at h1 h2
    cases e : xs[i]? with
    | none => rw [e] at h1; cases h1
    | some x =>
      rw [e] at h1 h2
      cases h1
      cases h2
      exact h x
theorem all2_ints {H : Hp} : ∀ {ns : List Int} {vs : List V}, All2 (ns.map Rp.int) vs H → vs = ns.map V.int
  | [], _, .nil => rfl
  | n :: ns, _, .cons h t => by
    rw [all2_ints (ns := ns) t, show _ = V.int n from h]
    rfl
theorem ints_all2 {H : Hp} : ∀ (ns : List Int), All2 (ns.map Rp.int) (ns.map V.int) H
  | [] => .nil
  | _ :: ns => .cons rfl (ints_all2 ns)
theorem all2_bls {H : Hp} : ∀ {ns : List Bool} {vs : List V}, All2 (ns.map Rp.bl) vs H → vs = ns.map V.bl
  | [], _, .nil => rfl
  | n :: ns, _, .cons h t => by
    rw [all2_bls (ns := ns) t, show _ = V.bl n from h]
    rfl
/-! rows, tables -/
section
variable (K : PySem.W.Frag)
abbrev rowT (r : List Int) : Rp := Rp.tup K (r.map Rp.int)
abbrev rowL (r : List Int) : Rp := Rp.lst (r.map Rp.int)
abbrev rowS (r : List Int) : Rp := Rp.seq K (r.map Rp.int)
abbrev matT (m : List (List Int)) : Rp := Rp.tup K (m.map (rowT K))
abbrev matL (m : List (List Int)) : Rp := Rp.lst (m.map rowL)
abbrev matS (m : List (List Int)) : Rp := Rp.seq K (m.map (rowS K))
end
theorem rowT_S {K : PySem.W.Frag} (r : List Int) : (rowT K r).le (rowS K r) := fun _ _ => Rp.tup_seq
theorem rowL_S {K : PySem.W.Frag} (r : List Int) : (rowL r).le (rowS K r) := fun _ _ => Rp.lst_seq
theorem matT_S {K : PySem.W.Frag} (m : List (List Int)) : (matT K m).le (matS K m) := fun _ _ ⟨p, vs, a, b, c⟩ => ⟨p, vs, a, .inr b, c.lemap rowT_S⟩
theorem matL_S {K : PySem.W.Frag} (m : List (List Int)) : (matL m).le (matS K m) := fun _ _ ⟨p, vs, a, b, c⟩ => ⟨p, vs, a, .inl b, c.lemap rowL_S⟩
theorem rowT_sq {K : PySem.W.Frag} {r : List Int} {v : V} {H : Hp} (h : (rowT K r).is v H) : ∃ p, v = .ref p ∧ SqT K H p (r.map V.int) := by
  obtain ⟨p, vs, a, b, c⟩ := h
  rw [all2_ints c] at b
  exact ⟨p, a, b⟩
theorem rowL_sq {K : PySem.W.Frag} {r : List Int} {v : V} {H : Hp} (h : (rowL r).is v H) : ∃ p, v = .ref p ∧ SqL K H p (r.map V.int) := by
  obtain ⟨p, vs, a, b, c⟩ := h
  rw [all2_ints c] at b
  exact ⟨p, a, b.l⟩
theorem rowS_sq {K : PySem.W.Frag} {r : List Int} {v : V} {H : Hp} (h : (rowS K r).is v H) : ∃ p, v = .ref p ∧ (SqL K H p (r.map V.int) ∨ SqT K H p (r.map V.int)) := by
  obtain ⟨p, vs, a, b, c⟩ := h
  rw [all2_ints c] at b
  exact ⟨p, a, b.imp SqF.l id⟩

/-! ### evaluation to a shape -/
def EvD (te : TE) (σ : L2.St) (H : Hp) (R : Rp) : Prop := ∀ H1, Ex H H1 → ∀ Q : VK, (∀ v H2, Ex H1 H2 → R.is v H2 → Q v H2) → te σ H1 Q
def EvDA (ta : TA) (σ : L2.St) (H : Hp) (Rs : List Rp) : Prop := ∀ H1, Ex H H1 → ∀ Q : List V → Hp → Prop, (∀ vs H2, Ex H1 H2 → All2 Rs vs H2 → Q vs H2) → ta σ H1 Q
section
variable {K : PySem.W.Frag} {σ : L2.St} {H H' : Hp} {ta tb te tx : TE} {t u : TT} {R S A B : Rp} {r : R2} {tr : TA}
theorem EvD.up (e : Ex H H') (h : EvD te σ H R) : EvD te σ H' R := fun H1 a Q q => h H1 (e.trans a) Q q
theorem EvD.le (h : EvD te σ H R) (l : R.le S) : EvD te σ H S := fun H1 a Q q => h H1 a Q fun v H2 e r => q v H2 e (l v H2 r)
theorem EvD.go {Q : VK} (h : EvD te σ H R) (k : ∀ v H2, Ex H H2 → R.is v H2 → Q v H2) : te σ H Q := h H (Ex.refl H) Q k
theorem EvDA.go {Q : List V → Hp → Prop} {Rs : List Rp} (h : EvDA tr σ H Rs) (k : ∀ v H2, Ex H H2 → All2 Rs v H2 → Q v H2) : tr σ H Q := h H (Ex.refl H) Q k
theorem t_go {Q : Bool → Hp → Prop} {b : Bool} (h : EvT t σ H b) (k : ∀ H2, Ex H H2 → Q b H2) : t σ H Q := h H (Ex.refl H) Q k
theorem t_up {b : Bool} (e : Ex H H') (h : EvT t σ H b) : EvT t σ H' b := fun H1 a Q q => h H1 (e.trans a) Q q
theorem EvDA.up {Rs : List Rp} (e : Ex H H') (h : EvDA tr σ H Rs) : EvDA tr σ H' Rs := fun H1 a Q q => h H1 (e.trans a) Q q
theorem d_var {i : Nat} {v : V} (h : σ[i]? = some (some v)) (r : R.is v H) : EvD (tVar i) σ H R := fun H1 e _ q => ⟨v, h, q v H1 (Ex.refl H1) (R.mono (Fz.ex e) r)⟩
theorem d_varV {i : Nat} {v : V} (h : σ[i]? = some (some v)) : EvD (tVar i) σ H (.v v) := d_var h rfl
theorem d_c {v : V} : EvD (tC v) σ H (.v v) := fun H1 _ _ q => q _ H1 (Ex.refl H1) rfl
theorem d_is {v w : V} (h : EvD te σ H (.v v)) (e : v = w) : EvD te σ H (.v w) := e ▸ h
theorem d_I0 {g : Int → Int → V} {i j : Int} (ha : EvD ta σ H (.int i)) (hb : EvD tb σ H (.int j)) : EvD (tOp (rI0 g) ta tb) σ H (.v (g i j)) := fun H1 e Q q =>
  ha H1 e _ fun v H2 e2 r2 => hb H2 (e.trans e2) _ fun w H3 e3 r3 => ⟨i, j, r2, r3, q _ H3 (e2.trans e3) rfl⟩
theorem d_I {C : Int → Int → Prop} {g : Int → Int → V} {i j : Int} (hc : C i j) (ha : EvD ta σ H (.int i)) (hb : EvD tb σ H (.int j)) : EvD (tOp (rI C g) ta tb) σ H (.v (g i j)) := fun H1 e Q q =>
  ha H1 e _ fun v H2 e2 r2 => hb H2 (e.trans e2) _ fun w H3 e3 r3 => ⟨i, j, r2, r3, hc, q _ H3 (e2.trans e3) rfl⟩
theorem d_neg {g : Int → V} {i : Int} (ha : EvD ta σ H (.int i)) : EvD (tUn (rU g) ta) σ H (.v (g i)) := fun H1 e Q q =>
  ha H1 e _ fun v H2 e2 r2 => ⟨i, r2, q _ H2 e2 rfl⟩
theorem d_eq {x y : V} (hs : scal x y = true) (ha : EvD ta σ H (.v x)) (hb : EvD tb σ H (.v y)) : EvD (tOp rEq ta tb) σ H (.bl (decide (x = y))) := fun H1 e Q q =>
  ha H1 e _ fun v H2 e2 r2 => hb H2 (e.trans e2) _ fun w H3 e3 r3 => by
    obtain rfl : v = x := r2
    obtain rfl : w = y := r3
    exact ⟨hs, q _ H3 (e2.trans e3) rfl⟩
theorem d_ne {x y : V} (hs : scal x y = true) (ha : EvD ta σ H (.v x)) (hb : EvD tb σ H (.v y)) : EvD (tOp rNe ta tb) σ H (.bl (!decide (x = y))) := fun H1 e Q q =>
  ha H1 e _ fun v H2 e2 r2 => hb H2 (e.trans e2) _ fun w H3 e3 r3 => by
    obtain rfl : v = x := r2
    obtain rfl : w = y := r3
    exact ⟨hs, q _ H3 (e2.trans e3) rfl⟩
/-- x[i] -/
theorem d_ix {Rs : List Rp} {j : Nat} (ha : EvD ta σ H (.seq K Rs)) (hb : EvD tb σ H (.int (j : Int))) (hj : Rs[j]? = some R) : EvD (tOp (rIx K) ta tb) σ H R := fun H1 e Q q =>
  ha H1 e _ fun v H2 e2 r2 => hb H2 (e.trans e2) _ fun w H3 e3 r3 => by
    obtain ⟨p, vs, rfl, b, c⟩ := r2
    obtain rfl : w = .int (j : Int) := r3
    obtain ⟨x, hx, rx⟩ := c.get hj
    have k := q x H3 (e2.trans e3) (R.mono (Fz.ex e3) rx)
    rcases b with b | b
    · exact .inl ⟨p, vs, _, x, rfl, rfl, (fz_f (Fz.ex e3) b).l, atI_nat hx, k⟩
    · exact .inr (.inl ⟨p, vs, _, x, rfl, rfl, fz_t (Fz.ex e3) b, atI_nat hx, k⟩)
theorem d_nil : EvDA tNil σ H [] := fun H1 _ _ q => q _ H1 (Ex.refl H1) .nil
theorem d_cons {Rs : List Rp} (h : EvD ta σ H R) (hr : EvDA tr σ H Rs) : EvDA (tCons ta tr) σ H (R :: Rs) := fun H1 e _ q =>
  h H1 e _ fun v H2 e2 r2 => hr H2 (e.trans e2) _ fun vs H3 e3 r3 => q _ H3 (e2.trans e3) (.cons (R.mono (Fz.ex e3) r2) r3)
theorem d_tup {Rs : List Rp} (h : EvDA tr σ H Rs) (hl : Rs.length ≤ 100000) : EvD (tTup tr) σ H (.tup K Rs) := fun H1 e _ q =>
  h H1 e _ fun vs H2 e2 r2 => ⟨sz_of (r2.length ▸ hl), fun p hp => q _ _ (e2.trans (Ex.new hp)) ⟨p, vs, rfl, SqT.of upd_same, r2.mono (Fz.new hp)⟩⟩
/-- what is new, then frozen -/
theorem Ex.frz {H H1 : Hp} {p : Addr} {u : HO} (e : Ex H H1) (h : H p = none) : Ex H (upd H1 p u) := Ex.mut e h
theorem d_lst {Rs : List Rp} (h : EvDA tr σ H Rs) (hl : Rs.length ≤ 100000) : EvD (tFr (tLst tr)) σ H (.lst Rs) := fun H1 e _ q =>
  h H1 e _ fun vs H2 e2 r2 => ⟨sz_of (r2.length ▸ hl), fun p hp => ⟨p, vs, rfl, upd_same, fun o => by
    rw [upd_upd]
    exact q _ _ (e2.trans (Ex.new hp)) ⟨p, vs, rfl, ⟨o, upd_same⟩, r2.mono (Fz.new hp)⟩⟩⟩
/-- a call, by what is true of the callee's promise -/
theorem d_call {sp : Sp} {E : XK} {Rs : List Rp} (h : EvDA tr σ H Rs) (hs : ∀ vs H1, Ex H H1 → All2 Rs vs H1 → ∀ Q : VK, (∀ v H2, Ex H1 H2 → R.is v H2 → Q v H2) → sp vs H1 Q E) : EvD (tCall sp [] E tr) σ H R := fun H1 e Q q =>
  h H1 e _ fun vs H2 e2 r2 => by
    rw [List.append_nil]
    exact hs vs H2 (e.trans e2) r2 Q fun v H3 e3 r3 => q v H3 (e2.trans e3) r3
/-- a built-in called -/
theorem d_cb {rr : List V → Hp → VK → Prop} {Rs : List Rp} (h : EvDA tr σ H Rs) (hs : ∀ vs H1, Ex H H1 → All2 Rs vs H1 → ∀ Q : VK, (∀ v H2, Ex H1 H2 → R.is v H2 → Q v H2) → rr vs H1 Q) : EvD (tCB rr tr) σ H R := fun H1 e Q q =>
  h H1 e _ fun vs H2 e2 r2 => hs vs H2 (e.trans e2) r2 Q fun v H3 e3 r3 => q v H3 (e2.trans e3) r3
theorem d_test {b : Bool} (h : EvD te σ H (.bl b)) : EvT (tTest te) σ H b := fun H1 e _ q => h H1 e _ fun v H2 e2 r => ⟨b, r, q H2 e2⟩
theorem d_tB {b : Bool} (h : EvD te σ H (.bl b)) : EvT (tB te) σ H b := fun H1 e _ q => h H1 e _ fun v H2 e2 r => ⟨b, r, q H2 e2⟩
theorem d_if {b : Bool} (h : EvT t σ H b) (h1 : b = true → EvD ta σ H R) (h2 : b = false → EvD tb σ H R) : EvD (tIf t ta tb) σ H R := fun H1 e Q q => h H1 e _ fun H2 e2 => by
  cases b with
  | true =>
    show ta σ H2 Q
    exact h1 rfl H2 (e.trans e2) Q fun v H3 e3 => q v H3 (e2.trans e3)
  | false =>
    show tb σ H2 Q
    exact h2 rfl H2 (e.trans e2) Q fun v H3 e3 => q v H3 (e2.trans e3)
theorem d_andV {a b : Bool} (h1 : EvD ta σ H (.bl a)) (h2 : a = true → EvD tb σ H (.bl b)) : EvD (tAndV ta tb) σ H (.bl (a && b)) := fun H1 e Q q => h1 H1 e _ fun v H2 e2 r2 => ⟨a, r2, by
  cases a with
  | true =>
    show tb σ H2 Q
    exact h2 rfl H2 (e.trans e2) Q fun v H3 e3 => q v H3 (e2.trans e3)
  | false =>
    show Q (.bl false) H2
    exact q _ H2 e2 rfl⟩
theorem d_orV {a b : Bool} (h1 : EvD ta σ H (.bl a)) (h2 : a = false → EvD tb σ H (.bl b)) : EvD (tOrV ta tb) σ H (.bl (a || b)) := fun H1 e Q q => h1 H1 e _ fun v H2 e2 r2 => ⟨a, r2, by
  cases a with
  | true =>
    show Q (.bl true) H2
    exact q _ H2 e2 rfl
  | false =>
    show tb σ H2 Q
    exact h2 rfl H2 (e.trans e2) Q fun v H3 e3 => q v H3 (e2.trans e3)⟩
theorem d_notV {a : Bool} (h1 : EvD ta σ H (.bl a)) : EvD (tNotV ta) σ H (.bl (!a)) := fun H1 e _ q => h1 H1 e _ fun v H2 e2 r2 => ⟨a, r2, q _ H2 e2 rfl⟩
/-- a < b < c -/
theorem d_chainI {g g' : Int → Int → Bool} {tc : TE} {i j k : Int} (ha : EvD ta σ H (.int i)) (hb : EvD tb σ H (.int j)) (hc : EvD tc σ H (.int k)) :
    EvD (tChain (rI0 fun i j => .bl (g i j)) (rI0 fun i j => .bl (g' i j)) ta tb tc) σ H (.bl (g i j && g' j k)) := fun H1 e Q q =>
  ha H1 e _ fun v H2 e2 r2 => hb H2 (e.trans e2) _ fun w H3 e3 r3 => ⟨i, j, r2, r3, g i j, rfl, by
    cases hg : g i j with
    | true =>
      show tc σ H3 _
      exact hc H3 ((e.trans e2).trans e3) _ fun z H4 e4 r4 => ⟨j, k, r3, r4, q _ H4 ((e2.trans e3).trans e4) (show V.bl (g' j k) = V.bl (g i j && g' j k) by rw [hg]; rfl)⟩
    | false =>
      show Q (.bl false) H3
      exact q _ H3 (e2.trans e3) (show V.bl false = V.bl (g i j && g' j k) by rw [hg]; rfl)⟩
end
end G
set_option maxRecDepth 100000
set_option maxHeartbeats 1000000
/-! G2: what is walked (EvI), loops, comprehensions, built-ins, statements over shapes. -/
namespace G
open PySem PySem.Spec PyProof.Rows L2 Evl

/-! ### what is walked -/
structure WalkD (J : It) (H : Hp) (n : Nat) (E : Nat → Rp) : Prop where
  go : ∀ H' i, Fz H H' → i < n → J.go i H'
  stop : ∀ H', Fz H H' → J.stop n H'
  yld : ∀ H' i x H'', Fz H H' → i < n → J.yld i H' x H'' → Ex H' H'' ∧ (E i).is x H''
def EvI (wi : TI) (σ : L2.St) (H : Hp) (n : Nat) (E : Nat → Rp) : Prop := ∀ H1, Ex H H1 → ∀ R : It → Hp → Prop, (∀ J H2, Ex H1 H2 → WalkD J H2 n E → R J H2) → wi σ H1 R

def iSeq (K : PySem.W.Frag) (tl : TE) : TI := fun σ H R => tl σ H fun x H1 => ∃ a, x = .ref a ∧ (((∃ xs, SqL K H1 a xs) ∧ R (Itl K a) H1) ∨ ((∃ xs, SqT K H1 a xs) ∧ R (Itt K a) H1))
section
variable {X : Cx} {tg : Expr}
theorem pi_seq {l : Expr} {tl : TE} (hl : PE X l tl) : PI X tg l (iSeq X.K tl) := by
  refine ⟨fun pins s σ H R I h => ?_⟩
  refine thn (hl.run pins s σ H _ I h) fun v s1 ⟨x, H1, I1, r1, q1⟩ => ?_
  obtain ⟨a, e, q1⟩ := q1
  subst e
  cases r1
  rcases q1 with ⟨⟨xs, hq⟩, q⟩ | ⟨⟨xs, hq⟩, q⟩
  · obtain ⟨its, rv, p, hz⟩ := I1.list hq
    refine wpAny_pyIter_list p.isList ?_
    refine ⟨s1.heap.objs.size, [s1.heap.objs.size], _, _, H1, rfl, I1.kept (t' := s1.toks) fun b o e => Heap.get?_push_of_some _ e, turn_list a _, ⟨_, Heap.get?_push_size _ rfl, rfl, rfl⟩, fun b hb => ?_, q⟩
    have e : b = s1.heap.objs.size := by simpa using hb
    subst e
    exact I1.fpOk (Nat.le_refl _) (I1.hok.fresh (Nat.le_refl _))
  · obtain ⟨its, rv, p, hz⟩ := I1.tuple hq
    refine wpAny_pyIter_tuple (show s1.heap.IsTuple a its.toArray from p) ?_
    refine ⟨s1.heap.objs.size, [s1.heap.objs.size], _, _, H1, rfl, I1.kept (t' := s1.toks) fun b o e => Heap.get?_push_of_some _ e, turn_tuple a _, ⟨_, Heap.get?_push_size _ rfl, rfl, rfl⟩, fun b hb => ?_, q⟩
    have e : b = s1.heap.objs.size := by simpa using hb
    subst e
    exact I1.fpOk (Nat.le_refl _) (I1.hok.fresh (Nat.le_refl _))
end
section
variable {K : PySem.W.Frag} {σ : L2.St} {H H' : Hp} {ta tb te tl : TE} {tr : TA} {n : Nat} {E : Nat → Rp}
theorem EvI.up {wi : TI} (e : Ex H H') (h : EvI wi σ H n E) : EvI wi σ H' n E := fun H1 a Q q => h H1 (e.trans a) Q q
theorem i_rng1 {k : Int} (h : EvDA tr σ H [.int k]) (hk : 0 ≤ k) (hk2 : k ≤ 1000000) : EvI (iRng1 tr) σ H k.toNat (fun i => .int (i : Int)) := fun H1 e R q =>
  h H1 e _ fun vs H2 e2 r2 => by
    cases r2 with
    | cons r2 t =>
      cases t
      obtain rfl : _ = V.int k := r2
      refine ⟨k, rfl, by omega, by omega, q _ H2 e2 ⟨fun _ _ _ hi => hi, fun _ _ => Nat.le_refl _, fun H' i x H'' _ _ y => ?_⟩⟩
      obtain ⟨rfl, rfl⟩ := y
      exact ⟨Ex.refl _, by show V.int ((0 : Int) + (i : Int)) = V.int (i : Int); rw [Int.zero_add]⟩
theorem i_rng2 {j k : Int} (h : EvDA tr σ H [.int j, .int k]) (hj : 0 ≤ j) (hj2 : j ≤ 1000000) (hk : 0 ≤ k) (hk2 : k ≤ 1000000) : EvI (iRng2 tr) σ H (k - j).toNat (fun i => .int (j + (i : Int))) := fun H1 e R q =>
  h H1 e _ fun vs H2 e2 r2 => by
    cases r2 with
    | cons r2 t =>
      cases t with
      | cons r3 t =>
        cases t
        obtain rfl : _ = V.int j := r2
        obtain rfl : _ = V.int k := r3
        refine ⟨j, k, rfl, ⟨by omega, by omega, by omega, by omega⟩, q _ H2 e2 ⟨fun _ _ _ hi => hi, fun _ _ => Nat.le_refl _, fun H' i x H'' _ _ y => ?_⟩⟩
        obtain ⟨rfl, rfl⟩ := y
        exact ⟨Ex.refl _, rfl⟩
theorem walk_seqL {a : Addr} {vs : List V} {Rs : List Rp} (h : SqF H a vs) (r : All2 Rs vs H) (E : Nat → Rp) (hE : ∀ (i : Nat) (R : Rp), Rs[i]? = some R → R.le (E i)) : WalkD (Itl K a) H Rs.length E := by
  refine ⟨fun H' i f hi => ?_, fun H' f => ?_, fun H' i x H'' f hi y => ?_⟩
  · have hl := r.length
    exact ⟨vs, vs[i]'(by omega), (fz_f f h).l, by simp [show i < vs.length by omega]⟩
  · exact ⟨vs, (fz_f f h).l, by rw [r.length]; exact Nat.le_refl _⟩
  · obtain ⟨rfl, y⟩ := y
    have hx := y vs (fz_f f h).l
    obtain ⟨R, hR, hr⟩ := r.getV hx
    exact ⟨Ex.refl _, hE i R hR _ _ (R.mono f hr)⟩
theorem walk_seqT {a : Addr} {vs : List V} {Rs : List Rp} (h : SqT K H a vs) (r : All2 Rs vs H) (E : Nat → Rp) (hE : ∀ (i : Nat) (R : Rp), Rs[i]? = some R → R.le (E i)) : WalkD (Itt K a) H Rs.length E := by
  refine ⟨fun H' i f hi => ?_, fun H' f => ?_, fun H' i x H'' f hi y => ?_⟩
  · have hl := r.length
    exact ⟨vs, vs[i]'(by omega), fz_t f h, by simp [show i < vs.length by omega]⟩
  · exact ⟨vs, fz_t f h, by rw [r.length]; exact Nat.le_refl _⟩
  · obtain ⟨rfl, y⟩ := y
    have hx := y vs (fz_t f h)
    obtain ⟨R, hR, hr⟩ := r.getV hx
    exact ⟨Ex.refl _, hE i R hR _ _ (R.mono f hr)⟩
theorem i_seq {Rs : List Rp} {E : Nat → Rp} (h : EvD tl σ H (.seq K Rs)) (hE : ∀ (i : Nat) (R : Rp), Rs[i]? = some R → R.le (E i)) : EvI (iSeq K tl) σ H Rs.length E := fun H1 e R q =>
  h H1 e _ fun v H2 e2 r2 => by
    obtain ⟨p, vs, rfl, b, c⟩ := r2
    rcases b with b | b
    · exact ⟨p, rfl, .inl ⟨⟨vs, b.l⟩, q _ H2 e2 (walk_seqL b c E hE)⟩⟩
    · exact ⟨p, rfl, .inr ⟨⟨vs, b⟩, q _ H2 e2 (walk_seqT b c E hE)⟩⟩
/-- over a homogeneous one -/
theorem i_map {α : Type} {xs : List α} {P : α → Rp} (d : α) (h : EvD tl σ H (.seq K (xs.map P))) : EvI (iSeq K tl) σ H xs.length (fun i => P (xs.getD i d)) := by
  have q := i_seq (E := fun i => P (xs.getD i d)) h fun i R e => by
    rw [List.getElem?_map] at e
    cases hx : xs[i]? with
    | none => rw [hx] at e; cases e
    | some x =>
      rw [hx] at e
      cases e
      show (P x).le (P (xs.getD i d))
      rw [List.getD_eq_getElem?_getD, hx]
      exact fun _ _ h => h
  rw [List.length_map] at q
  exact q
end
/-! range-lists and maps -/
theorem map_range_getD {α β : Type} (d : α) (f : α → β) : ∀ xs : List α, (List.range xs.length).map (fun i => f (xs.getD i d)) = xs.map f := by
  intro xs
  refine List.ext_getElem (by simp) fun i h1 h2 => ?_
  have h3 : i < xs.length := by simpa using h2
  simp [h3]
theorem filter_range_getD {α β : Type} (d : α) (p : α → Bool) (f : α → β) : ∀ xs : List α, ((List.range xs.length).filter fun i => p (xs.getD i d)).map (fun i => f (xs.getD i d)) = (xs.filter p).map f := by
  intro xs
  induction xs with
  | nil => rfl
  | cons x xs ih =>
    rw [List.length_cons, List.range_succ_eq_map, List.filter_cons, List.filter_cons]
    have e : (List.map Nat.succ (List.range xs.length)).filter (fun i => p ((x :: xs).getD i d)) = ((List.range xs.length).filter (fun i => p (xs.getD i d))).map Nat.succ := by
      rw [List.filter_map]
      rfl
    rw [e]
    have e2 : (((List.range xs.length).filter (fun i => p (xs.getD i d))).map Nat.succ).map (fun i => f ((x :: xs).getD i d)) = (xs.filter p).map f := by
      rw [← ih, List.map_map]
      rfl
    have e3 : (x :: xs).getD 0 d = x := rfl
    rw [e3]
    split
    · rw [List.map_cons, List.map_cons, e2]
      rfl
    · exact e2

/-! ### comprehensions -/
section
variable {K : PySem.W.Frag} {σ : L2.St} {H H' : Hp} {ta tb te tl : TE} {t tt : TT} {tr : TA} {n : Nat} {E : Nat → Rp} {wi wi1 : TI}
/-- what is kept so far -/
def kept (n : Nat) (k : Nat → Bool) (o : Nat → Rp) : List Rp := ((List.range n).filter k).map o
theorem kept_yes {n : Nat} {k : Nat → Bool} {o : Nat → Rp} (h : k n = true) : kept (n + 1) k o = kept n k o ++ [o n] := by
  unfold kept
  rw [List.range_succ, List.filter_append, List.map_append, List.filter_cons, if_pos h]
  rfl
theorem kept_no {n : Nat} {k : Nat → Bool} {o : Nat → Rp} (h : k n = false) : kept (n + 1) k o = kept n k o := by
  unfold kept
  rw [List.range_succ, List.filter_append, List.map_append, List.filter_cons, if_neg (by rw [h]; decide)]
  show _ ++ [] = _
  rw [List.append_nil]
theorem kept_len (n : Nat) (k : Nat → Bool) (o : Nat → Rp) : (kept n k o).length ≤ n := by
  unfold kept
  rw [List.length_map]
  have h := List.length_filter_le k (List.range n)
  rw [List.length_range] at h
  exact h
/-- the list at D so far -/
def LcW (H : Hp) (D : Addr) (Rs : List Rp) (H' : Hp) : Prop := H D = none ∧ Ex H H' ∧ ∃ acc, H' D = some (.lst acc) ∧ All2 Rs acc H'
theorem LcW.fz {D : Addr} {Rs : List Rp} (w : LcW H D Rs H') : Fz H H' := Fz.ex w.2.1
theorem LcW.back {D : Addr} {Rs : List Rp} {H2 : Hp} (w : LcW H D Rs H2) (e : Ex H' H) : LcW H' D Rs H2 :=
  let ⟨a, b, c⟩ := w
  ⟨fresh_back e a, e.trans b, c⟩
theorem LcW.start {D : Addr} (h : H D = none) : LcW H D [] (upd H D (.lst [])) := ⟨h, Ex.new h, [], upd_same, .nil⟩
theorem LcW.ext {D : Addr} {Rs : List Rp} {H2 : Hp} (w : LcW H D Rs H') (e : Ex H' H2) : LcW H D Rs H2 :=
  let ⟨a, b, acc, c, d⟩ := w
  ⟨a, b.trans e, acc, e _ _ c, d.mono (Fz.ex e)⟩
theorem LcW.push {D : Addr} {Rs : List Rp} {R : Rp} {y : V} (w : LcW H D Rs H') (r : R.is y H') (hl : Rs.length ≤ 1000000) :
    ∃ acc, H' D = some (.lst acc) ∧ acc.length < sizeLine ∧ LcW H D (Rs ++ [R]) (upd H' D (.lst (acc ++ [y]))) := by
  obtain ⟨a, b, acc, c, d⟩ := w
  have f : Fz H' (upd H' D (.lst (acc ++ [y]))) := Fz.mut c fun z => z
  refine ⟨acc, c, ?_, a, Ex.mut b a, _, upd_same, (d.mono f).snoc (R.mono f r)⟩
  rw [← d.length]
  exact Nat.lt_of_le_of_lt hl (by decide)
/-- frozen at the end -/
theorem LcW.fr {D : Addr} {Rs : List Rp} {o : Obj} (w : LcW H D Rs H') : ∀ acc, H' D = some (.lst acc) → Ex H (upd H' D (.frz o (.lst acc))) ∧ (Rp.lst Rs).is (.ref D) (upd H' D (.frz o (.lst acc))) := fun acc h => by
  obtain ⟨a, b, acc', c, d⟩ := w
  rw [h] at c
  cases c
  exact ⟨Ex.mut b a, D, acc, rfl, ⟨o, upd_same⟩, d.mono (Fz.mut h fun z => z)⟩
/-- a new list of these shapes -/
def EvN (te : TE) (σ : L2.St) (H : Hp) (Rs : List Rp) : Prop := ∀ H1, Ex H H1 → ∀ Q : VK, (∀ D H2, LcW H1 D Rs H2 → Q (.ref D) H2) → te σ H1 Q
theorem EvN.d {Rs : List Rp} (h : EvN te σ H Rs) : EvD (tFr te) σ H (.lst Rs) := fun H1 e Q q => h H1 e _ fun D H2 w => by
  obtain ⟨_, _, acc, hacc, _⟩ := id w
  refine ⟨D, acc, rfl, hacc, fun ob => ?_⟩
  obtain ⟨h1, h2⟩ := w.fr (o := ob) acc hacc
  exact q _ _ h1 h2
theorem n_lc {g : TG} {vs : List Nat} (hI : EvI wi σ H n E) (k : Nat → Bool) (o : Nat → Rp) (hn : n ≤ 1000000)
    (hb : ∀ (i : Nat) (x : V) H1, Ex H H1 → i < n → (E i).is x H1 → g x (wipe σ vs) H1 fun σ2 H2 => Ex H1 H2 ∧ wipe σ2 vs = wipe σ vs ∧ EvT tt σ2 H2 (k i) ∧ (k i = true → EvD te σ2 H2 (o i)))
    (hg : ∀ (x : V) (σ : L2.St) (H : Hp) (A B : L2.St → Hp → Prop), (∀ σ H, A σ H → B σ H) → g x σ H A → g x σ H B) :
    EvN (tLc wi g tt te vs) σ H (kept n k o) := fun H1 e Q q =>
  hI H1 e _ fun J H2 e2 w => fun D hD => by
    have turn : ∀ (i : Nat) (x : V) H3 H4 (Nx : Hp → Prop), i < n → LcW H2 D (kept i k o) H3 → Ex H3 H4 → (E i).is x H4 → (∀ H', LcW H2 D (kept (i + 1) k o) H' → Nx H') →
        g x (wipe σ vs) H4 fun σ2 H5 => wipe σ2 vs = wipe σ vs ∧ tt σ2 H5 fun b H6 =>
          if b = true then te σ2 H6 fun y H7 => ∃ acc, H7 D = some (.lst acc) ∧ acc.length < sizeLine ∧ Nx (upd H7 D (.lst (acc ++ [y]))) else Nx H6 := by
      intro i x H3 H4 Nx hi p e4 hx hN
      refine hg x _ _ _ _ ?_ (hb i x H4 (((e.trans e2).trans p.2.1).trans e4) hi hx)
      rintro σ2 H5 ⟨e5, hw, ht, he⟩
      refine ⟨hw, t_go ht fun H6 e6 => ?_⟩
      have p6 := ((p.ext e4).ext e5).ext e6
      cases hk : k i with
      | true =>
        show te σ2 H6 fun y H7 => ∃ acc, H7 D = some (.lst acc) ∧ acc.length < sizeLine ∧ Nx (upd H7 D (.lst (acc ++ [y])))
        refine ((he hk).up e6).go fun y H7 e7 r7 => ?_
        obtain ⟨acc, h1, h2, h3⟩ := (p6.ext e7).push r7 (by have := kept_len i k o; omega)
        rw [← kept_yes hk] at h3
        exact ⟨acc, h1, h2, hN _ h3⟩
      | false =>
        show Nx H6
        rw [← kept_no (o := o) hk] at p6
        exact hN _ p6
    refine ⟨fun i m H' => m = n - i ∧ i ≤ n ∧ LcW H2 D (kept i k o) H', ⟨n, by simp, Nat.zero_le _, LcW.start hD⟩, ?_⟩
    rintro i m H3 ⟨rfl, hi, p⟩
    by_cases hlt : i < n
    · refine .inr ⟨w.go H3 i p.fz hlt, fun H' => LcW H2 D (kept (i + 1) k o) H', fun H' p' => ⟨n - (i + 1), by omega, rfl, hlt, p'⟩, fun x H4 y => ?_⟩
      obtain ⟨e4, hx⟩ := w.yld H3 i x H4 p.fz hlt y
      exact turn i x H3 H4 _ hlt p e4 hx fun _ h => h
    · have e0 : i = n := by omega
      subst e0
      exact .inl ⟨w.stop H3 p.fz, q D H3 (p.back e2)⟩
/-- the target a name -/
theorem n_lcN {vs : List Nat} {j : Nat} (hI : EvI wi σ H n E) (k : Nat → Bool) (o : Nat → Rp) (hn : n ≤ 1000000) (hw : ∀ x, wipe ((wipe σ vs).set j (some x)) vs = wipe σ vs)
    (ht : ∀ (i : Nat) (x : V) H1, Ex H H1 → i < n → (E i).is x H1 → EvT tt ((wipe σ vs).set j (some x)) H1 (k i))
    (he : ∀ (i : Nat) (x : V) H1, Ex H H1 → i < n → k i = true → (E i).is x H1 → EvD te ((wipe σ vs).set j (some x)) H1 (o i)) :
    EvN (tLc wi (gName j) tt te vs) σ H (kept n k o) :=
  n_lc hI k o hn (fun i x H1 e hi hx => ⟨Ex.refl _, hw x, ht i x H1 e hi hx, fun hk => he i x H1 e hi hk hx⟩) (fun x σ H A B hAB h => hAB _ _ h)
theorem kept_all (n : Nat) (o : Nat → Rp) : kept n (fun _ => true) o = (List.range n).map o := by
  unfold kept
  rw [List.filter_eq_self.mpr (fun _ _ => rfl)]
def tYes' : TT := fun _ H Q => Q true H
theorem t_yes {σ : L2.St} {H : Hp} : EvT (fun _ H Q => Q true H) σ H true := fun H1 _ _ q => q H1 (Ex.refl H1)
theorem d_lcN {vs : List Nat} {j : Nat} (hI : EvI wi σ H n E) (k : Nat → Bool) (o : Nat → Rp) (hn : n ≤ 1000000) (hw : ∀ x, wipe ((wipe σ vs).set j (some x)) vs = wipe σ vs)
    (ht : ∀ (i : Nat) (x : V) H1, Ex H H1 → i < n → (E i).is x H1 → EvT tt ((wipe σ vs).set j (some x)) H1 (k i))
    (he : ∀ (i : Nat) (x : V) H1, Ex H H1 → i < n → k i = true → (E i).is x H1 → EvD te ((wipe σ vs).set j (some x)) H1 (o i)) :
    EvD (tFr (tLc wi (gName j) tt te vs)) σ H (.lst (kept n k o)) := (n_lcN hI k o hn hw ht he).d
/-- no test -/
theorem n_lcA {vs : List Nat} {j : Nat} (hI : EvI wi σ H n E) (o : Nat → Rp) (hn : n ≤ 1000000) (hw : ∀ x, wipe ((wipe σ vs).set j (some x)) vs = wipe σ vs)
    (he : ∀ (i : Nat) (x : V) H1, Ex H H1 → i < n → (E i).is x H1 → EvD te ((wipe σ vs).set j (some x)) H1 (o i)) (ht : ∀ σ H, EvT tt σ H true) :
    EvN (tLc wi (gName j) tt te vs) σ H ((List.range n).map o) := by
  rw [← kept_all]
  exact n_lcN hI _ o hn hw (fun _ _ _ _ _ _ => ht _ _) fun i x H1 e hi _ hx => he i x H1 e hi hx
theorem d_lcA {vs : List Nat} {j : Nat} (hI : EvI wi σ H n E) (o : Nat → Rp) (hn : n ≤ 1000000) (hw : ∀ x, wipe ((wipe σ vs).set j (some x)) vs = wipe σ vs)
    (he : ∀ (i : Nat) (x : V) H1, Ex H H1 → i < n → (E i).is x H1 → EvD te ((wipe σ vs).set j (some x)) H1 (o i)) (ht : ∀ σ H, EvT tt σ H true) :
    EvD (tFr (tLc wi (gName j) tt te vs)) σ H (.lst ((List.range n).map o)) := (n_lcA hI o hn hw he ht).d
/-! two clauses, no tests, the inner as long at each turn of the outer as told -/
def flat2 (n : Nat) (m : Nat → Nat) (o : Nat → Nat → Rp) : List Rp := (List.range n).flatMap fun i => (List.range (m i)).map (o i)
theorem d_lc2 {vs vs1 : List Nat} {j j1 : Nat} {tt1 : TT} (m : Nat → Nat) (E1 : Nat → Nat → Rp) (o : Nat → Nat → Rp) (hI : EvI wi σ H n E) (hsz : ∀ i, i ≤ n → (flat2 i m o).length ≤ 900000) (hm : ∀ i, m i ≤ 50000)
    (hw : ∀ x, wipe ((wipe σ vs).set j (some x)) vs = wipe σ vs)
    (hw1 : ∀ x y, wipe ((wipe ((wipe σ vs).set j (some x)) vs1).set j1 (some y)) vs1 = wipe ((wipe σ vs).set j (some x)) vs1)
    (ht : ∀ σ H, EvT tt σ H true) (ht1 : ∀ σ H, EvT tt1 σ H true)
    (hI1 : ∀ (i : Nat) (x : V) H1, Ex H H1 → i < n → (E i).is x H1 → EvI wi1 ((wipe σ vs).set j (some x)) H1 (m i) (E1 i))
    (he : ∀ (i l : Nat) (x y : V) H1, Ex H H1 → i < n → l < m i → (E i).is x H1 → (E1 i l).is y H1 → EvD te ((wipe ((wipe σ vs).set j (some x)) vs1).set j1 (some y)) H1 (o i l)) :
    EvD (tFr (tLc2 wi (gName j) tt wi1 (gName j1) tt1 te vs vs1)) σ H (.lst (flat2 n m o)) := fun H1 e Q q =>
  hI H1 e _ fun J H2 e2 w => fun D hD => by
    refine ⟨fun i mm H' => mm = n - i ∧ i ≤ n ∧ LcW H2 D (flat2 i m o) H', ⟨n, by simp, Nat.zero_le _, LcW.start hD⟩, ?_⟩
    rintro i mm H3 ⟨rfl, hi, p⟩
    by_cases hlt : i < n
    · refine .inr ⟨w.go H3 i p.fz hlt, fun H' => LcW H2 D (flat2 (i + 1) m o) H', fun H' p' => ⟨n - (i + 1), by omega, rfl, hlt, p'⟩, fun x H4 y => ?_⟩
      obtain ⟨e4, hx⟩ := w.yld H3 i x H4 p.fz hlt y
      have p4 := p.ext e4
      show wipe ((wipe σ vs).set j (some x)) vs = wipe σ vs ∧ _
      refine ⟨hw x, t_go (ht _ H4) fun H5 e5 => ?_⟩
      have p5 := p4.ext e5
      show wi1 _ H5 _
      have x5 : Ex H H5 := (e.trans e2).trans p5.2.1
      refine (hI1 i x H5 x5 hlt (Rp.mono _ (Fz.ex e5) hx)) H5 (Ex.refl _) _ fun J1 H6 e6 w1 => ?_
      have p6 := p5.ext e6
      have x6 := (Rp.mono _ (Fz.ex (e5.trans e6)) hx)
      refine ⟨fun l k H' => k = m i - l ∧ l ≤ m i ∧ Fz H6 H' ∧ LcW H2 D (flat2 i m o ++ (List.range l).map (o i)) H', ⟨m i, by simp, Nat.zero_le _, Fz.refl _, by simpa using p6⟩, ?_⟩
      rintro l k H7 ⟨rfl, hl, f7, p7⟩
      by_cases hll : l < m i
      · refine .inr ⟨w1.go H7 l f7 hll, fun H' => Fz H6 H' ∧ LcW H2 D (flat2 i m o ++ (List.range (l + 1)).map (o i)) H', fun H' p' => ⟨m i - (l + 1), by omega, rfl, hll, p'.1, p'.2⟩, fun y H8 z => ?_⟩
        obtain ⟨e8, hy⟩ := w1.yld H7 l y H8 f7 hll z
        show wipe ((wipe ((wipe σ vs).set j (some x)) vs1).set j1 (some y)) vs1 = _ ∧ _
        refine ⟨hw1 x y, t_go (ht1 _ H8) fun H9 e9 => ?_⟩
        have p9 := (p7.ext e8).ext e9
        have f9 : Fz H6 H9 := (f7.trans (Fz.ex e8)).trans (Fz.ex e9)
        show te _ H9 _
        refine (he i l x y H9 ((e.trans e2).trans p9.2.1) hlt hll (Rp.mono _ f9 x6) (Rp.mono _ (Fz.ex e9) hy)).go fun z H10 e10 r10 => ?_
        have hlen : (flat2 i m o ++ (List.range l).map (o i)).length ≤ 1000000 := by
          rw [List.length_append, List.length_map, List.length_range]
          have := hsz i (by omega)
          have := hm i
          omega
        obtain ⟨acc, h1, h2, h3⟩ := (p9.ext e10).push r10 hlen
        refine ⟨acc, h1, h2, (f9.trans (Fz.ex e10)).trans (Fz.mut h1 fun z => z), ?_⟩
        rw [List.range_succ, List.map_append, ← List.append_assoc]
        exact h3
      · have e0 : l = m i := by omega
        subst e0
        refine .inl ⟨w1.stop H7 f7, ?_⟩
        show LcW H2 D (flat2 (i + 1) m o) H7
        have e1 : flat2 (i + 1) m o = flat2 i m o ++ (List.range (m i)).map (o i) := by
          unfold flat2
          rw [List.range_succ, List.flatMap_append]
          simp
        rw [e1]
        exact p7
    · have e0 : i = n := by omega
      subst e0
      refine .inl ⟨w.stop H3 p.fz, ?_⟩
      obtain ⟨_, _, acc, hacc, _⟩ := id p
      refine ⟨D, acc, rfl, hacc, fun ob => ?_⟩
      obtain ⟨h1, h2⟩ := p.fr (o := ob) acc hacc
      exact q _ _ (e2.trans h1) h2
end

/-! ### statements -/
section
variable {K : PySem.W.Frag} {σ : L2.St} {H H' : Hp} {ta tb te tx : TE} {t u : TT} {R S : Rp} {tr : TA} {D : Ends} {tu tw tz : TS} {g : TG} {wi : TI} {n : Nat} {E : Nat → Rp}
/-- name = [..] -/
theorem q_setLc {Rs : List Rp} {i : Nat} (h : EvN te σ H Rs) (k : ∀ v H1, Ex H H1 → (Rp.lst Rs).is v H1 → tz D (σ.set i (some v)) H1) : tSeq (tGhS (tAsg te (gName i))) tz D σ H :=
  h H (Ex.refl H) _ fun L H2 w => by
    obtain ⟨_, _, acc, hacc, _⟩ := id w
    refine .frz L acc hacc fun o => .done ?_
    obtain ⟨h1, h2⟩ := w.fr (o := o) acc hacc
    exact k _ _ h1 h2
/-- .. kept as it is, to be written to -/
theorem q_setLcM {Rs : List Rp} {i : Nat} (h : EvN te σ H Rs) (k : ∀ L H1, LcW H L Rs H1 → tz D (σ.set i (some (.ref L))) H1) : tSeq (tGhS (tAsg te (gName i))) tz D σ H :=
  h H (Ex.refl H) _ fun L H2 w => .done (k L H2 w)
theorem s_asgD {i : Nat} (h : EvD te σ H R) (k : ∀ v H1, Ex H H1 → R.is v H1 → D.nx (σ.set i (some v)) H1) : tAsg te (gName i) D σ H := h.go k
theorem s_retD (h : EvD te σ H R) (k : ∀ v H1, Ex H H1 → R.is v H1 → D.rt v H1) : tRet te D σ H := h.go k
theorem s_dropD (h : EvD te σ H R) (k : ∀ H1, Ex H H1 → D.nx σ H1) : tDrop te D σ H := h.go fun _ H1 e _ => k H1 e
theorem s_ifD {b : Bool} (h : EvT t σ H b) (h1 : b = true → ∀ H1, Ex H H1 → tu D σ H1) (h2 : b = false → ∀ H1, Ex H H1 → tw D σ H1) : tIfS t tu tw D σ H := s_if h h1 h2
theorem q_asgD {i : Nat} (h : EvD te σ H R) (k : ∀ v H1, Ex H H1 → R.is v H1 → tz D (σ.set i (some v)) H1) : tSeq (tAsg te (gName i)) tz D σ H := h.go k
theorem q_parD {i j : Nat} {A B : Rp} (h : EvDA tr σ H [A, B]) (k : ∀ a b H1, Ex H H1 → A.is a H1 → B.is b H1 → tz D ((σ.set i (some a)).set j (some b)) H1) : tSeq (tPar i j tr) tz D σ H :=
  h.go fun vs H1 e r => by
    cases r with
    | cons ra t =>
      cases t with
      | cons rb t =>
        cases t
        exact ⟨_, _, rfl, k _ _ H1 e ra rb⟩
theorem q_dropD (h : EvD te σ H R) (k : ∀ H1, Ex H H1 → tz D σ H1) : tSeq (tDrop te) tz D σ H := h.go fun _ H1 e _ => k H1 e
theorem q_ifD {b : Bool} (h : EvT t σ H b) (h1 : b = true → ∀ H1, Ex H H1 → tu { D with nx := tz D } σ H1) (h2 : b = false → ∀ H1, Ex H H1 → tw { D with nx := tz D } σ H1) : tSeq (tIfS t tu tw) tz D σ H := s_if (D := { D with nx := tz D }) h h1 h2
/-- a for -/
theorem s_forD (hI : EvI wi σ H n E) (k : ∀ H2, Ex H H2 → ∃ Pv : Nat → L2.St → Hp → Prop, Pv 0 σ H2 ∧ (∀ i σ' H', Pv i σ' H' → Fz H2 H') ∧
    (∀ i x σ' H' H'', i < n → Pv i σ' H' → Ex H' H'' → (E i).is x H'' → g x σ' H'' fun σ2 H3 => tu { D with nx := Pv (i + 1), ct := Pv (i + 1), bk := D.nx } σ2 H3) ∧ (∀ σ' H', Pv n σ' H' → D.nx σ' H')) : tFor wi g tu D σ H :=
  hI H (Ex.refl H) _ fun J H2 e2 w => by
    obtain ⟨Pv, h0, hf, hs, hd⟩ := k H2 e2
    refine ⟨fun i m σ' H' => m = n - i ∧ i ≤ n ∧ Pv i σ' H', ⟨n, by simp, Nat.zero_le _, h0⟩, ?_⟩
    rintro i m σ' H' ⟨rfl, hi, p⟩
    by_cases hlt : i < n
    · refine .inr ⟨w.go H' i (hf i σ' H' p) hlt, Pv (i + 1), fun σ2 H3 p' => ⟨n - (i + 1), by omega, rfl, hlt, p'⟩, fun x H3 y => ?_⟩
      obtain ⟨e4, hx⟩ := w.yld H' i x H3 (hf i σ' H' p) hlt y
      exact hs i x σ' H' H3 hlt p e4 hx
    · have e0 : i = n := by omega
      subst e0
      exact .inl ⟨w.stop H' (hf i σ' H' p), hd σ' H' p⟩
theorem q_forD (hI : EvI wi σ H n E) (k : ∀ H2, Ex H H2 → ∃ Pv : Nat → L2.St → Hp → Prop, Pv 0 σ H2 ∧ (∀ i σ' H', Pv i σ' H' → Fz H2 H') ∧
    (∀ i x σ' H' H'', i < n → Pv i σ' H' → Ex H' H'' → (E i).is x H'' → g x σ' H'' fun σ2 H3 => tu { D with nx := Pv (i + 1), ct := Pv (i + 1), bk := tz D } σ2 H3) ∧ (∀ σ' H', Pv n σ' H' → tz D σ' H')) : tSeq (tFor wi g tu) tz D σ H :=
  s_forD (D := { D with nx := tz D }) hI k
/-- xs.append(e), xs a list of one's own: w tells of the list and the heap -/
theorem q_appD {l : Addr} {xs : List V} (hl : H l = some (.lst xs)) (ha : EvD ta σ H (.v (.ref l))) (h : EvD te σ H R) (hz : xs.length < 1000000) (k : ∀ v H1, Ex H H1 → R.is v H1 → tz D σ (upd H1 l (.lst (xs ++ [v])))) :
    tSeq (tDrop (tBM K "list" rAppend ta (tCons te tNil))) tz D σ H := ha.go fun v H1 e1 r1 => by
  obtain rfl : v = V.ref l := r1
  exact ⟨Or.inl ⟨rfl, xs, sq_of (e1 l _ hl)⟩, (h.up e1).go fun v H2 e2 r2 => ⟨l, xs, v, rfl, rfl, e2 l _ (e1 l _ hl), Nat.lt_of_lt_of_le hz (by decide), k v H2 (e1.trans e2) r2⟩⟩
theorem s_appD {l : Addr} {xs : List V} (hl : H l = some (.lst xs)) (ha : EvD ta σ H (.v (.ref l))) (h : EvD te σ H R) (hz : xs.length < 1000000) (k : ∀ v H1, Ex H H1 → R.is v H1 → D.nx σ (upd H1 l (.lst (xs ++ [v])))) :
    tDrop (tBM K "list" rAppend ta (tCons te tNil)) D σ H := ha.go fun v H1 e1 r1 => by
  obtain rfl : v = V.ref l := r1
  exact ⟨Or.inl ⟨rfl, xs, sq_of (e1 l _ hl)⟩, (h.up e1).go fun v H2 e2 r2 => ⟨l, xs, v, rfl, rfl, e2 l _ (e1 l _ hl), Nat.lt_of_lt_of_le hz (by decide), k v H2 (e1.trans e2) r2⟩⟩
/-- xs = [] : a list of one's own -/
theorem q_newL {i : Nat} (k : ∀ p H1, H p = none → H1 = upd H p (.lst []) → tz D (σ.set i (some (.ref p))) H1) : tSeq (tAsg (tLst tNil) (gName i)) tz D σ H := ⟨Nat.zero_le _, fun p hp => k p _ hp rfl⟩
end
end G
set_option maxRecDepth 100000
set_option maxHeartbeats 1000000
/-! G3: built-ins over shapes. -/
namespace G
open PySem PySem.Spec PyProof.Rows L2 Evl

section
variable {K : PySem.W.Frag} {σ : L2.St} {H H' : Hp} {ta tb te tx : TE} {t u : TT} {R S A B : Rp} {tr : TA}
theorem all2_1 {R : Rp} {vs : List V} (h : All2 [R] vs H) : ∃ v, vs = [v] ∧ R.is v H := by
  cases h with
  | cons r t => cases t; exact ⟨_, rfl, r⟩
theorem all2_2 {R S : Rp} {vs : List V} (h : All2 [R, S] vs H) : ∃ v w, vs = [v, w] ∧ R.is v H ∧ S.is w H := by
  cases h with
  | cons r t =>
    obtain ⟨w, rfl, s⟩ := all2_1 t
    exact ⟨_, w, rfl, r, s⟩
theorem all2_3 {R S T : Rp} {vs : List V} (h : All2 [R, S, T] vs H) : ∃ v w x, vs = [v, w, x] ∧ R.is v H ∧ S.is w H ∧ T.is x H := by
  cases h with
  | cons r t =>
    obtain ⟨w, x, rfl, s, p⟩ := all2_2 t
    exact ⟨_, w, x, rfl, r, s, p⟩
/-- one argument -/
theorem d_cb1 {rr : List V → Hp → VK → Prop} (h : EvD ta σ H A) (hs : ∀ v H1, Ex H H1 → A.is v H1 → ∀ Q : VK, (∀ v H2, Ex H1 H2 → R.is v H2 → Q v H2) → rr [v] H1 Q) : EvD (tCB rr (tCons ta tNil)) σ H R :=
  d_cb (d_cons h d_nil) fun vs H1 e r Q q => by
    obtain ⟨v, rfl, a⟩ := all2_1 r
    exact hs v H1 e a Q q
theorem d_cb2 {rr : List V → Hp → VK → Prop} (h : EvD ta σ H A) (h2 : EvD tb σ H B) (hs : ∀ v w H1, Ex H H1 → A.is v H1 → B.is w H1 → ∀ Q : VK, (∀ v H2, Ex H1 H2 → R.is v H2 → Q v H2) → rr [v, w] H1 Q) : EvD (tCB rr (tCons ta (tCons tb tNil))) σ H R :=
  d_cb (d_cons h (d_cons h2 d_nil)) fun vs H1 e r Q q => by
    obtain ⟨v, w, rfl, a, b⟩ := all2_2 r
    exact hs v w H1 e a b Q q

def rLenA (K : PySem.W.Frag) : List V → Hp → VK → Prop := fun xs H Q => ∃ p ys, xs = [.ref p] ∧ (SqL K H p ys ∨ SqT K H p ys) ∧ Q (.int ys.length) H
theorem call_lenA {X : Cx} : CallR X (.builtin "len") (rLenA X.K) := call_len_seq
theorem d_len {Rs : List Rp} (h : EvD ta σ H (.seq K Rs)) : EvD (tCB (rLenA K) (tCons ta tNil)) σ H (.int (Rs.length : Int)) :=
  d_cb1 h fun v H1 e ⟨p, vs, a, b, c⟩ Q q => ⟨p, vs, by rw [a], b.imp SqF.l id, q _ H1 (Ex.refl _) (by rw [c.length]; rfl)⟩
def iabs (i : Int) : Int := if i < 0 then -i else i
def rAbs : List V → Hp → VK → Prop := fun xs H Q => ∃ i, xs = [.int i] ∧ Q (.int (if i < 0 then -i else i)) H
theorem call_absA {X : Cx} : CallR X (.builtin "abs") rAbs := call_abs
theorem d_abs {i : Int} (h : EvD ta σ H (.int i)) : EvD (tCB rAbs (tCons ta tNil)) σ H (.int (iabs i)) :=
  d_cb1 h fun v H1 e a Q q => ⟨i, by rw [show v = V.int i from a], q _ H1 (Ex.refl _) rfl⟩
def rIntA : List V → Hp → VK → Prop := fun xs H Q => (∃ i, xs = [.int i] ∧ Q (.int i) H) ∨ ∃ k, xs = [.bl k] ∧ Q (.int (if k then 1 else 0)) H
theorem call_intA {X : Cx} : CallR X (.type "int") rIntA := call_int1
def b2 (b : Bool) : Int := if b then 1 else 0
theorem d_intI {i : Int} (h : EvD ta σ H (.int i)) : EvD (tCB rIntA (tCons ta tNil)) σ H (.int i) :=
  d_cb1 h fun v H1 e a Q q => .inl ⟨i, by rw [show v = V.int i from a], q _ H1 (Ex.refl _) rfl⟩
theorem d_intB {b : Bool} (h : EvD ta σ H (.bl b)) : EvD (tCB rIntA (tCons ta tNil)) σ H (.int (b2 b)) :=
  d_cb1 h fun v H1 e a Q q => .inr ⟨b, by rw [show v = V.bl b from a], q _ H1 (Ex.refl _) rfl⟩
def rTupA (K : PySem.W.Frag) : List V → Hp → VK → Prop := fun xs H Q => ∃ p ys, xs = [.ref p] ∧ ((SqL K H p ys ∧ ∀ l, H l = none → Q (.ref l) (upd H l (.tup ys))) ∨ (SqT K H p ys ∧ Q (.ref p) H))
theorem call_tupA {X : Cx} : CallR X (.type "tuple") (rTupA X.K) := call_tuple_of
theorem d_tupS {Rs : List Rp} (h : EvD ta σ H (.seq K Rs)) : EvD (tCB (rTupA K) (tCons ta tNil)) σ H (.tup K Rs) :=
  d_cb1 h fun v H1 e ⟨p, vs, a, b, c⟩ Q q => by
    subst a
    rcases b with b | b
    · exact ⟨p, vs, rfl, .inl ⟨b.l, fun l hl => q _ _ (Ex.new hl) ⟨l, vs, rfl, SqT.of upd_same, c.mono (Fz.new hl)⟩⟩⟩
    · exact ⟨p, vs, rfl, .inr ⟨b, q _ H1 (Ex.refl _) ⟨p, vs, rfl, b, c⟩⟩⟩
theorem d_tupL {Rs : List Rp} (h : EvD ta σ H (.lst Rs)) : EvD (tCB (rTupA K) (tCons ta tNil)) σ H (.tup K Rs) := d_tupS (h.le fun _ _ => Rp.lst_seq)
def rLstA (K : PySem.W.Frag) : List V → Hp → VK → Prop := fun xs H Q => ∃ p ys, xs = [.ref p] ∧ (SqL K H p ys ∨ SqT K H p ys) ∧ ∀ l, H l = none → Q (.ref l) (upd H l (.lst ys))
theorem call_lstA {X : Cx} : CallR X (.type "list") (rLstA X.K) := call_list_of
/-- list(xs), frozen -/
theorem d_lstS {Rs : List Rp} (h : EvD ta σ H (.seq K Rs)) : EvD (tFr (tCB (rLstA K) (tCons ta tNil))) σ H (.lst Rs) := fun H1 e Q q =>
  h H1 e _ fun v H2 e2 ⟨p, vs, a, b, c⟩ => by
    subst a
    refine ⟨p, vs, rfl, b.imp SqF.l id, fun l hl => ⟨l, vs, rfl, upd_same, fun o => ?_⟩⟩
    rw [upd_upd]
    exact q _ _ (e2.trans (Ex.new hl)) ⟨l, vs, rfl, ⟨o, upd_same⟩, c.mono (Fz.new hl)⟩
/-! all, any -/
theorem d_all {bs : List Bool} (h : EvD ta σ H (.lst (bs.map Rp.bl))) : EvD (tCB (rAll K) (tCons ta tNil)) σ H (.bl (bs.all id)) :=
  d_cb1 h fun v H1 e ⟨p, vs, a, b, c⟩ Q q => by
    subst a
    rw [all2_bls c] at b
    exact ⟨p, bs, rfl, b.l, q _ H1 (Ex.refl _) rfl⟩
theorem d_any {bs : List Bool} (h : EvD ta σ H (.lst (bs.map Rp.bl))) : EvD (tCB (rAny K) (tCons ta tNil)) σ H (.bl (bs.any id)) :=
  d_cb1 h fun v H1 e ⟨p, vs, a, b, c⟩ Q q => by
    subst a
    rw [all2_bls c] at b
    exact ⟨p, bs, rfl, b.l, q _ H1 (Ex.refl _) rfl⟩
/-! min, max, sum of rows -/
def imin : List Int → Int
  | [] => 0
  | [a] => a
  | a :: b :: r => if a ≤ imin (b :: r) then a else imin (b :: r)
def imax : List Int → Int
  | [] => 0
  | [a] => a
  | a :: b :: r => if imax (b :: r) ≤ a then a else imax (b :: r)
theorem imin_le : ∀ {ns : List Int} {y : Int}, y ∈ ns → imin ns ≤ y
  | [a], y, h => by
    simp at h
    subst h
    exact Int.le_refl _
  | a :: b :: r, y, h => by
    have ih := @imin_le (b :: r) y
    unfold imin
    rcases List.mem_cons.mp h with rfl | h
    · split <;> omega
    · have := ih h
      split <;> omega
theorem imin_mem : ∀ {ns : List Int}, 0 < ns.length → imin ns ∈ ns
  | [a], _ => by simp [imin]
  | a :: b :: r, _ => by
    have ih := @imin_mem (b :: r) (by simp)
    unfold imin
    split
    · simp
    · exact List.mem_cons_of_mem _ ih
theorem le_imax : ∀ {ns : List Int} {y : Int}, y ∈ ns → y ≤ imax ns
  | [a], y, h => by
    simp at h
    subst h
    exact Int.le_refl _
  | a :: b :: r, y, h => by
    have ih := @le_imax (b :: r) y
    unfold imax
    rcases List.mem_cons.mp h with rfl | h
    · split <;> omega
    · have := ih h
      split <;> omega
theorem imax_mem : ∀ {ns : List Int}, 0 < ns.length → imax ns ∈ ns
  | [a], _ => by simp [imax]
  | a :: b :: r, _ => by
    have ih := @imax_mem (b :: r) (by simp)
    unfold imax
    split
    · simp
    · exact List.mem_cons_of_mem _ ih
theorem imin_eq {ns : List Int} {m : Int} (h : m ∈ ns) (l : ∀ y, y ∈ ns → m ≤ y) : m = imin ns := by
  have h0 : 0 < ns.length := List.length_pos_of_mem h
  have h1 := l _ (imin_mem h0)
  have h2 := imin_le h
  omega
theorem imax_eq {ns : List Int} {m : Int} (h : m ∈ ns) (l : ∀ y, y ∈ ns → y ≤ m) : m = imax ns := by
  have h0 : 0 < ns.length := List.length_pos_of_mem h
  have h1 := l _ (imax_mem h0)
  have h2 := le_imax h
  omega
theorem d_minL {ns : List Int} (h : EvD ta σ H (rowL ns)) (h0 : 0 < ns.length) : EvD (tCB (rMin K) (tCons ta tNil)) σ H (.int (imin ns)) :=
  d_cb1 h fun v H1 e r Q q => by
    obtain ⟨p, rfl, b⟩ := rowL_sq (K := K) r
    exact ⟨p, ns, rfl, b, h0, fun m h1 h2 => q _ H1 (Ex.refl _) (by rw [imin_eq h1 h2]; rfl)⟩
theorem d_maxL {ns : List Int} (h : EvD ta σ H (rowL ns)) (h0 : 0 < ns.length) : EvD (tCB (rMax K) (tCons ta tNil)) σ H (.int (imax ns)) :=
  d_cb1 h fun v H1 e r Q q => by
    obtain ⟨p, rfl, b⟩ := rowL_sq (K := K) r
    exact ⟨p, ns, rfl, b, h0, fun m h1 h2 => q _ H1 (Ex.refl _) (by rw [imax_eq h1 h2]; rfl)⟩
theorem d_sumL {ns : List Int} (h : EvD ta σ H (rowL ns)) : EvD (tCB (rSum K) (tCons ta tNil)) σ H (.int ns.sum) :=
  d_cb1 h fun v H1 e r Q q => by
    obtain ⟨p, rfl, b⟩ := rowL_sq (K := K) r
    exact ⟨p, ns, rfl, b, q _ H1 (Ex.refl _) rfl⟩
/-! of tuples -/
def rSumT (K : PySem.W.Frag) : List V → Hp → VK → Prop := fun vs H Q => ∃ (a : Addr) (ns : List Int), vs = [V.ref a] ∧ SqT K H a (ns.map V.int) ∧ Q (.int ns.sum) H
theorem cr_sumT {X : Cx} (hc : X.calm = true) : CallR X (.builtin "sum") (rSumT X.K) := by
  intro pins s σ H vs us Q J rv0 hq
  obtain ⟨a, ns, rfl, ht, q⟩ := hq
  obtain ⟨its, rv, hT, _⟩ := J.tuple ht
  rw [Vals.ref1 rv0]
  have hi : IntsAre its ns := rv.ints
  obtain ⟨xs, ex⟩ := hi.allInts.items
  have hn : numsOf (intItems xs).toList = ns := by
    rw [← ex]
    exact hi.numsOf
  rw [nums_intItems] at hn
  have hT' : s.heap.IsTuple a (intItems xs) := by
    rw [← ex]
    exact hT
  refine PySem.W.ktm_sumG (J.ok.hd hc) hT' fun h' tk t' hk => ⟨.int ns.sum, H, J.kept hk, ?_, q⟩
  rw [preSum_eq, List.take_of_length_le (by simp), hn]
  exact ⟨t', rfl⟩
theorem d_sumT {ns : List Int} (h : EvD ta σ H (rowT K ns)) : EvD (tCB (rSumT K) (tCons ta tNil)) σ H (.int ns.sum) :=
  d_cb1 h fun v H1 e r Q q => by
    obtain ⟨p, rfl, b⟩ := rowT_sq (K := K) r
    exact ⟨p, ns, rfl, b, q _ H1 (Ex.refl _) rfl⟩
/-! x in xs, ints -/
theorem flat_ints (ns : List Int) : (ns.map V.int).all flatV = true := by
  rw [List.all_eq_true]
  intro x hx
  obtain ⟨n, _, rfl⟩ := List.mem_map.mp hx
  rfl
theorem inV_ints (i : Int) : ∀ ns : List Int, inV (.int i) (ns.map V.int) = decide (i ∈ ns)
  | [] => rfl
  | n :: ns => by
    have ih := inV_ints i ns
    show (eqV (.int n) (.int i) || inV (.int i) (ns.map V.int)) = _
    rw [ih, show eqV (.int n) (.int i) = decide (n = i) from rfl]
    by_cases h : n = i
    · subst h; simp
    · have h' : ¬ i = n := fun e => h e.symm
      simp [h, h']
theorem d_in {i : Int} {ns : List Int} (ha : EvD ta σ H (.int i)) (hb : EvD tb σ H (rowS K ns)) : EvD (tOp (rIn K false) ta tb) σ H (.bl (decide (i ∈ ns))) := fun H1 e Q q =>
  ha H1 e _ fun v H2 e2 r2 => hb H2 (e.trans e2) _ fun w H3 e3 r3 => by
    obtain rfl : v = V.int i := r2
    obtain ⟨p, rfl, b⟩ := rowS_sq r3
    exact ⟨p, _, rfl, b, rfl, flat_ints ns, q _ H3 (e2.trans e3) (by rw [inV_ints]; rfl)⟩
theorem d_notIn {i : Int} {ns : List Int} (ha : EvD ta σ H (.int i)) (hb : EvD tb σ H (rowS K ns)) : EvD (tOp (rIn K true) ta tb) σ H (.bl (!decide (i ∈ ns))) := fun H1 e Q q =>
  ha H1 e _ fun v H2 e2 r2 => hb H2 (e.trans e2) _ fun w H3 e3 r3 => by
    obtain rfl : v = V.int i := r2
    obtain ⟨p, rfl, b⟩ := rowS_sq r3
    exact ⟨p, _, rfl, b, rfl, flat_ints ns, q _ H3 (e2.trans e3) (by rw [inV_ints]; rfl)⟩
/-! xs == ys, rows -/
theorem dp_ints : ∀ (ns : List Int), DpAll K H (ns.map V.int) (ns.map PyData.int)
  | [] => .nil
  | n :: ns => .cons (.int n) (dp_ints ns)
theorem shaped_ints (ns : List Int) : SeqAt.shaped (.list (ns.map PyData.int)) = true := by
  induction ns with
  | nil => rfl
  | cons n ns ih => exact ih
end
end G
set_option maxRecDepth 100000
set_option maxHeartbeats 1000000
/-! G4: sums of lists and tuples, ==, isinstance, sorted of a tuple, a starred display. -/
namespace G
open PySem PySem.Spec PyProof.Rows L2 Evl

/-! ### xs + ys, lists that may be fixed -/
def rCatF : R2 := fun x y H Q => ∃ l b xs zs, x = .ref l ∧ y = .ref b ∧ Rd H l (.lst xs) ∧ Rd H b (.lst zs) ∧ xs.length + zs.length ≤ sizeLine ∧ ∀ p, H p = none → Q (.ref p) (upd H p (.lst (xs ++ zs)))
theorem op_catF {X : Cx} : OpR X (binaryOp .Add) rCatF := by
  intro pins s σ H x y v u Q J r1 r2 hq
  obtain ⟨l, b, xs, zs, rfl, rfl, h1, h2, hz, q⟩ := hq
  obtain rfl : v = Value.ref l := r1
  obtain rfl : u = Value.ref b := r2
  obtain ⟨_, as, n1, va, ga⟩ := h1.ok J.hok
  obtain ⟨_, bs, n2, vb, gb⟩ := h2.ok J.hok
  have la := va.length
  have lb := vb.length
  refine PySem.P.add_list ga gb ?_ (by rw [List.size_toArray, List.size_toArray]; omega)
  rw [show as.toArray ++ bs.toArray = (as ++ bs).toArray by simp]
  exact ⟨.ref _, _, J.lnew (t' := s.toks) (va.append vb) (by rw [List.length_append]; omega), rfl, q _ J.fresh⟩
section
variable {K : PySem.W.Frag} {σ : L2.St} {H H' : Hp} {ta tb te tx : TE} {t u : TT} {R S A B : Rp} {tr : TA}
theorem SqF.rd {H : Hp} {a : Addr} {xs : List V} (h : SqF H a xs) : Rd H a (.lst xs) := .inr h
theorem d_catL {Rs Ss : List Rp} (ha : EvD ta σ H (.lst Rs)) (hb : EvD tb σ H (.lst Ss)) (hl : Rs.length + Ss.length ≤ 1000000) : EvD (tFr (tOp rCatF ta tb)) σ H (.lst (Rs ++ Ss)) := fun H1 e Q q =>
  ha H1 e _ fun v H2 e2 r2 => hb H2 (e.trans e2) _ fun w H3 e3 r3 => by
    obtain ⟨p, vs, rfl, b, c⟩ := (Rp.lst Rs).mono (Fz.ex e3) r2
    obtain ⟨p', vs', rfl, b', c'⟩ := r3
    refine ⟨p, p', vs, vs', rfl, rfl, b.rd, b'.rd, ?_, fun l hl' => ⟨l, _, rfl, upd_same, fun o => ?_⟩⟩
    · rw [← c.length, ← c'.length]
      exact Nat.le_trans hl (by decide)
    · rw [upd_upd]
      exact q _ _ ((e2.trans e3).trans (Ex.new hl')) ⟨l, _, rfl, ⟨o, upd_same⟩, (c.append c').mono (Fz.new hl')⟩
theorem d_catT {Rs Ss : List Rp} (ha : EvD ta σ H (.tup K Rs)) (hb : EvD tb σ H (.tup K Ss)) (hl : Rs.length + Ss.length ≤ 1000000) : EvD (tOp (rCatA K) ta tb) σ H (.tup K (Rs ++ Ss)) := fun H1 e Q q =>
  ha H1 e _ fun v H2 e2 r2 => hb H2 (e.trans e2) _ fun w H3 e3 r3 => by
    obtain ⟨p, vs, rfl, b, c⟩ := (Rp.tup K Rs).mono (Fz.ex e3) r2
    obtain ⟨p', vs', rfl, b', c'⟩ := r3
    have e23 := e2.trans e3
    refine ⟨p, p', vs, vs', rfl, rfl, b, b', ?_, fun h0 => ?_, fun h0 h1 => ?_, fun h0 h1 l hl' => ?_⟩
    · rw [← c.length, ← c'.length]
      exact Nat.le_trans hl (by decide)
    · subst h0
      cases c
      exact q _ _ e23 ⟨p', vs', rfl, b', c'⟩
    · subst h1
      cases c'
      rw [List.append_nil] at q
      exact q _ _ e23 ⟨p, vs, rfl, b, c⟩
    · exact q _ _ (e23.trans (Ex.new hl')) ⟨l, _, rfl, SqT.of upd_same, (c.append c').mono (Fz.new hl')⟩
/-! ### == of rows (lists of ints) -/
theorem d_eqL {ns ms : List Int} (ha : EvD ta σ H (rowL ns)) (hb : EvD tb σ H (rowL ms)) : EvD (tOp (rEqD K) ta tb) σ H (.bl (decide (ns = ms))) := fun H1 e Q q =>
  ha H1 e _ fun v H2 e2 r2 => hb H2 (e.trans e2) _ fun w H3 e3 r3 => by
    obtain ⟨p, rfl, h1⟩ := rowL_sq (K := K) ((rowL ns).mono (Fz.ex e3) r2)
    obtain ⟨p', rfl, h2⟩ := rowL_sq (K := K) r3
    exact ⟨_, _, .lst h1 (dp_ints ns), .lst h2 (dp_ints ms), shaped_ints ns, shaped_ints ms, q _ H3 (e2.trans e3) (show V.bl (PyData.eqvAll _ _) = _ by rw [PySem.W.ked_eqvAll])⟩
theorem d_neL {ns ms : List Int} (ha : EvD ta σ H (rowL ns)) (hb : EvD tb σ H (rowL ms)) : EvD (tOp (rNeD K) ta tb) σ H (.bl (!decide (ns = ms))) := fun H1 e Q q =>
  ha H1 e _ fun v H2 e2 r2 => hb H2 (e.trans e2) _ fun w H3 e3 r3 => by
    obtain ⟨p, rfl, h1⟩ := rowL_sq (K := K) ((rowL ns).mono (Fz.ex e3) r2)
    obtain ⟨p', rfl, h2⟩ := rowL_sq (K := K) r3
    exact ⟨_, _, .lst h1 (dp_ints ns), .lst h2 (dp_ints ms), shaped_ints ns, shaped_ints ms, q _ H3 (e2.trans e3) (show V.bl (!PyData.eqvAll _ _) = _ by rw [PySem.W.ked_eqvAll])⟩
def dRow (r : List Int) : PyData := .tuple (r.map PyData.int)
theorem dp_rows : ∀ {rs : List (List Int)} {vs : List V}, All2 (rs.map (rowT K)) vs H → DpAll K H vs (rs.map dRow)
  | [], _, .nil => .nil
  | r :: rs, _, .cons h t => by
    obtain ⟨p, rfl, h1⟩ := rowT_sq h
    exact .cons (.tup h1 (dp_ints r)) (dp_rows t)
theorem shaped_row (r : List Int) : SeqAt.shaped (dRow r) = true := by
  induction r with
  | nil => rfl
  | cons n ns ih => exact ih
theorem canLay_ints : ∀ r : List Int, PyData.canLayAll0 (r.map PyData.int) = true
  | [] => rfl
  | _ :: r => canLay_ints r
theorem depth_ints : ∀ r : List Int, PyData.depthAll (r.map PyData.int) ≤ 1
  | [] => by decide
  | n :: r => by
    have ih := depth_ints r
    show max (PyData.depth (.int n)) (PyData.depthAll (r.map PyData.int)) ≤ 1
    exact Nat.max_le.mpr ⟨by simp [PyData.depth], ih⟩
theorem canLay_rows : ∀ rs : List (List Int), PyData.canLayAll0 (rs.map dRow) = true
  | [] => rfl
  | r :: rs => by
    show (PyData.canLayAll0 (r.map PyData.int) && PyData.canLayAll0 (rs.map dRow)) = true
    rw [canLay_ints, canLay_rows rs]
    rfl
theorem depth_rows : ∀ rs : List (List Int), PyData.depthAll (rs.map dRow) ≤ 3
  | [] => by decide
  | r :: rs => by
    have ih := depth_rows rs
    have h := depth_ints r
    show max (PyData.depth (.tuple (r.map PyData.int))) (PyData.depthAll (rs.map dRow)) ≤ 3
    refine Nat.max_le.mpr ⟨?_, ih⟩
    show PyData.depthAll (r.map PyData.int) + 1 ≤ 3
    omega
theorem shaped_rows (rs : List (List Int)) : SeqAt.shaped (.list (rs.map dRow)) = true := by
  have h := depth_rows rs
  unfold SeqAt.shaped
  rw [Bool.and_eq_true]
  refine ⟨canLay_rows rs, decide_eq_true ?_⟩
  show PyData.depthAll (rs.map dRow) + 1 ≤ 64
  omega
theorem d_neNil {rs : List (List Int)} (ha : EvD ta σ H (.lst (rs.map (rowT K)))) (hb : EvD tb σ H (.lst [])) : EvD (tOp (rNeD K) ta tb) σ H (.bl (!rs.isEmpty)) := fun H1 e Q q =>
  ha H1 e _ fun v H2 e2 r2 => hb H2 (e.trans e2) _ fun w H3 e3 r3 => by
    obtain ⟨p, vs, rfl, b, c⟩ := (Rp.lst (rs.map (rowT K))).mono (Fz.ex e3) r2
    obtain ⟨p', vs', rfl, b', c'⟩ := r3
    cases c'
    refine ⟨_, _, .lst b.l (dp_rows c), .lst b'.l .nil, shaped_rows rs, rfl, q _ H3 (e2.trans e3) ?_⟩
    cases rs <;> rfl
/-! ### isinstance -/
def TyR (K : PySem.W.Frag) (R : Rp) (T : String) : Prop := ∀ v H, R.is v H → TyX K H v (.type T)
theorem ty_int {i : Int} : TyR K (.int i) "int" := fun v H h => by
  obtain rfl : v = V.int i := h
  exact .base (.int i)
theorem ty_bl {b : Bool} : TyR K (.bl b) "bool" := fun v H h => by
  obtain rfl : v = V.bl b := h
  exact .base (.bl b)
theorem ty_non : TyR K .non "NoneType" := fun v H h => by
  obtain rfl : v = V.non := h
  exact .base .non
theorem ty_tup {Rs : List Rp} : TyR K (.tup K Rs) "tuple" := fun v H h => by
  obtain ⟨p, vs, rfl, (b | ⟨o, b⟩) | ⟨o, its, n, b, c, _⟩, _⟩ := h
  · exact .base (.tup b)
  · exact .fTuple b
  · exact .kTuple b c
theorem ty_lst {Rs : List Rp} : TyR K (.lst Rs) "list" := fun v H h => by
  obtain ⟨p, vs, rfl, ⟨o, b⟩, _⟩ := h
  exact .base (.frz b)
theorem d_isi {T c : String} {b : Bool} (ty : TyR K A T) (hk : kitB T c = some b) (ha : EvD ta σ H A) : EvD (tCB (rIsi K) (tCons ta (tCons (tC (.ty c)) tNil))) σ H (.bl b) :=
  d_cb2 ha d_c fun v w H1 e r1 r2 Q q => by
    obtain rfl : w = V.ty c := r2
    exact ⟨v, .ty c, .type T, .type c, b, rfl, .ty c, ty v H1 r1, kit_ty hk, q _ H1 (Ex.refl _) rfl⟩
theorem d_isiT {T c c' : String} {b b' : Bool} (ty : TyR K A T) (hk : kitB T c = some b) (hk' : kitB T c' = some b') (ha : EvD ta σ H A) :
    EvD (tCB (rIsiT K) (tCons ta (tCons (tTup (tCons (tC (.ty c)) (tCons (tC (.ty c')) tNil))) tNil))) σ H (.bl (b || b')) := fun H1 e Q q =>
  ha H1 e _ fun v H2 e2 r2 => ⟨by show 2 ≤ sizeLine; decide, fun p hp => ⟨v, p, [.ty c, .ty c'], .type T, [.type c, .type c'], b || b', rfl, upd_same, .cons (.ty c) (.cons (.ty c') .nil), ty v _ (A.mono (Fz.new hp) r2), by
    refine kitAny_cons (kit_ty hk) (fun hb => ?_) (fun hb => by rw [hb]; rfl)
    subst hb
    refine kitAny_cons (kit_ty hk') (fun hb => ?_) (fun hb => by rw [hb]; rfl)
    subst hb
    exact kitAny_nil, q _ _ (e2.trans (Ex.new hp)) rfl⟩⟩
/-! ### sorted of a tuple of ints -/
end
section
variable {prog : Program} {w : World} {A : Around} {E : Value → Shared → Prop} {s : Shared}
theorem sorted_tup {l : Addr} {vs : List Value} {ns : List Int} {Q : Value → Shared → Prop} (hl : IsTup s.heap l vs.toArray) (hI : IntsAre vs ns) (h64 : vs.length < 64)
    (h : ∀ (h1 h2 : Heap) (out : List Value) (ns' : List Int) (e : Nat), (∀ b o, s.heap.get? b = some o → h1.get? b = some o) → (∀ b o, h1.get? b = some o → h2.get? b = some o) → h2.get? h1.objs.size = some { cls := .type "list", data := .seq out.toArray e } →
      IntsAre out ns' → ns'.Perm ns → ns'.Pairwise (· ≤ ·) → Q (.ref h1.objs.size) { s with heap := h2 }) : wpAny (model prog w) A (call (.builtin "sorted") [.ref l]) Q E s := by
  obtain ⟨o, ho, hc, n, hd⟩ := id hl
  have z : vs.length ≤ sizeLine := by
    rw [sizeLine_eq]
    omega
  refine Calls.call_function_entry kind_sorted plain_sorted entry_sorted (args_sorted1 _) ?_
  unfold Builtin.«sorted»
  refine wpAny_bind (m := checkCount "sorted" 1 1 _) (wpAny_pure ?_)
  refine wpAny_bind (wpAny_collect_seq l (.inr rfl) ho hc hd (fun h1 hk1 => ?_) (by rw [List.size_toArray]; exact z))
  refine wpAny_bind (wpAny_newList ?_ z)
  have g0 : (h1.push (seqObj "list" vs.toArray 0)).get? h1.objs.size = some (seqObj "list" vs.toArray 0) := Heap.get?_push_size _ rfl
  refine wpAny_bind (wpAny_holding (wpAny_call_entry slot_list_sort ⟨_, g0, rfl⟩ entry_list_sort (list_sort_tree g0 hI h64 fun out ns' a1 a2 a3 => ⟨_, rfl, ?_⟩) (args_list_sort _)))
  obtain ⟨ep, he⟩ := sortedHeap_at (out := out) g0
  refine wpAny_pure ⟨_, rfl, h h1 _ out.toList ns' ep hk1 (fun b ob q => ?_) he a1 a2 a3⟩
  have lt := Heap.lt_size q
  exact (sortedHeap_old (Nat.ne_of_lt lt) (by rw [size_push']; exact Nat.lt_succ_of_lt lt)).trans (Heap.get?_push_of_some _ q)
end
def rSortT (K : PySem.W.Frag) : List V → Hp → VK → Prop := fun vs H Q => ∃ (a : Addr) (ns : List Int), vs = [V.ref a] ∧ SqT K H a (ns.map V.int) ∧ ns.length < 64 ∧
  ∀ (ns' : List Int) (p : Addr), ns'.Perm ns → ns'.Pairwise (· ≤ ·) → H p = none → Q (.ref p) (upd H p (.lst (ns'.map V.int)))
theorem cr_sortT {X : Cx} : CallR X (.builtin "sorted") (rSortT X.K) := by
  intro pins s σ H vs us Q J rv0 hq
  obtain ⟨a, ns, rfl, ht, h64, q⟩ := hq
  obtain ⟨its, rv, hT, _⟩ := J.tuple ht
  rw [Vals.ref1 rv0]
  have hi : IntsAre its ns := rv.ints
  refine sorted_tup hT hi (by rw [hi.length]; exact h64) fun h1 h2 out ns' e k1 k2 he b1 b2 b3 => ?_
  have J1 : Inv X pins σ H { s with heap := h1 } := J.kept (t' := s.toks) k1
  have hz : (ns'.map V.int).length ≤ sizeLine := by
    rw [List.length_map, b2.length_eq]
    exact small64 h64
  exact ⟨.ref h1.objs.size, _, J1.laid (o := .lst (ns'.map V.int)) (t' := s.toks) k2 (Nat.le_refl _) ⟨hz, out, e, vals_of_ints b1, he⟩, rfl, q ns' _ b2 b3 (J1.hok.fresh (Nat.le_refl _))⟩
section
variable {K : PySem.W.Frag} {σ : L2.St} {H H' : Hp} {ta tb te tx : TE}
/-- sorted(t)[0] -/
theorem d_sorted0 {ns : List Int} (ha : EvD ta σ H (rowT K ns)) (h0 : 0 < ns.length) (h64 : ns.length < 64) : EvD (tOp (rIx K) (tFr (tCB (rSortT K) (tCons ta tNil))) (tC (.int 0))) σ H (.int (imin ns)) := fun H1 e Q q =>
  ha H1 e _ fun v H2 e2 r2 => by
    obtain ⟨p, rfl, b⟩ := rowT_sq (K := K) r2
    refine ⟨p, ns, rfl, b, h64, fun ns' l h1 h2 hl => ⟨l, _, rfl, upd_same, fun o => ?_⟩⟩
    rw [upd_upd]
    cases ns' with
    | nil =>
      have := h1.length_eq
      simp at this
      omega
    | cons m r =>
      refine .inl ⟨l, _, 0, .int m, rfl, rfl, .inl (.inr ⟨o, upd_same⟩), atI_nat (j := 0) rfl, q _ _ (e2.trans (Ex.new hl)) ?_⟩
      have hm : m ∈ ns := h1.mem_iff.mp (by simp)
      have hle : ∀ y, y ∈ ns → m ≤ y := fun y hy => by
        rcases List.mem_cons.mp (h1.mem_iff.mpr hy) with rfl | hy
        · exact Int.le_refl _
        · exact (List.pairwise_cons.mp h2).1 y hy
      rw [imin_eq hm hle]
      rfl
/-! ### (*row, x) -/
theorem d_star1 {r : List Int} {x : Int} (ha : EvD ta σ H (rowT K r)) (hb : EvD tb σ H (.int x)) (hl : r.length ≤ 1000) : EvD (tTup (StX.tStar K ta (tCons tb tNil))) σ H (rowT K (r ++ [x])) := fun H1 e Q q =>
  ha H1 e _ fun v H2 e2 r2 => by
    obtain ⟨p, rfl, b⟩ := rowT_sq (K := K) r2
    refine ⟨p, _, rfl, .inl b, hb H2 (e.trans e2) _ fun w H3 e3 r3 => ?_⟩
    obtain rfl : w = V.int x := r3
    have em : (r.map V.int ++ [V.int x]) = (r ++ [x]).map V.int := by simp
    refine ⟨?_, fun l hl' => q _ _ ((e2.trans e3).trans (Ex.new hl')) ⟨l, _, rfl, SqT.of upd_same, ?_⟩⟩
    · rw [List.length_append, List.length_map]
      exact Nat.le_trans (Nat.succ_le_succ hl) (by decide)
    · rw [em]
      exact (ints_all2 (H := upd H3 l _) (r ++ [x]))
end
end G
/-! MIR: what the defs compute, in plain Lean. -/
namespace G
abbrev Mx := List (List Int)
def at2 (m : Mx) (y z : Nat) : Int := (m.getD y []).getD z 0
def addedBy (l r : Int) : Int := (iabs l * r + l * iabs r) / 2
def behindTurn (w : Mx) (x : Nat) : Mx := (List.range w.length).map fun y => (List.range w.length).map fun z =>
  if x = y ∨ x = z then -(at2 w y z) else at2 w y z + addedBy (at2 w y x) (at2 w x z)
def frameLine (w : Mx) (x : Nat) (line : List Int) : List Int := (List.range w.length).map fun z =>
  if z = x then -(line.getD z 0) else line.getD z 0 + addedBy (line.getD x 0) (at2 w x z)
def frameLines (w t : Mx) (x : Nat) : Mx := t.map (frameLine w x)
def firstFrame (n : Nat) : Mx := (List.range n).map fun (y : Nat) => (List.range n).map fun (x : Nat) => b2 (decide (x = y))
def col (t : Mx) (x : Nat) : List Int := t.map fun line => line.getD x 0
def isGreen (t : Mx) (x : Nat) : Bool := decide (0 ≤ imin (col t x))
def greensOf (t : Mx) : List Nat := (List.range t.length).filter (isGreen t)
def smallLine (r : List Int) : Bool := r.all fun a => decide (iabs a ≤ 1000)
def isSmall (t : Mx) : Bool := t.all smallLine
/-- n rows of n numbers, none of more than so many -/
structure Sq (n : Nat) (m : Mx) : Prop where
  len : m.length = n
  row : ∀ r, r ∈ m → r.length = n
def Bd (B : Int) (m : Mx) : Prop := ∀ r, r ∈ m → ∀ a, a ∈ r → -B ≤ a ∧ a ≤ B
theorem Sq.getRow {n : Nat} {m : Mx} (h : Sq n m) {y : Nat} (hy : y < n) : m[y]? = some (m.getD y []) := by
  have : y < m.length := by rw [h.len]; exact hy
  simp [this]
theorem Sq.rowLen {n : Nat} {m : Mx} (h : Sq n m) {y : Nat} (hy : y < n) : (m.getD y []).length = n := by
  have : y < m.length := by rw [h.len]; exact hy
  have e : m.getD y [] = m[y] := by simp [this]
  rw [e]
  exact h.row _ (List.getElem_mem this)
theorem getD_at {r : List Int} {z : Nat} (h : z < r.length) : r[z]? = some (r.getD z 0) := by simp [h]
theorem Bd.at {B : Int} {m : Mx} (h : Bd B m) (hB : 0 ≤ B) (y z : Nat) : -B ≤ at2 m y z ∧ at2 m y z ≤ B := by
  unfold at2
  by_cases hy : y < m.length
  · have e : m.getD y [] = m[y] := by simp [hy]
    rw [e]
    by_cases hz : z < m[y].length
    · have e2 : m[y].getD z 0 = m[y][z] := by simp [hz]
      rw [e2]
      exact h _ (List.getElem_mem hy) _ (List.getElem_mem hz)
    · have e2 : m[y].getD z 0 = 0 := by simp [Nat.le_of_not_lt hz]
      rw [e2]
      omega
  · have e : m.getD y [] = [] := by simp [Nat.le_of_not_lt hy]
    rw [e]
    show -B ≤ (0 : Int) ∧ (0 : Int) ≤ B
    omega
theorem Bd.getD {B : Int} {m : Mx} (h : Bd B m) (hB : 0 ≤ B) {line : List Int} (hl : line ∈ m) (z : Nat) : -B ≤ line.getD z 0 ∧ line.getD z 0 ≤ B := by
  by_cases hz : z < line.length
  · have e2 : line.getD z 0 = line[z] := by simp [hz]
    rw [e2]
    exact h _ hl _ (List.getElem_mem hz)
  · have e2 : line.getD z 0 = 0 := by simp [Nat.le_of_not_lt hz]
    rw [e2]
    omega
/-! turns one behind another -/
def turns : Mx → Mx → List Nat → Mx × Mx
  | w, t, [] => (w, t)
  | w, t, x :: r => turns (behindTurn w x) (frameLines w t x) r
/-- no number on the way is too great -/
def Along : Mx → Mx → List Nat → Prop
  | _, _, [] => True
  | w, t, x :: r => x < w.length ∧ isSmall (behindTurn w x) = true ∧ isSmall (frameLines w t x) = true ∧ Along (behindTurn w x) (frameLines w t x) r
def greenSteps (w t : Mx) : List (Nat × Mx × Mx) := ((greensOf t).map fun x => (x, behindTurn w x, frameLines w t x)).filter fun s => isSmall s.2.1 && isSmall s.2.2
theorem Sq.behind {n : Nat} {w : Mx} (h : Sq n w) (x : Nat) : Sq n (behindTurn w x) := by
  unfold behindTurn
  refine ⟨by simp [h.len], fun r hr => ?_⟩
  obtain ⟨y, _, rfl⟩ := List.mem_map.mp hr
  simp [h.len]
theorem Sq.lines {n : Nat} {w t : Mx} (h : Sq n w) (h' : Sq n t) (x : Nat) : Sq n (frameLines w t x) := by
  unfold frameLines
  refine ⟨by simp [h'.len], fun r hr => ?_⟩
  obtain ⟨y, _, rfl⟩ := List.mem_map.mp hr
  simp [frameLine, h.len]
theorem smallLine_iff {r : List Int} : smallLine r = true ↔ ∀ a, a ∈ r → -1000 ≤ a ∧ a ≤ 1000 := by
  unfold smallLine
  rw [List.all_eq_true]
  refine ⟨fun h a ha => ?_, fun h a ha => ?_⟩
  · have := of_decide_eq_true (h a ha)
    unfold iabs at this
    split at this <;> omega
  · have := h a ha
    refine decide_eq_true ?_
    unfold iabs
    split <;> omega
theorem isSmall_iff {t : Mx} : isSmall t = true ↔ Bd 1000 t := by
  unfold isSmall
  rw [List.all_eq_true]
  exact ⟨fun h r hr => smallLine_iff.mp (h r hr), fun h r hr => smallLine_iff.mpr (h r hr)⟩
theorem firstFrame_sq (n : Nat) : Sq n (firstFrame n) := by
  unfold firstFrame
  refine ⟨by simp, fun r hr => ?_⟩
  obtain ⟨y, _, rfl⟩ := List.mem_map.mp hr
  simp
theorem firstFrame_bd (n : Nat) : Bd 1000 (firstFrame n) := by
  intro r hr a ha
  unfold firstFrame at hr
  obtain ⟨y, _, rfl⟩ := List.mem_map.mp hr
  obtain ⟨x, _, rfl⟩ := List.mem_map.mp ha
  unfold b2
  split <;> omega
theorem turns_sq {n : Nat} : ∀ {row : List Nat} {w t : Mx}, Sq n w → Sq n t → Sq n (turns w t row).1 ∧ Sq n (turns w t row).2
  | [], _, _, h, h' => ⟨h, h'⟩
  | x :: r, w, t, h, h' => turns_sq (row := r) (h.behind x) (h.lines h' x)
theorem turns_bd : ∀ {row : List Nat} {w t : Mx}, Bd 1000 w → Bd 1000 t → Along w t row → Bd 1000 (turns w t row).1 ∧ Bd 1000 (turns w t row).2
  | [], _, _, h, h', _ => ⟨h, h'⟩
  | x :: r, w, t, h, h', ⟨_, a, b, c⟩ => turns_bd (row := r) (isSmall_iff.mp a) (isSmall_iff.mp b) c
theorem turns_snoc : ∀ (row : List Nat) (w t : Mx) (x : Nat), turns w t (row ++ [x]) = (behindTurn (turns w t row).1 x, frameLines (turns w t row).1 (turns w t row).2 x)
  | [], _, _, _ => rfl
  | y :: r, w, t, x => turns_snoc r (behindTurn w y) (frameLines w t y) x
theorem Along.take : ∀ {row : List Nat} {w t : Mx} (i : Nat), Along w t row → Along w t (row.take i)
  | [], _, _, i, _ => by rw [List.take_nil]; trivial
  | x :: r, w, t, 0, _ => trivial
  | x :: r, w, t, i + 1, ⟨a, b, c, d⟩ => ⟨a, b, c, Along.take i d⟩
theorem Along.at {n : Nat} : ∀ {row : List Nat} {w t : Mx} {i : Nat}, Sq n w → Sq n t → Along w t row → (h : i < row.length) →
    row[i] < n ∧ isSmall (behindTurn (turns w t (row.take i)).1 row[i]) = true ∧ isSmall (frameLines (turns w t (row.take i)).1 (turns w t (row.take i)).2 row[i]) = true
  | [], _, _, i, _, _, _, h => by simp at h
  | x :: r, w, t, 0, sw, st, ⟨a, b, c, d⟩, _ => ⟨by show x < n; rw [← sw.len]; exact a, b, c⟩
  | x :: r, w, t, i + 1, sw, st, ⟨a, b, c, d⟩, h => Along.at (row := r) (i := i) (sw.behind x) (sw.lines st x) d (by simpa using h)
end G
set_option maxRecDepth 100000
/-! G5: the rules with the written part named. -/
namespace G
open PySem PySem.Spec PyProof.Rows L2 Evl
section
variable {X : Cx} (K : PySem.W.Frag) (h : X.K = K)
include h
theorem ixK : IxR X (rIx K) := h ▸ ix_seq
theorem lenK : CallR X (.builtin "len") (rLenA K) := h ▸ call_lenA
theorem tupK : CallR X (.type "tuple") (rTupA K) := h ▸ call_tupA
theorem lstK : CallR X (.type "list") (rLstA K) := h ▸ call_lstA
theorem allK (hc : X.calm = true) : CallR X (.builtin "all") (rAll K) := h ▸ cr_all hc
theorem anyK (hc : X.calm = true) : CallR X (.builtin "any") (rAny K) := h ▸ cr_any hc
theorem minK (hc : X.calm = true) : CallR X (.builtin "min") (rMin K) := h ▸ cr_min hc
theorem maxK (hc : X.calm = true) : CallR X (.builtin "max") (rMax K) := h ▸ cr_max hc
theorem sumK (hc : X.calm = true) : CallR X (.builtin "sum") (rSum K) := h ▸ cr_sum hc
theorem sumTK (hc : X.calm = true) : CallR X (.builtin "sum") (rSumT K) := h ▸ cr_sumT hc
theorem sortTK : CallR X (.builtin "sorted") (rSortT K) := h ▸ cr_sortT
theorem isiK : CallR X (.builtin "isinstance") (rIsi K) := h ▸ call_isi
theorem isiTK : CallR X (.builtin "isinstance") (rIsiT K) := h ▸ call_isiT
theorem inK : OpR X (compareOp .In) (rIn K false) := h ▸ op_in_seq
theorem notInK : OpR X (compareOp .NotIn) (rIn K true) := h ▸ op_notIn_seq
theorem eqDK (hu : X.A.units + 64 < cLine) : OpR X (compareOp .Eq) (rEqD K) := h ▸ op_eqD hu
theorem neDK (hu : X.A.units + 64 < cLine) : OpR X (compareOp .NotEq) (rNeD K) := h ▸ op_neD hu
theorem catTK : OpR X (binaryOp .Add) (rCatA K) := h ▸ op_catA
theorem piK {tg l : Expr} {tl : TE} (hl : PE X l tl) : PI X tg l (iSeq K tl) := h ▸ pi_seq hl
end
/-! ### a list of one's own that grows -/
section
variable {K : PySem.W.Frag} {σ : L2.St} {H0 H : Hp} {te : TE} {R : Rp} {Rs : List Rp} {p : Addr} {j : Nat} {D : Ends} {tz : TS}
theorem s_appW (w : LcW H0 p Rs H) (hσ : σ[j]? = some (some (.ref p))) (h : EvD te σ H R) (hl : Rs.length ≤ 1000000) (k : ∀ H1, Fz H H1 → LcW H0 p (Rs ++ [R]) H1 → D.nx σ H1) : tDrop (tBM K "list" rAppend (tVar j) (tCons te tNil)) D σ H := by
  obtain ⟨_, _, acc, hp, _⟩ := id w
  refine ⟨.ref p, hσ, .inl ⟨rfl, acc, sq_of hp⟩, h.go fun v H1 e1 r1 => ?_⟩
  obtain ⟨acc', h1, h2, h3⟩ := (w.ext e1).push r1 hl
  exact ⟨p, acc', v, rfl, rfl, h1, h2, k _ ((Fz.ex e1).trans (Fz.mut h1 fun z => z)) h3⟩
theorem q_appW (w : LcW H0 p Rs H) (hσ : σ[j]? = some (some (.ref p))) (h : EvD te σ H R) (hl : Rs.length ≤ 1000000) (k : ∀ H1, Fz H H1 → LcW H0 p (Rs ++ [R]) H1 → tz D σ H1) : tSeq (tDrop (tBM K "list" rAppend (tVar j) (tCons te tNil))) tz D σ H :=
  s_appW (D := { D with nx := tz D }) w hσ h hl k
theorem q_newW {i : Nat} (k : ∀ p H1, LcW H p [] H1 → tz D (σ.set i (some (.ref p))) H1) : tSeq (tAsg (tLst tNil) (gName i)) tz D σ H := ⟨Nat.zero_le _, fun p hp => k p _ (LcW.start hp)⟩
theorem q_parW {ta : TE} {A : Rp} {i l : Nat} (h : EvD ta σ H A) (k : ∀ a p H1, LcW H p [] H1 → A.is a H1 → tz D ((σ.set i (some a)).set l (some (.ref p))) H1) : tSeq (tPar i l (tCons ta (tCons (tLst tNil) tNil))) tz D σ H :=
  h.go fun a H1 e1 ra => ⟨Nat.zero_le _, fun p hp => ⟨a, .ref p, rfl, k a p _ ⟨fresh_back e1 hp, e1.trans (Ex.new hp), [], upd_same, .nil⟩ (A.mono (Fz.new hp) ra)⟩⟩
theorem LcW.frV (w : LcW H0 p Rs H) (hσ : σ[j]? = some (some (.ref p))) {Q : VK} (k : ∀ H1, Ex H0 H1 → (Rp.lst Rs).is (.ref p) H1 → Q (.ref p) H1) : tFr (tVar j) σ H Q := by
  obtain ⟨_, _, acc, hp, _⟩ := id w
  refine ⟨.ref p, hσ, p, acc, rfl, hp, fun o => ?_⟩
  obtain ⟨h1, h2⟩ := w.fr (o := o) acc hp
  exact k _ h1 h2
theorem s_retW (w : LcW H0 p Rs H) (hσ : σ[j]? = some (some (.ref p))) (k : ∀ H1, Ex H0 H1 → (Rp.lst Rs).is (.ref p) H1 → D.rt (.ref p) H1) : tRet (tFr (tVar j)) D σ H := w.frV hσ k
theorem s_retCallW {sp : Sp} {E : XK} (w : LcW H0 p Rs H) (hσ : σ[j]? = some (some (.ref p))) (k : ∀ H1, Ex H0 H1 → (Rp.lst Rs).is (.ref p) H1 → sp [.ref p] H1 D.rt E) : tRet (tCall sp [] E (tCons (tFr (tVar j)) tNil)) D σ H :=
  w.frV (Q := fun x H1 => sp [x] H1 D.rt E) hσ k
theorem range_snoc {β : Type} (f : Nat → β) (n : Nat) : (List.range (n + 1)).map f = (List.range n).map f ++ [f n] := by
  rw [List.range_succ, List.map_append]
  rfl
end
end G
set_option maxRecDepth 100000
set_option maxHeartbeats 1000000
/-! G6: dicts whose keys are pairs of tables, told by an object of one's own. -/
namespace G
open PySem PySem.Spec PyProof.Rows L2 Evl

/-! ### the keys -/
def nkRow (r : List Int) : NestedKey := .tup (r.map .num)
def nkM (m : Mx) : NestedKey := .tup (m.map nkRow)
def nkS (k : Mx × Mx) : NestedKey := .tup [nkM k.1, nkM k.2]
theorem nkRow_inj {a b : List Int} (h : nkRow a = nkRow b) : a = b := by
  injection h with h
  exact (List.map_inj_right fun x y e => by injection e).mp h
theorem nkM_inj {a b : Mx} (h : nkM a = nkM b) : a = b := by
  injection h with h
  exact (List.map_inj_right fun x y e => nkRow_inj e).mp h
theorem nkS_inj {a b : Mx × Mx} (h : nkS a = nkS b) : a = b := by
  injection h with h
  injection h with h1 h
  injection h with h2 _
  exact Prod.ext (nkM_inj h1) (nkM_inj h2)
theorem depth_nums : ∀ r : List Int, NestedKey.depthAll (r.map .num) = 0
  | [] => rfl
  | _ :: r => by
    show max 0 (NestedKey.depthAll (r.map .num)) = 0
    rw [depth_nums r]
    rfl
theorem depth_nkRow (r : List Int) : (nkRow r).depth ≤ 1 := by
  show NestedKey.depthAll (r.map .num) + 1 ≤ 1
  rw [depth_nums]
  exact Nat.le_refl _
theorem depth_nkRows : ∀ m : Mx, NestedKey.depthAll (m.map nkRow) ≤ 1
  | [] => Nat.zero_le _
  | r :: m => by
    show max (nkRow r).depth (NestedKey.depthAll (m.map nkRow)) ≤ 1
    exact Nat.max_le.mpr ⟨depth_nkRow r, depth_nkRows m⟩
theorem depth_nkM (m : Mx) : (nkM m).depth ≤ 2 := by
  show NestedKey.depthAll (m.map nkRow) + 1 ≤ 2
  have := depth_nkRows m
  omega
theorem depth_nkS (k : Mx × Mx) : (nkS k).depth ≤ 8 := by
  show max (nkM k.1).depth (max (nkM k.2).depth 0) + 1 ≤ 8
  have h1 := depth_nkM k.1
  have h2 := depth_nkM k.2
  omega
abbrev stR (K : PySem.W.Frag) (k : Mx × Mx) : Rp := Rp.tup K [matT K k.1, matT K k.2]
abbrev rowN (K : PySem.W.Frag) (r : List Nat) : Rp := rowT K (r.map fun x : Nat => (x : Int))
section
variable {X : Cx} {pins : List (Addr × Obj)} {σ : L2.St} {H : Hp} {s : Shared}
theorem nall_ints {h : Heap} : ∀ {r : List Int} {us : List Value}, Vals (r.map V.int) us → NestedAll h (r.map .num) us
  | [], _, .nil => .nil
  | i :: r, _, .cons a t => by
    obtain ⟨tk, rfl⟩ := a
    exact .cons (.int i tk) (nall_ints t)
theorem nis_row (I : Inv X pins σ H s) {r : List Int} {v : V} {u : Value} (h : (rowT X.K r).is v H) (e : RelV v u) : NestedIs s.heap (nkRow r) u := by
  obtain ⟨p, rfl, b⟩ := rowT_sq h
  obtain rfl : u = Value.ref p := e
  obtain ⟨its, rv, ⟨o, ho, hc, n, hd⟩, _⟩ := I.tuple b
  exact .tup ho hc hd (by rw [show its.toArray.toList = its by simp]; exact nall_ints rv)
theorem nall_rows (I : Inv X pins σ H s) : ∀ {m : Mx} {vs : List V} {us : List Value}, All2 (m.map (rowT X.K)) vs H → Vals vs us → NestedAll s.heap (m.map nkRow) us
  | [], _, _, .nil, .nil => .nil
  | r :: m, _, _, .cons a t, .cons b q => .cons (nis_row I a b) (nall_rows I t q)
theorem nis_mat (I : Inv X pins σ H s) {m : Mx} {v : V} {u : Value} (h : (matT X.K m).is v H) (e : RelV v u) : NestedIs s.heap (nkM m) u := by
  obtain ⟨p, vs, rfl, b, c⟩ := h
  obtain rfl : u = Value.ref p := e
  obtain ⟨its, rv, ⟨o, ho, hc, n, hd⟩, _⟩ := I.tuple b
  exact .tup ho hc hd (by rw [show its.toArray.toList = its by simp]; exact nall_rows I c rv)
theorem nis_st (I : Inv X pins σ H s) {k : Mx × Mx} {a : Addr} (h : (stR X.K k).is (.ref a) H) : (nestedKind X.prog X.w).is s.heap (nkS k) a := by
  refine ⟨?_, depth_nkS k⟩
  obtain ⟨p, vs, e, b, c⟩ := h
  cases e
  obtain ⟨its, rv, ⟨o, ho, hc, n, hd⟩, _⟩ := I.tuple b
  obtain ⟨x, y, rfl, rx, ry⟩ := all2_2 c
  cases rv with
  | cons r1 t =>
    cases t with
    | cons r2 t =>
      cases t
      exact .tup ho hc hd (.cons (nis_mat I rx r1) (.cons (nis_mat I ry r2) .nil))
end
/-! ### the object -/
abbrev VE := NestedKey × Addr × V
abbrev UE := NestedKey × Addr × Value
def entR (x : VE) (y : UE) : Prop := x.1 = y.1 ∧ x.2.1 = y.2.1 ∧ RelV x.2.2 y.2.2
def NdP (P : Program) (w : World) (a : Addr) (xs : List VE) (h : Heap) : Prop :=
  (a == sysModules) = false ∧ xs.length ≤ 1000000 ∧ (xs.map (·.1)).Nodup ∧ ∃ ys : List UE, Paired entR xs ys ∧ ∃ o es ep, h.get? a = some o ∧ o.ExactDict ∧ o.data = .dict es ep ∧ es.toList = ys.map (entryOfKey (nestedKind P w))
def NdO (P : Program) (w : World) (a : Addr) (xs : List VE) : HO := .ext (NdP P w a xs)
theorem nd_ok {P : Program} {w : World} {H : Hp} {h : Heap} {a : Addr} {xs : List VE} (p : NdP P w a xs h) : ObjOk P w H h a (NdO P w a xs) := by
  refine ⟨p, ?_, ?_⟩
  · obtain ⟨_, _, _, _, _, o, _, _, ho, _⟩ := p
    exact ⟨o, ho⟩
  · rintro h1 h2 ⟨a1, a2, a3, ys, a4, o, es, ep, ho, r⟩ k
    exact ⟨a1, a2, a3, ys, a4, o, es, ep, k o ho, r⟩
theorem entR_keys : ∀ {xs : List VE} {ys : List UE}, Paired entR xs ys → ys.map (·.1) = xs.map (·.1)
  | _, _, .nil => rfl
  | _, _, .cons a t => by
    rw [List.map_cons, List.map_cons, entR_keys t, a.1]
/-- the entries stand for the pairs -/
def entS (K : PySem.W.Frag) (H : Hp) (kv : (Mx × Mx) × List Nat) (x : VE) : Prop := x.1 = nkS kv.1 ∧ (stR K kv.1).is (.ref x.2.1) H ∧ (rowN K kv.2).is x.2.2 H
theorem entS.mono {K : PySem.W.Frag} {H H' : Hp} (f : Fz H H') {kv : (Mx × Mx) × List Nat} {x : VE} (h : entS K H kv x) : entS K H' kv x := ⟨h.1, (stR K _).mono f h.2.1, (rowN K _).mono f h.2.2⟩
abbrev Kvs := List ((Mx × Mx) × List Nat)
abbrev EntS (K : PySem.W.Frag) (H : Hp) (kvs : Kvs) (xs : List VE) : Prop := Paired (entS K H) kvs xs
theorem EntS.mono {K : PySem.W.Frag} {H H' : Hp} (f : Fz H H') : ∀ {kvs : Kvs} {xs : List VE}, EntS K H kvs xs → EntS K H' kvs xs
  | _, _, .nil => .nil
  | _, _, .cons a t => .cons (a.mono f) (EntS.mono f t)
theorem EntS.keys {K : PySem.W.Frag} {H : Hp} : ∀ {kvs : Kvs} {xs : List VE}, EntS K H kvs xs → xs.map (·.1) = kvs.map fun kv => nkS kv.1
  | _, _, .nil => rfl
  | _, _, .cons a t => by rw [List.map_cons, List.map_cons, EntS.keys t, a.1]
theorem EntS.is {X : Cx} {pins : List (Addr × Obj)} {σ : L2.St} {H : Hp} {s : Shared} (I : Inv X pins σ H s) : ∀ {kvs : Kvs} {xs : List VE} {ys : List UE}, EntS X.K H kvs xs → Paired entR xs ys → ∀ y ∈ ys, (nestedKind X.prog X.w).is s.heap y.1 y.2.1
  | _, _, _, .nil, .nil, y, hy => by cases hy
  | _, _, _, .cons a t, .cons b q, y, hy => by
    rcases List.mem_cons.mp hy with rfl | hy
    · rw [← b.1, ← b.2.1, a.1]
      exact nis_st I a.2.1
    · exact EntS.is I t q y hy
/-- one's own dict, still written to -/
def DictM (P : Program) (w : World) (K : PySem.W.Frag) (H : Hp) (d : Addr) (kvs : Kvs) : Prop := ∃ xs, H d = some (NdO P w d xs) ∧ EntS K H kvs xs
/-- a fixed one -/
def Rp.dict (P : Program) (w : World) (K : PySem.W.Frag) (kvs : Kvs) : Rp :=
  ⟨fun v H => ∃ d o xs, v = .ref d ∧ H d = some (.frz o (NdO P w d xs)) ∧ EntS K H kvs xs, fun f ⟨d, o, xs, a, b, c⟩ => ⟨d, o, xs, a, f _ _ trivial b, c.mono f⟩⟩
/-! look up, store -/
def look (kvs : Kvs) (k : Mx × Mx) : Option (List Nat) := (kvs.find? fun kv => decide (kv.1 = k)).map (·.2)
def put (kvs : Kvs) (k : Mx × Mx) (v : List Nat) : Kvs := if kvs.any (fun kv => decide (kv.1 = k)) then kvs.map (fun kv => if kv.1 = k then (kv.1, v) else kv) else kvs ++ [(k, v)]
theorem nk_dec (a b : Mx × Mx) : decide (nkS a = nkS b) = decide (a = b) := by
  by_cases h : a = b
  · subst h; simp
  · have : ¬ nkS a = nkS b := fun e => h (nkS_inj e)
    simp [h, this]
section
variable {K : PySem.W.Frag} {H : Hp} {k : Mx × Mx}
theorem look_at (k : Mx × Mx) : ∀ {kvs : Kvs} {xs : List VE} {ys : List UE}, EntS K H kvs xs → Paired entR xs ys →
    (∀ r, look kvs k = some r → ∃ xv u, valueAt (pairsH ys) (nkS k) = some u ∧ RelV xv u ∧ (rowN K r).is xv H) ∧ (look kvs k = none → valueAt (pairsH ys) (nkS k) = none)
  | _, _, _, .nil, .nil => ⟨fun r h => (by cases h), fun _ => rfl⟩
  | kv :: kvs, x :: xs, y :: ys, .cons a t, .cons b q => by
    obtain ⟨ih1, ih2⟩ := look_at k t q
    have ek : y.1 = nkS kv.1 := b.1.symm.trans a.1
    by_cases h : kv.1 = k
    · have e1 : look (kv :: kvs) k = some kv.2 := by simp [look, h]
      have e2 : valueAt (pairsH (y :: ys)) (nkS k) = some y.2.2 := by simp [valueAt, pairsH, ek, h]
      rw [e1, e2]
      exact ⟨fun r hr => (by cases hr; exact ⟨x.2.2, y.2.2, rfl, b.2.2, a.2.2⟩), fun hr => (by cases hr)⟩
    · have hn : ¬ nkS kv.1 = nkS k := fun e => h (nkS_inj e)
      have e1 : look (kv :: kvs) k = look kvs k := by simp [look, h]
      have e2 : valueAt (pairsH (y :: ys)) (nkS k) = valueAt (pairsH ys) (nkS k) := by simp [valueAt, pairsH, ek, hn]
      rw [e1, e2]
      exact ⟨ih1, ih2⟩
/-- the same with values for the entries -/
def putV (xs : List VE) (k : NestedKey) (a : Addr) (v : V) : List VE := if xs.any (fun x => decide (x.1 = k)) then xs.map (fun x => if x.1 = k then (x.1, x.2.1, v) else x) else xs ++ [(k, a, v)]
theorem ent_any : ∀ {xs : List VE} {ys : List UE} (k : NestedKey), Paired entR xs ys → (atKey ys k).isSome = xs.any fun x => decide (x.1 = k)
  | _, _, _, .nil => rfl
  | x :: xs, y :: ys, k, .cons b q => by
    have ih := ent_any k q
    rw [List.any_cons, ← ih, b.1]
    by_cases h : y.1 = k
    · simp [atKey, h]
    · simp [atKey, h]
theorem ent_map {k : NestedKey} {v : V} {u : Value} (hv : RelV v u) : ∀ {xs : List VE} {ys : List UE}, Paired entR xs ys → Paired entR (xs.map fun x => if x.1 = k then (x.1, x.2.1, v) else x) (ys.map (putAt k u))
  | _, _, .nil => .nil
  | x :: xs, y :: ys, .cons b q => by
    refine .cons ?_ (ent_map hv q)
    have e := b.1
    show entR (if x.1 = k then (x.1, x.2.1, v) else x) (if y.1 = k then (y.1, y.2.1, u) else y)
    by_cases h : x.1 = k
    · rw [if_pos h, if_pos (by rw [← e]; exact h)]
      exact ⟨e, b.2.1, hv⟩
    · rw [if_neg h, if_neg (by rw [← e]; exact h)]
      exact b
theorem ent_put {k : NestedKey} {a : Addr} {v : V} {u : Value} (hv : RelV v u) {xs : List VE} {ys : List UE} (h : Paired entR xs ys) : Paired entR (putV xs k a v) (storedH ys k a u) := by
  unfold putV storedH
  rw [ent_any k h]
  split
  · exact ent_map hv h
  · exact h.snoc ⟨rfl, rfl, hv⟩
theorem entS_any : ∀ {kvs : Kvs} {xs : List VE} (k : Mx × Mx), EntS K H kvs xs → (xs.any fun x => decide (x.1 = nkS k)) = kvs.any fun kv => decide (kv.1 = k)
  | _, _, _, .nil => rfl
  | kv :: kvs, x :: xs, k, .cons a t => by
    rw [List.any_cons, List.any_cons, entS_any k t, a.1, nk_dec]
theorem entS_map {k : Mx × Mx} {v : V} {r : List Nat} (hv : (rowN K r).is v H) : ∀ {kvs : Kvs} {xs : List VE}, EntS K H kvs xs → EntS K H (kvs.map fun kv => if kv.1 = k then (kv.1, r) else kv) (xs.map fun x => if x.1 = nkS k then (x.1, x.2.1, v) else x)
  | _, _, .nil => .nil
  | kv :: kvs, x :: xs, .cons a t => by
    refine .cons ?_ (entS_map hv t)
    show entS K H (if kv.1 = k then (kv.1, r) else kv) (if x.1 = nkS k then (x.1, x.2.1, v) else x)
    by_cases h : kv.1 = k
    · rw [if_pos h, if_pos (by rw [a.1, h])]
      exact ⟨a.1, a.2.1, hv⟩
    · rw [if_neg h, if_neg (fun e => h (nkS_inj (a.1.symm.trans e)))]
      exact a
theorem entS_put {k : Mx × Mx} {a : Addr} {v : V} {r : List Nat} (hk : (stR K k).is (.ref a) H) (hv : (rowN K r).is v H) {kvs : Kvs} {xs : List VE} (h : EntS K H kvs xs) : EntS K H (put kvs k r) (putV xs (nkS k) a v) := by
  unfold put putV
  rw [entS_any k h]
  split
  · exact entS_map hv h
  · exact h.snoc ⟨rfl, hk, hv⟩
theorem putV_len (xs : List VE) (k : NestedKey) (a : Addr) (v : V) : (putV xs k a v).length ≤ xs.length + 1 := by
  unfold putV
  split <;> simp
end
end G
set_option maxRecDepth 100000
set_option maxHeartbeats 1000000
/-! G7: what is done with such dicts: made, read, stored to, walked. -/
namespace G
open PySem PySem.Spec PyProof.Rows L2 Evl

section
variable {X : Cx} {pins : List (Addr × Obj)} {σ : L2.St} {H : Hp} {s : Shared}
/-- the dict as the library tells it -/
theorem nd_at (I : Inv X pins σ H s) {d : Addr} {kvs : Kvs} {xs : List VE} (hp : NdP X.prog X.w d xs s.heap) (he : EntS X.K H kvs xs) :
    (d == sysModules) = false ∧ ∃ ys, Paired entR xs ys ∧ s.heap.DictOfH (nestedKind X.prog X.w) d ys := by
  obtain ⟨a1, a2, a3, ys, a4, o, es, ep, ho, hx, hd, hes⟩ := hp
  exact ⟨a1, ys, a4, o, es, ep, ho, hx, hd, hes, fun y hy => he.is I a4 y hy, by rw [entR_keys a4]; exact a3⟩
theorem room_in {A : Around} {k : Nat} (hr : Room k A) (P : Program) (w : World) : (nestedKind P w).room A.in1 := by
  have := hr.units
  show A.units + 1 + 8 < cLine
  omega
theorem room_at {A : Around} {k : Nat} (hr : Room k A) (P : Program) (w : World) : (nestedKind P w).room A := by
  have := hr.units
  show A.units + 8 < cLine
  omega
/-! {} -/
def tNdNew (P : Program) (w : World) : TE := fun _ H Q => ∀ p, H p = none → Q (.ref p) (upd H p (NdO P w p []))
theorem nd_empty {P : Program} {w : World} (h : Heap) (hb : sysModules < h.objs.size) : NdP P w h.objs.size [] (h.push { cls := .type "dict", data := .dict #[] }) :=
  ⟨beq_eq_false_iff_ne.mpr (Ne.symm (Nat.ne_of_lt hb)), Nat.zero_le _, List.nodup_nil, [], .nil, _, #[], 0, Heap.get?_push_size _ rfl, ⟨rfl, rfl, rfl⟩, rfl, rfl⟩
theorem pe_ndnew {pos : Pos} {P : Program} {w : World} (hP : X.prog = P) (hw : X.w = w) : PE X (.Dict [] [] pos) (tNdNew P w) := by
  subst hP hw
  exact ⟨fun pins s σ H Q I h => wpAny_Dict_empty ⟨.ref s.heap.objs.size, _, I.laid (a := s.heap.objs.size) (o := NdO X.prog X.w s.heap.objs.size []) (t' := s.toks) (fun _ _ q => Heap.get?_push_of_some _ q) (Nat.le_refl _) (nd_ok (nd_empty s.heap I.big)), rfl, h _ I.fresh⟩⟩
/-! {k: v}, fixed at once -/
def tNd1 (P : Program) (w : World) (K : PySem.W.Frag) (ta tb : TE) : TE := fun σ H Q => ∀ p, H p = none → ta σ (upd H p (NdO P w p [])) fun x H1 => tb σ H1 fun y H2 =>
  H2 p = some (NdO P w p []) ∧ ∃ k r, (stR K k).is x H2 ∧ (rowN K r).is y H2 ∧ ∀ o xs, EntS K (upd H2 p (.frz o (NdO P w p xs))) [(k, r)] xs → Q (.ref p) (upd H2 p (.frz o (NdO P w p xs)))
theorem nd_mut {d : Addr} {P : Program} {w : World} {xs : List VE} : ¬ Imm (NdO P w d xs) := fun h => h
theorem obj_of_nd {P : Program} {w : World} {d : Addr} {xs : List VE} {h : Heap} (p : NdP P w d xs h) : ∃ o, h.get? d = some o := by
  obtain ⟨_, _, _, _, _, o, _, _, ho, _⟩ := p
  exact ⟨o, ho⟩
/-- another word for a tracked object -/
theorem inv_re (I : Inv X pins σ H s) {p : Addr} {u u' : HO} (h : H p = some u) (hm : Mut (some u)) (new : ObjOk X.prog X.w (upd H p u') s.heap p u') : Inv X pins σ (upd H p u') s := by
  have e : ∃ q, s.heap.get? p = some q := by
    have lt := I.hok.lt h
    have := (I.hok p u h)
    cases u with
    | lst xs => obtain ⟨_, _, _, _, e⟩ := this; exact ⟨_, e⟩
    | dK kvs => obtain ⟨_, _, _, _, o, _, _, e, _⟩ := this; exact ⟨_, e⟩
    | dT kvs => obtain ⟨_, _, _, _, o, _, _, e, _⟩ := this; exact ⟨_, e⟩
    | set S n => obtain ⟨o, _, _, _, e, _⟩ := this; exact ⟨_, e⟩
    | ins C dx fs => obtain ⟨_, _, _, e, _⟩ := this; exact ⟨_, e⟩
    | ext φ => obtain ⟨_, ⟨o, e⟩, _⟩ := this; exact ⟨_, e⟩
    | _ => exact hm.elim
  have := I.write (h' := s.heap) (t' := s.toks) (o := u') (x := p) (e := p) (by rw [h]; exact hm) (.inl rfl) (fun b u _ q => q) e new
  exact this
theorem disp_of {prog : Program} {w : World} {A : Around} {E : Value → Shared → Prop} {s : Shared} {knd : HeapKind prog w NestedKey} {env : Env} {keys : List (Option Expr)} {values : List Expr} {pos : Pos} {pairs : List (Sem Value × Sem Value)} {Q : Value → Shared → Prop} (hu : knd.room A)
    (sh : (evalEachOpt keys env).zip ((evalEach values env).map fun v => do let x ← v; standAt pos; pure x) = pairs.map fun p => (some p.1, p.2)) (ne : pairs ≠ []) (hl : pairs.length ≤ 15)
    (hq : wpAny (model prog w) A (evalPairs pairs) (fun vs s₁ => ∃ ps, CarriesH knd s₁.heap vs ps ∧ s₁.heap.DictOfH knd s.heap.objs.size [] ∧
      ∀ h' tk, h'.DictOfH knd s.heap.objs.size (storedAllH [] ps) → Heap.SameBut s.heap.objs.size s₁.heap h' → Q (.ref s.heap.objs.size) { s₁ with heap := h', toks := tk }) E
      { s with heap := s.heap.push { cls := .type "dict", data := .dict #[] } }) : wpAny (model prog w) A (eval (.Dict keys values pos) env) Q E s := by
  rw [arm_eval_Dict, sh, dictDisplay_pairs pairs ne (by omega)]
  refine wpAny_bind (wpAny_standAt (wpAny_bind ?_))
  refine wpAny_subDictH (knd := knd) (Q := fun d s' => wpAny (model prog w) A (pure (Value.ref d)) Q E s') hu hl (wpAny_mono hq (fun vs s₁ g => ?_) fun _ _ e => e)
  obtain ⟨ps, g1, g2, g3⟩ := g
  exact ⟨ps, g1, g2, fun h' tk a b => wpAny_pure (g3 h' tk a b)⟩
theorem inv_fz (I : Inv X pins σ H s) {p : Addr} {φ : Heap → Prop} (h : H p = some (.ext φ)) : ∃ o, Inv X pins σ (upd H p (.frz o (.ext φ))) s := by
  obtain ⟨a, ⟨o, e⟩, st⟩ := I.hok p _ h
  exact ⟨o, inv_re I h trivial ⟨e, a, ⟨o, e⟩, st⟩⟩
theorem pe_nd1 {a b : Expr} {ta tb : TE} {pos : Pos} {P : Program} {w : World} {K : PySem.W.Frag} {k : Nat} (hP : X.prog = P) (hw : X.w = w) (hK : X.K = K) (hr : Room k X.A) (ha : PE X a ta) (hb : PE X b tb) : PE X (.Dict [some a] [b] pos) (tNd1 P w K ta tb) := by
  subst hP hw hK
  refine ⟨fun pins s σ H Q I h => ?_⟩
  have hn := I.fresh
  have I1 := I.laid (a := s.heap.objs.size) (o := NdO X.prog X.w s.heap.objs.size []) (h' := s.heap.push { cls := .type "dict", data := .dict #[] }) (t' := s.toks) (fun _ _ q => Heap.get?_push_of_some _ q) (Nat.le_refl _) (nd_ok (nd_empty s.heap I.big))
  refine disp_of (knd := nestedKind X.prog X.w) (pairs := pairTrees [some a] [b] X.env pos) (room_at hr _ _) rfl (by intro z; cases z) (by show 1 ≤ 15; decide) ?_
  refine pairTrees_cons_walk (thn (ha.run pins _ σ _ _ I1 (h _ hn)) fun u s1 ⟨x, H1, I2, rx, q1⟩ => thn (hb.run pins s1 σ H1 _ I2 q1) fun u2 s2 ⟨y, H2, I3, ry, hp, k, r, rk, rr, q2⟩ => pairTrees_nil_walk ?_)
  obtain ⟨ad, vs, rfl, hsq, hall⟩ := id rk
  obtain rfl : u = Value.ref ad := rx
  have hd := I3.hok _ _ hp
  obtain ⟨hs, ys, e0, dh⟩ := nd_at I3 (kvs := []) hd.1 .nil
  cases e0
  refine ⟨[(nkS k, ad, u2)], ⟨rfl, rfl, nis_st I3 rk, trivial⟩, dh, fun h' tk hdk sb => ?_⟩
  obtain ⟨o, es, ep, ho, hx, hdt, hes, _, _⟩ := hdk
  have hxs : Paired entR [((nkS k, ad, y) : VE)] [((nkS k, ad, u2) : UE)] := .cons ⟨rfl, rfl, ry⟩ .nil
  have np : NdP X.prog X.w s.heap.objs.size [(nkS k, ad, y)] h' := ⟨hd.1.1, by show 1 ≤ 1000000; decide, by simp, _, hxs, o, es, ep, ho, hx, hdt, hes⟩
  have I4 := I3.write (h' := h') (t' := tk) (o := NdO X.prog X.w s.heap.objs.size [(nkS k, ad, y)]) (by rw [hp]; exact True.intro) (.inl rfl) (fun b u hb q => (sb.2 b hb).trans q) ⟨o, ho⟩ (nd_ok np)
  obtain ⟨ob, I5⟩ := inv_fz I4 upd_same
  rw [upd_upd] at I5
  refine ⟨.ref s.heap.objs.size, _, I5, rfl, q2 ob [(nkS k, ad, y)] ?_⟩
  have f : Fz H2 (upd H2 s.heap.objs.size (.frz ob (NdO X.prog X.w s.heap.objs.size [(nkS k, ad, y)]))) := Fz.mut hp nd_mut
  exact .cons ⟨rfl, (stR X.K k).mono f rk, (rowN X.K r).mono f rr⟩ .nil
/-! d[k], d fixed -/
def rNdGet (P : Program) (w : World) (K : PySem.W.Frag) : R2 := fun x y H Q => ∃ kvs k r, (Rp.dict P w K kvs).is x H ∧ (stR K k).is y H ∧ look kvs k = some r ∧ ∀ v, (rowN K r).is v H → Q v H
theorem pe_ndget {o i : Expr} {td ti : TE} {pos : Pos} {P : Program} {w : World} {K : PySem.W.Frag} {k : Nat} (hP : X.prog = P) (hw : X.w = w) (hK : X.K = K) (hr : Room k X.A) (ho : PE X o td) (hi : PE X i ti) (hs : NoSl i) : PE X (.Subscript o i pos) (tOp (rNdGet P w K) td ti) := by
  subst hP hw hK
  refine ⟨fun pins s σ H Q I h => ?_⟩
  refine subD_of PySem.F.slot_dict_getitem.lookup hs (thn (ho.run pins s σ H _ I h) fun u s1 ⟨x, H1, I1, rx, q1⟩ => thn (hi.run pins s1 σ H1 _ I1 q1) fun iv s2 ⟨y, H2, I2, ry, kvs, k, r, gd, gk, gl, q2⟩ => ?_)
  obtain ⟨d, ob, xs, rfl, hd, he⟩ := gd
  obtain rfl : u = Value.ref d := rx
  obtain ⟨ad, vs, rfl, _, _⟩ := id gk
  obtain rfl : iv = Value.ref ad := ry
  obtain ⟨hs', ys, e0, dh⟩ := nd_at I2 (I2.hok _ _ hd).2.1 he
  obtain ⟨xv, uv, e1, rv, rr⟩ := (look_at k he e0).1 r gl
  exact ⟨dh.typeIs, getItem_keyed (room_in hr _ _) (nis_st I2 gk) ⟨ys, dh, rfl⟩ e1 ⟨xv, H2, I2.tok _, rv, q2 xv rr⟩⟩
/-! d.get(k, x), d still written to -/
def tNdGet2 (P : Program) (w : World) (K : PySem.W.Frag) (td tk tx : TE) : TE := fun σ H Q => td σ H fun x H1 => ∃ d, x = .ref d ∧ (∃ xs, H1 d = some (NdO P w d xs)) ∧ tk σ H1 fun y H2 => tx σ H2 fun z H3 =>
  ∃ kvs k r, DictM P w K H3 d kvs ∧ (stR K k).is y H3 ∧ (rowN K r).is z H3 ∧ ∀ v, (rowN K ((look kvs k).getD r)).is v H3 → Q v H3
theorem pe_ndget2 {o e f : Expr} {apos cpos : Pos} {td ty tx : TE} {P : Program} {w : World} {K : PySem.W.Frag} {k : Nat} (hP : X.prog = P) (hw : X.w = w) (hK : X.K = K) (hr : Room k X.A) (ho : PE X o td) (he : PE X e ty) (hf : PE X f tx) (m : M2 X o "get" apos e f cpos) :
    PE X (.Call (.Attribute o "get" apos) [e, f] [] cpos) (tNdGet2 P w K td ty tx) := by
  subst hP hw hK
  refine ⟨fun pins s σ H Q I h => ?_⟩
  refine wpAny_Call_method m.base m.few m.line PySem.F.plainAttrs_dict PySem.F.slot_dict_get PySem.F.type_dict_get (thn (ho.run pins s σ H _ I h) fun u s1 ⟨x, H1, I1, rx, d, ex, ⟨xs, hx⟩, q1⟩ => ?_)
  subst ex
  obtain rfl : u = Value.ref d := rx
  obtain ⟨_, _, _, ys, _, ob, es, ep, hob, hex, _⟩ := (I1.hok _ _ hx).1
  refine ⟨⟨ob, hob, hex.1⟩, fun b eb => ?_, ?_⟩
  · cases eb
    exact ⟨ob, hob, hex.2.1⟩
  rw [m.trees]
  refine Calls.callWith_builtin rfl (Calls.evalArgs_plain (Calls.spliced_cons (thn (he.run pins s1 σ H1 _ I1 q1) fun iv s2 ⟨y, H2, I2, ry, q2⟩ =>
    Calls.spliced_cons (thn (hf.run pins s2 σ H2 _ I2 q2) fun fv s3 ⟨z, H3, I3, rz, kvs, k, r, ⟨xs3, hd3, he3⟩, gk, gr, q3⟩ => Calls.spliced_nil ?_))))
  obtain ⟨ad, vs, rfl, _, _⟩ := id gk
  obtain rfl : iv = Value.ref ad := ry
  obtain ⟨hs', ys3, e0, dh⟩ := nd_at I3 (I3.hok _ _ hd3).1 he3
  obtain ⟨l1, l2⟩ := look_at k he3 e0
  refine getOr_keyed (room_in hr _ _) (nis_st I3 gk) hs' ⟨ys3, dh, rfl⟩ ?_
  cases e : look kvs k with
  | some r' =>
    obtain ⟨xv, uv, e1, rv, rr⟩ := l1 r' e
    rw [e1]
    exact ⟨xv, H3, I3.tok _, rv, q3 xv (by rw [e]; exact rr)⟩
  | none =>
    rw [l2 e]
    exact ⟨z, H3, I3.tok _, rz, q3 z (by rw [e]; exact gr)⟩
/-! d[k] = v -/
def rNdPut (P : Program) (w : World) (K : PySem.W.Frag) : TSet := fun o i v H Q => ∃ d kvs k r, o = .ref d ∧ DictM P w K H d kvs ∧ (stR K k).is i H ∧ (rowN K r).is v H ∧ kvs.length < 1000000 ∧ ∀ H', DictM P w K H' d (put kvs k r) → (∀ b, b ≠ d → H' b = H b) → Fz H H' → Q H'
theorem EntS.length {K : PySem.W.Frag} {H : Hp} {kvs : Kvs} {xs : List VE} (h : EntS K H kvs xs) : kvs.length = xs.length := Paired.length h
theorem putV_nodup {k : NestedKey} {a : Addr} {v : V} : ∀ {xs : List VE}, (xs.map (·.1)).Nodup → ((putV xs k a v).map (·.1)).Nodup := by
  intro xs h
  unfold putV
  split
  · rw [List.map_map]
    have : ((fun x : VE => x.1) ∘ fun x : VE => if x.1 = k then (x.1, x.2.1, v) else x) = fun x => x.1 := by
      funext x
      show (if x.1 = k then ((x.1, x.2.1, v) : VE) else x).1 = x.1
      split <;> rfl
    rw [this]
    exact h
  · rename_i hn
    rw [List.map_append, List.nodup_append]
    refine ⟨h, by simp, fun b hb c hc => ?_⟩
    have hc : c = k := by simpa using hc
    subst hc
    intro e
    subst e
    obtain ⟨x, hx, ex⟩ := List.mem_map.mp hb
    exact hn (List.any_eq_true.mpr ⟨x, hx, decide_eq_true ex⟩)
theorem set_nd {P : Program} {w : World} {K : PySem.W.Frag} {k : Nat} (hP : X.prog = P) (hw : X.w = w) (hK : X.K = K) (hr : Room k X.A) : PSet X (rNdPut P w K) := by
  subst hP hw hK
  intro pins s σ H o i v ov iv u Q I ro ri rv hq
  obtain ⟨d, kvs, k, r, rfl, ⟨xs, hd, he⟩, gk, gr, hl, q⟩ := hq
  obtain rfl : ov = Value.ref d := ro
  obtain ⟨ad, vs, rfl, _, _⟩ := id gk
  obtain rfl : iv = Value.ref ad := ri
  have hN := (I.hok _ _ hd).1
  obtain ⟨hs, ys, e0, dh⟩ := nd_at I hN he
  have l1 := he.length
  have l2 : xs.length = ys.length := Paired.length e0
  refine wpAny_setItem_heap (hsz := by rw [← l2, ← l1]; exact Nat.le_trans (Nat.le_of_lt hl) (by decide)) (room_in hr _ _) (nis_st I gk) dh fun h' dh' sb => ?_
  obtain ⟨ob, es, ep, ho, hx, hdt, hes, _, _⟩ := dh'
  have np : NdP X.prog X.w d (putV xs (nkS k) ad v) h' := ⟨hs, by have := putV_len xs (nkS k) ad v; omega, putV_nodup hN.2.2.1, _, ent_put rv e0, ob, es, ep, ho, hx, hdt, hes⟩
  have I2 := I.write (h' := h') (t' := s.toks + (nestedKind X.prog X.w).draws (nkS k)) (o := NdO X.prog X.w d (putV xs (nkS k) ad v)) (by rw [hd]; exact True.intro) (.inl rfl) (fun b u hb e => (sb.2 b hb).trans e) ⟨ob, ho⟩ (nd_ok np)
  have f : Fz H (upd H d (NdO X.prog X.w d (putV xs (nkS k) ad v))) := Fz.mut hd nd_mut
  exact ⟨_, I2, q _ ⟨_, upd_same, (entS_put gk gr he).mono f⟩ (fun b hb => upd_ne hb) f⟩
/-! for k in d, d fixed -/
def ItN (P : Program) (w : World) (d : Addr) (o : Obj) (xs : List VE) : It :=
  ⟨fun i H => H d = some (.frz o (NdO P w d xs)) ∧ i < xs.length, fun i H x H' => H' = H ∧ ∃ e, xs[i]? = some e ∧ x = .ref e.2.1, fun i H => H d = some (.frz o (NdO P w d xs)) ∧ xs.length ≤ i⟩
theorem nd_frz (I : Inv X pins σ H s) {d : Addr} {o : Obj} {xs : List VE} (h : H d = some (.frz o (NdO X.prog X.w d xs))) :
    (d == sysModules) = false ∧ s.heap.get? d = some o ∧ o.ExactDict ∧ ∃ (es : Array DictEntry) (ep : Nat), o.data = .dict es ep ∧ es.size = xs.length ∧ ∀ (i : Nat) (e : VE), xs[i]? = some e → ∃ en, es[i]? = some en ∧ en.key = .ref e.2.1 := by
  obtain ⟨hg, ⟨a1, a2, a3, ys, a4, o', es, ep, ho, hx, hd, hes⟩, _⟩ := I.hok _ _ h
  rw [hg] at ho
  cases ho
  refine ⟨a1, hg, hx, es, ep, hd, ?_, fun i e he => ?_⟩
  · have q : es.size = ys.length := size_of_entries hes
    have l : xs.length = ys.length := Paired.length a4
    omega
  · obtain ⟨b, hb, e1, e2, _⟩ := paired_get a4 he
    have q := entry_at hes i
    rw [hb] at q
    exact ⟨_, q, by show Value.ref b.2.1 = _; rw [← e2]⟩
theorem turn_nd {P : Program} {w : World} {K : PySem.W.Frag} {tg : Expr} {d : Addr} {o : Obj} {es : Array DictEntry} {ep : Nat} {xs : List VE} (it : Addr) (hod : o.data = .dict es ep) : Turn P w K tg (ItN P w d o xs) [it] it (fun i h => h.IsKeyIter it d i xs.length ep) where
  mem := by simp
  obj := fun i h st b hb => by
    obtain rfl : b = it := by simpa using hb
    obtain ⟨oi, g, _, dd⟩ := st
    exact ⟨oi, g, fun v z => by rw [dd] at z; cases z⟩
  keep := fun i h h' st k => st.at fun oi g => k it (by simp) oi g
  item := by
    intro Y hP hw hK hc i pins s σ H E J hf st hg
    subst hP hw hK
    obtain ⟨hd, hi⟩ := hg
    obtain ⟨f0, f1, f2, f3, f4, f5⟩ := hf it (by simp)
    obtain ⟨_, g2, _, es', ep', hdt, hsz, ent⟩ := nd_frz J hd
    obtain ⟨rfl, rfl⟩ := dict_ep hod hdt
    obtain ⟨en, hen, hkey⟩ := ent i xs[i] (List.getElem?_eq_getElem hi)
    refine next_key_item st g2 hdt hsz hen fun h' st' sb => ?_
    have J1 : Inv Y pins σ H { s with heap := h' } := J.turned (t' := s.toks) (fun b ob hb g => (sb.2 b hb).trans g) f0 f1 f3 f4 f5
    obtain ⟨oi, g, c, dd⟩ := id st'
    exact ⟨en.key, rfl, go_of (s := { s with heap := h' }) g c dd (by decide) ⟨.ref xs[i].2.1, H, J1, hkey, ⟨rfl, xs[i], List.getElem?_eq_getElem hi, rfl⟩, st', fun b hb => (hf b hb).1⟩⟩
  done := by
    intro Y hP hw hK hc i pins s σ H E J hf st hg
    subst hP hw hK
    obtain ⟨hd, hi⟩ := hg
    obtain ⟨f0, f1, f2, f3, f4, f5⟩ := hf it (by simp)
    obtain ⟨_, g2, _, es', ep', hdt, hsz, _⟩ := nd_frz J hd
    obtain ⟨rfl, rfl⟩ := dict_ep hod hdt
    exact next_key_end (J.ok.hd hc) st g2 hdt hsz hi fun h' eb => ⟨rfl, J.turned (t' := s.toks) (fun b ob hb g => eb b ob hb g) f0 f1 f3 f4 f5⟩
  self := fun B i s Q E st q => wpAny_pyIter_keyiter st q
def iNd (P : Program) (w : World) (td : TE) : TI := fun σ H R => td σ H fun x H1 => ∃ d o xs, x = .ref d ∧ H1 d = some (.frz o (NdO P w d xs)) ∧ R (ItN P w d o xs) H1
theorem pi_nd {tg e : Expr} {td : TE} {P : Program} {w : World} (hP : X.prog = P) (hw : X.w = w) (he : PE X e td) : PI X tg e (iNd P w td) := by
  subst hP hw
  refine ⟨fun pins s σ H R I q0 => ?_⟩
  refine thn (he.run pins s σ H _ I q0) fun u s1 ⟨x, H1, I1, rx, d, o, xs, ex, hd, q⟩ => ?_
  subst ex
  obtain rfl : u = Value.ref d := rx
  obtain ⟨g1, g2, g3, es, ep, hdt, hsz, _⟩ := nd_frz I1 hd
  refine iter_keys g1 g2 g3 hdt (pi_one (tk := s1.toks) I1 _ (turn_nd _ hdt) ⟨_, Heap.get?_push_size _ rfl, rfl, ?_⟩ q)
  rw [hsz] <;> rfl
end
section
variable {K : PySem.W.Frag} {σ : L2.St} {H : Hp} {P : Program} {w : World} {td : TE}
theorem i_nd {kvs : Kvs} (h : EvD td σ H (Rp.dict P w K kvs)) : EvI (iNd P w td) σ H kvs.length (fun i => stR K (kvs.getD i (([], []), [])).1) := fun H1 e R q =>
  h H1 e _ fun v H2 e2 ⟨d, o, xs, a, b, c⟩ => by
    have l := c.length
    refine ⟨d, o, xs, a, b, q _ H2 e2 ⟨fun H' i f hi => ⟨f _ _ trivial b, by omega⟩, fun H' f => ⟨f _ _ trivial b, by omega⟩, fun H' i x H'' f hi y => ?_⟩⟩
    obtain ⟨rfl, en, hen, rfl⟩ := y
    obtain ⟨b2, hb, e1, _, _⟩ : ∃ kv, kvs[i]? = some kv ∧ entS K H2 kv en ∧ True ∧ True := by
      have hi' : i < kvs.length := hi
      obtain ⟨en', h1, h2⟩ := paired_get c (List.getElem?_eq_getElem hi')
      rw [hen] at h1
      cases h1
      exact ⟨_, List.getElem?_eq_getElem hi', h2, trivial, trivial⟩
    have eg : kvs.getD i (([], []), []) = b2 := by simp [hb]
    show Ex _ _ ∧ (stR K (kvs.getD i (([], []), [])).1).is _ _
    rw [eg]
    exact ⟨Ex.refl _, (stR K _).mono f e1.2.1⟩
theorem d_ndget {ta tb : TE} {kvs : Kvs} {k : Mx × Mx} {r : List Nat} (ha : EvD ta σ H (Rp.dict P w K kvs)) (hb : EvD tb σ H (stR K k)) (hl : look kvs k = some r) : EvD (tOp (rNdGet P w K) ta tb) σ H (rowN K r) := fun H1 e Q q =>
  ha H1 e _ fun v H2 e2 r2 => hb H2 (e.trans e2) _ fun u H3 e3 r3 => ⟨kvs, k, r, (Rp.dict P w K kvs).mono (Fz.ex e3) r2, r3, hl, fun x hx => q x H3 (e2.trans e3) hx⟩
end
end G
set_option maxRecDepth 100000
set_option maxHeartbeats 1000000
/-! G8: min over rows. -/
namespace G
open PySem PySem.Spec PyProof.Rows L2 Evl

/-- the order of rows -/
def lexI : List Int → List Int → Bool
  | [], [] => false
  | [], _ :: _ => true
  | _ :: _, [] => false
  | a :: l, b :: m => decide (a < b) || (decide (a = b) && lexI l m)
theorem ktok_lt (a b : List Int) : PyProof.Rows.lexLt itemOrd (PySem.W.keyToksAll (a.map PyData.int)) (PySem.W.keyToksAll (b.map PyData.int)) = lexI a b := by
  induction a generalizing b with
  | nil =>
    cases b with
    | nil => rfl
    | cons y m => rfl
  | cons x l ih =>
    cases b with
    | nil => rfl
    | cons y m =>
      show PyProof.Rows.lexLt itemOrd (.inl 1 :: .inl x :: PySem.W.keyToksAll (l.map PyData.int)) (.inl 1 :: .inl y :: PySem.W.keyToksAll (m.map PyData.int)) = _
      rw [PyProof.Rows.lex_self]
      by_cases h : x = y
      · subst h
        rw [PyProof.Rows.lex_self, ih]
        simp [lexI]
      · rw [PyProof.Rows.lex_diff (fun e => h (by injection e))]
        show decide (x < y) = _
        simp [lexI, h]
theorem dlt_row (a b : List Int) : PySem.W.dataLt (dRow a) (dRow b) = lexI a b := (PySem.W.dataLt_tuple _ _).trans (ktok_lt a b)
theorem alike_ints : ∀ a b : List Int, PySem.W.alikeAll (a.map PyData.int) (b.map PyData.int) = true
  | [], _ => by simp [PySem.W.alikeAll]
  | _ :: _, [] => by simp [PySem.W.alikeAll]
  | x :: a, y :: b => by
    have := alike_ints a b
    simp [PySem.W.alikeAll, PySem.W.alike, this]
theorem alike_row (a b : List Int) : PySem.W.alike (dRow a) (dRow b) = true := by
  have := alike_ints a b
  simpa [dRow, PySem.W.alike] using this
def minI (x : List Int) (xs : List (List Int)) : List Int := xs.foldl (fun a y => if lexI y a then y else a) x
section
variable {X : Cx} {pins : List (Addr × Obj)} {σ : L2.St} {H : Hp} {s : Shared}
theorem reads_row (I : Inv X pins σ H s) {r : List Int} {v : V} {u : Value} (h : (rowT X.K r).is v H) (e : RelV v u) : ∃ as, Reads s.heap u (dRow r) as := by
  obtain ⟨p, rfl, b⟩ := rowT_sq h
  exact Dp.reads I _ _ _ (.tup b (dp_ints r)) e
theorem depth_row (r : List Int) : (dRow r).depth ≤ 2 := by
  have := depth_ints r
  show PyData.depthAll (r.map PyData.int) + 1 ≤ 2
  omega
/-- the rows at the places of a list of values -/
theorem reads_at (I : Inv X pins σ H s) : ∀ {rs : List (List Int)} {vs : List V} {us : List Value}, All2 (rs.map (rowT X.K)) vs H → Vals vs us → ∀ (i : Nat) (u : Value), us[i]? = some u → ∃ v, RelV v u ∧ (rowT X.K (rs.getD i [])).is v H
  | [], _, _, .nil, .nil, i, u, h => by simp at h
  | r :: rs, _, _, .cons a t, .cons b q, 0, u, h => by
    cases h
    exact ⟨_, b, a⟩
  | r :: rs, _, _, .cons a t, .cons b q, i + 1, u, h => reads_at I t q i u (by simpa using h)
theorem cmp_rows (I : Inv X pins σ H s) {rs : List (List Int)} {vs : List V} {us : List Value} (h : All2 (rs.map (rowT X.K)) vs H) (hv : Vals vs us) {A : Around} (hu : A.units + 2 < cLine) :
    CmpIn X.prog X.w A .Lt s.heap (fun i v => us.toArray[i]? = some v) (fun i j => lexI (rs.getD i []) (rs.getD j [])) := fun i j vi vj s' Q E hk hi hj hq => by
  obtain ⟨v1, e1, r1⟩ := reads_at I h hv i vi (by simpa using hi)
  obtain ⟨v2, e2, r2⟩ := reads_at I h hv j vj (by simpa using hj)
  obtain ⟨as1, g1⟩ := reads_row I r1 e1
  obtain ⟨as2, g2⟩ := reads_row I r2 e2
  have d1 := depth_row (rs.getD i [])
  refine PySem.W.rcLt_alike _ _ A s' vi vj _ _ (PyProof.Rows.Reads.keeps hk g1) (PyProof.Rows.Reads.keeps hk g2) (alike_row _ _) (by intro z; cases z) ?_ X.prog X.w E Q (by rw [dlt_row]; exact hq)
  have := Nat.min_le_left (dRow (rs.getD i [])).depth (dRow (rs.getD j [])).depth
  omega
theorem best_row (r : List Int) (rs : List (List Int)) : (r :: rs).getD (argBest (fun i j => lexI ((r :: rs).getD i []) ((r :: rs).getD j [])) rs.length) [] = minI r rs := by
  have h := (PySem.W.argBest_fold lexI [] r rs rs.length (Nat.le_refl _)).2
  rw [List.take_length] at h
  exact h
/-- min(xs), xs a list of rows -/
def rMinRows (K : PySem.W.Frag) : List V → Hp → VK → Prop := fun vs H Q => ∃ p ws r rs, vs = [.ref p] ∧ SqL K H p ws ∧ All2 ((r :: rs).map (rowT K)) ws H ∧ ∀ v, (rowT K (minI r rs)).is v H → Q v H
theorem cr_minRows (hc : X.calm = true) {k : Nat} (hr : Room k X.A) : CallR X (.builtin "min") (rMinRows X.K) := by
  intro pins s σ H vs us Q I rv0 hq
  obtain ⟨p, ws, r, rs, rfl, hs, ha, q⟩ := hq
  obtain ⟨its, rv, hl, _⟩ := I.list hs
  rw [Vals.ref1 rv0]
  have hu := hr.units
  have hh := I.ok.hd hc
  have hn : its.length = rs.length + 1 := by
    rw [← rv.length, ← ha.length, List.length_map, List.length_cons]
  refine call_min_walkH (PySem.W.iter_listW (A := X.A.in1) hh hl.isList fun s₂ e W st hfp hw hk => ?_)
  refine ⟨_, _, _, _, _, _, _, s.heap, _, rfl, W, st, hfp, by simp; omega, hw, hk, cmp_rows I ha rv (A := X.A.in1) (by show X.A.units + 1 + 2 < _; omega), fun v s' hP m => ?_⟩
  obtain ⟨h', tk, rfl, hk'⟩ := PySem.W.moved_old e rfl m
  have hP' : its[argBest (fun i j => lexI ((r :: rs).getD i []) ((r :: rs).getD j [])) (its.toArray.size - 1)]? = some v := by simpa using hP
  have ez : its.toArray.size - 1 = rs.length := by simp; omega
  rw [ez] at hP'
  obtain ⟨v1, e1, r1⟩ := reads_at I ha rv _ v hP'
  rw [best_row] at r1
  exact ⟨v1, H, I.kept hk', e1, q v1 r1⟩
/-- min(x, y), rows -/
def rMin2R (K : PySem.W.Frag) : List V → Hp → VK → Prop := fun vs H Q => ∃ a b r r', vs = [a, b] ∧ (rowT K r).is a H ∧ (rowT K r').is b H ∧ ∀ v, (rowT K (minI r [r'])).is v H → Q v H
theorem call_min2H {prog : Program} {w : World} {A : Around} {E : Value → Shared → Prop} {s : Shared} {a b : Value} {Q : Value → Shared → Prop}
    (h : wpAny (model prog w) A.in1 (pyIter (.ref s.heap.objs.size)) (fun it s₂ => ∃ I fp wr G n P St H bt, it = .ref I ∧ WalksS prog w A.in1 I fp wr G n P St ∧ St 0 s₂ ∧ (∀ b ∈ fp, b < s₂.heap.objs.size) ∧ 0 < n ∧
      (∀ b o, H.get? b = some o → b ∉ wr) ∧ (∀ b o, H.get? b = some o → s₂.heap.get? b = some o) ∧ CmpIn prog w A.in1 .Lt H P bt ∧ ∀ v s', P (argBest bt (n - 1)) v → Moved wr G s₂ s' → Q v s') E
      { s with heap := s.heap.push { cls := .type "tuple", data := .seq #[a, b] } }) : wpAny (model prog w) A (call (.builtin "min") [a, b]) Q E s := by
  have nm : (toString "min" ++ toString ".loop" : String) = "min.loop" := by decide
  refine call_function_tree F.kind_min F.plain_min F.entry_min (F.args_min2 _ _) ?_
  show wpAny _ A.in1 (Builtin.Builtins.bindParams "min" ["key", "default"] 0 ⟨[], []⟩ >>= _) _ _ s
  refine wpAny_bind (wpAny_of_eq (show Builtin.Builtins.bindParams "min" ["key", "default"] 0 ⟨[], []⟩ = pure [none, none] from rfl) ?_)
  show wpAny _ A.in1 (newTuple [a, b] >>= _) _ _ s
  refine wpAny_bind (wpAny_newObj_type ?_)
  refine wpAny_bind (wpAny_mono h (fun it s₂ g => ?_) fun _ _ e => e)
  obtain ⟨I, fp, wr, G, n, P, St, H, bt, rfl, W, hst, hfp, hn, hw, hkeep, hcmp, hQ⟩ := g
  refine wpAny_bind (wpAny_newObj_type ?_)
  have nf : s₂.heap.objs.size ∉ fp := fun hm => Nat.lt_irrefl _ (hfp _ hm)
  rw [nm]
  refine wpAny_pure ⟨plainId_quiet F.plain_min_loop _, codeAny_min_loop_firstH W H hw bt hcmp s₂.heap.objs.size nf (fresh_in hkeep) _ hn (fun b o e => Heap.get?_push_of_some _ (hkeep b o e)) (W.frame 0 s₂ _ s₂.toks hst (Nat.le_refl _) fun b _ o e => Heap.get?_push_of_some _ e) (Heap.get?_push_size _ rfl) fun v s' hP hm => ?_⟩
  exact hQ v s' hP (Moved.drop_new (tk := s₂.toks) hm (Nat.le_refl _))
theorem cr_min2R (hc : X.calm = true) {k : Nat} (hr : Room k X.A) : CallR X (.builtin "min") (rMin2R X.K) := by
  intro pins s σ H vs us Q I rv0 hq
  obtain ⟨a, b, r, r', rfl, ra, rb, q⟩ := hq
  cases rv0 with
  | cons e1 t =>
    cases t with
    | cons e2 t =>
      cases t
      rename_i u1 u2
      have hu := hr.units
      have hh := I.ok.hd hc
      have I1 : Inv X pins σ H { s with heap := s.heap.push { cls := .type "tuple", data := .seq #[u1, u2] } } := I.kept (t' := s.toks) fun b o e => Heap.get?_push_of_some _ e
      have rv : Vals [a, b] [u1, u2] := .cons e1 (.cons e2 .nil)
      have ha : All2 ([r, r'].map (rowT X.K)) [a, b] H := .cons ra (.cons rb .nil)
      refine call_min2H ?_
      refine PySem.W.iter_tupleW (A := X.A.in1) hh (vs := #[u1, u2]) ⟨_, Heap.get?_push_size _ rfl, rfl, 0, rfl⟩ fun s₂ e W st hfp hw hk => ?_
      refine ⟨_, _, _, _, _, _, _, _, _, rfl, W, st, hfp, by show 0 < 2; decide, hw, hk, cmp_rows I1 ha rv (A := X.A.in1) (by show X.A.units + 1 + 2 < _; omega), fun v s' hP m => ?_⟩
      obtain ⟨h', tk, rfl, hk'⟩ := PySem.W.moved_old e rfl m
      have hP' : [u1, u2][argBest (fun i j => lexI ([r, r'].getD i []) ([r, r'].getD j [])) [r'].length]? = some v := by
        have := hP
        simpa using this
      obtain ⟨v1, e3, r1⟩ := reads_at I1 ha rv _ v hP'
      rw [best_row] at r1
      exact ⟨v1, H, I1.kept hk', e3, q v1 r1⟩
end
section
variable {K : PySem.W.Frag} {σ : L2.St} {H : Hp} {ta tb : TE}
theorem minRowsK {X : Cx} (hK : X.K = K) (hc : X.calm = true) {k : Nat} (hr : Room k X.A) : CallR X (.builtin "min") (rMinRows K) := hK ▸ cr_minRows hc hr
theorem min2RK {X : Cx} (hK : X.K = K) (hc : X.calm = true) {k : Nat} (hr : Room k X.A) : CallR X (.builtin "min") (rMin2R K) := hK ▸ cr_min2R hc hr
theorem d_minRows {r : List Int} {rs : List (List Int)} (h : EvD ta σ H (.lst ((r :: rs).map (rowT K)))) : EvD (tCB (rMinRows K) (tCons ta tNil)) σ H (rowT K (minI r rs)) :=
  d_cb1 h fun v H1 e ⟨p, ws, a, b, c⟩ Q q => ⟨p, ws, r, rs, by rw [a], b.l, c, fun v hv => q v H1 (Ex.refl _) hv⟩
end
end G
set_option maxRecDepth 100000
set_option maxHeartbeats 1000000
/-! G9: a dict of one's own that grows, then stands; rows of nodes; the mirror of green_row. -/
namespace G
open PySem PySem.Spec PyProof.Rows L2 Evl
/-- a dict is fixed -/
def tFrN (P : Program) (w : World) (t : TE) : TE := fun σ H Q => t σ H fun v H1 => ∃ d xs, v = .ref d ∧ H1 d = some (NdO P w d xs) ∧ ∀ o, Q (.ref d) (upd H1 d (.frz o (NdO P w d xs)))
theorem pe_frN {X : Cx} {e : Expr} {t : TE} {P : Program} {w : World} (h : PE X e t) : PE X e (tFrN P w t) := by
  refine ⟨fun pins s σ H Q I q => ?_⟩
  refine thn (h.run pins s σ H _ I q) fun u s1 ⟨v, H1, I1, r1, d, xs, ev, hd, k⟩ => ?_
  subst ev
  obtain ⟨o, I2⟩ := inv_fz I1 hd
  exact ⟨.ref d, _, I2, r1, k o⟩
section
variable {P : Program} {w : World} {K : PySem.W.Frag} {H0 H H1 : Hp} {d : Addr} {kvs : Kvs} {σ : L2.St} {j : Nat}
def DictW (P : Program) (w : World) (K : PySem.W.Frag) (H0 : Hp) (d : Addr) (kvs : Kvs) (H : Hp) : Prop := H0 d = none ∧ Ex H0 H ∧ DictM P w K H d kvs
theorem DictW.fz (h : DictW P w K H0 d kvs H) : Fz H0 H := Fz.ex h.2.1
theorem DictW.ext (h : DictW P w K H0 d kvs H) (e : Ex H H1) : DictW P w K H0 d kvs H1 := by
  obtain ⟨a, b, xs, c, f⟩ := h
  exact ⟨a, b.trans e, xs, e _ _ c, f.mono (Fz.ex e)⟩
theorem DictW.start (h : H0 d = none) : DictW P w K H0 d [] (upd H0 d (NdO P w d [])) := ⟨h, Ex.new h, [], upd_same, .nil⟩
theorem DictW.frV (h : DictW P w K H0 d kvs H) (hσ : σ[j]? = some (some (.ref d))) {Q : VK} (k : ∀ H1, Ex H0 H1 → Fz H H1 → (Rp.dict P w K kvs).is (.ref d) H1 → Q (.ref d) H1) : tFrN P w (tVar j) σ H Q := by
  obtain ⟨a, b, xs, c, f⟩ := h
  refine ⟨.ref d, hσ, d, xs, rfl, c, fun o => k _ (Ex.mut b a) (Fz.mut c nd_mut) ⟨d, o, xs, rfl, upd_same, f.mono (Fz.mut c nd_mut)⟩⟩
/-- d[k] = v -/
theorem DictW.put {k : Mx × Mx} {r : List Nat} {y v : V} (h : DictW P w K H0 d kvs H) (hk : (stR K k).is y H) (hr : (rowN K r).is v H) (hl : kvs.length < 1000000) {Q : Hp → Prop} (q : ∀ H1, Fz H H1 → DictW P w K H0 d (put kvs k r) H1 → Q H1) : rNdPut P w K (.ref d) y v H Q := by
  obtain ⟨a, b, m⟩ := h
  refine ⟨d, kvs, k, r, rfl, m, hk, hr, hl, fun H' m' hb f => q H' f ⟨a, fun x o e => ?_, m'⟩⟩
  have ne : x ≠ d := ne_of_none e a
  rw [hb x ne]
  exact b x o e
end
/-! ### rows of nodes -/
def ofR (r : List Nat) : List Int := r.map fun x : Nat => (x : Int)
def lexN (a b : List Nat) : Bool := lexI (ofR a) (ofR b)
def minN (x : List Nat) (xs : List (List Nat)) : List Nat := xs.foldl (fun a y => if lexN y a then y else a) x
theorem minN_eq : ∀ (xs : List (List Nat)) (x : List Nat), minI (ofR x) (xs.map ofR) = ofR (minN x xs)
  | [], _ => rfl
  | y :: xs, x => by
    show minI (if lexI (ofR y) (ofR x) then ofR y else ofR x) (xs.map ofR) = ofR (minN (if lexN y x then y else x) xs)
    unfold lexN
    split
    · exact minN_eq xs y
    · exact minN_eq xs x
/-! ### the mirror -/
def stepIn (told : List Nat) (acc : Kvs) (s : Nat × Mx × Mx) : Kvs := put acc s.2 (minN (told ++ [s.1]) [(look acc s.2).getD (told ++ [s.1])])
def stepAll (acc : Kvs) (told : List Nat) (steps : List (Nat × Mx × Mx)) : Kvs := steps.foldl (stepIn told) acc
def levelIn (acc : Kvs) (kv : (Mx × Mx) × List Nat) : Kvs := stepAll acc kv.2 (greenSteps kv.1.1 kv.1.2)
def nextLevel (here : Kvs) : Kvs := here.foldl levelIn []
def goodOf (here : Kvs) : List (List Nat) := (here.filter fun kv => decide (greensOf kv.1.2 = [])).map (·.2)
def greenLoop : Nat → Kvs → Option (List Nat)
  | 0, _ => none
  | k + 1, here => match goodOf here with
    | g :: gs => some (minN g gs)
    | [] => greenLoop k (nextLevel here)
def level0 (w : Mx) : Kvs := [((w, firstFrame w.length), [])]
def greenRow (w : Mx) : Option (List Nat) := greenLoop 7 (level0 w)
def levels (w : Mx) : Nat → Kvs
  | 0 => level0 w
  | t + 1 => nextLevel (levels w t)
/-- what holds of a level -/
structure LvOk (n : Nat) (kvs : Kvs) : Prop where
  nd : (kvs.map (·.1)).Nodup
  sq : ∀ kv, kv ∈ kvs → Sq n kv.1.1 ∧ Sq n kv.1.2 ∧ Bd 1000 kv.1.1 ∧ Bd 1000 kv.1.2 ∧ kv.2.length ≤ 100
theorem look_in : ∀ {kvs : Kvs}, (kvs.map (·.1)).Nodup → ∀ kv, kv ∈ kvs → look kvs kv.1 = some kv.2
  | [], _, _, h => by cases h
  | p :: kvs, nd, kv, h => by
    rw [List.map_cons, List.nodup_cons] at nd
    by_cases e : p.1 = kv.1
    · rcases List.mem_cons.mp h with rfl | h
      · simp [look]
      · exact absurd (List.mem_map.mpr ⟨kv, h, e.symm⟩) nd.1
    · rcases List.mem_cons.mp h with rfl | h
      · exact absurd rfl e
      · have := look_in nd.2 kv h
        simpa [look, e] using this
theorem put_len (kvs : Kvs) (k : Mx × Mx) (v : List Nat) : (put kvs k v).length ≤ kvs.length + 1 := by
  unfold put
  split <;> simp
theorem put_keys {kvs : Kvs} {k : Mx × Mx} {v : List Nat} (h : (kvs.map (·.1)).Nodup) : ((put kvs k v).map (·.1)).Nodup := by
  unfold put
  split
  · rw [List.map_map]
    have : ((fun x : (Mx × Mx) × List Nat => x.1) ∘ fun kv : (Mx × Mx) × List Nat => if kv.1 = k then (kv.1, v) else kv) = fun x => x.1 := by
      funext x
      show (if x.1 = k then ((x.1, v) : (Mx × Mx) × List Nat) else x).1 = x.1
      split <;> rfl
    rw [this]
    exact h
  · rename_i hn
    rw [List.map_append, List.nodup_append]
    refine ⟨h, by simp, fun b hb c hc => ?_⟩
    have hc : c = k := by simpa using hc
    subst hc
    intro e
    subst e
    obtain ⟨x, hx, ex⟩ := List.mem_map.mp hb
    exact hn (List.any_eq_true.mpr ⟨x, hx, decide_eq_true ex⟩)
theorem put_mem {kvs : Kvs} {k : Mx × Mx} {v : List Nat} {kv : (Mx × Mx) × List Nat} (h : kv ∈ put kvs k v) : kv ∈ kvs ∨ kv = (k, v) := by
  unfold put at h
  split at h
  · obtain ⟨x, hx, e⟩ := List.mem_map.mp h
    split at e
    · rename_i ek
      rw [ek] at e
      exact .inr e.symm
    · rw [← e]
      exact .inl hx
  · rcases List.mem_append.mp h with h | h
    · exact .inl h
    · exact .inr (by simpa using h)
theorem look_mem {kvs : Kvs} {k : Mx × Mx} {r : List Nat} (h : look kvs k = some r) : (k, r) ∈ kvs := by
  unfold look at h
  cases e : kvs.find? fun kv => decide (kv.1 = k) with
  | none => rw [e] at h; cases h
  | some p =>
    rw [e] at h
    have h2 := List.find?_some e
    have h3 := List.mem_of_find?_eq_some e
    have h4 : p.1 = k := of_decide_eq_true h2
    have h5 : p.2 = r := by simpa using h
    rw [← h4, ← h5]
    exact h3
theorem minN2_or (a b : List Nat) : minN a [b] = a ∨ minN a [b] = b := by
  show (if lexN b a then b else a) = a ∨ (if lexN b a then b else a) = b
  split
  · exact .inr rfl
  · exact .inl rfl
theorem stepIn_ok {n : Nat} {told : List Nat} {acc : Kvs} {s : Nat × Mx × Mx} (h : LvOk n acc) (hs : Sq n s.2.1 ∧ Sq n s.2.2 ∧ Bd 1000 s.2.1 ∧ Bd 1000 s.2.2) (ht : told.length + 1 ≤ 100) : LvOk n (stepIn told acc s) := by
  refine ⟨put_keys h.nd, fun kv hk => ?_⟩
  rcases put_mem hk with hk | rfl
  · exact h.sq kv hk
  · refine ⟨hs.1, hs.2.1, hs.2.2.1, hs.2.2.2, ?_⟩
    show (minN (told ++ [s.1]) [(look acc s.2).getD (told ++ [s.1])]).length ≤ 100
    rcases minN2_or (told ++ [s.1]) ((look acc s.2).getD (told ++ [s.1])) with e | e
    · rw [e]
      simpa using ht
    · rw [e]
      cases el : look acc s.2 with
      | none => simpa using ht
      | some r => exact (h.sq _ (look_mem el)).2.2.2.2
theorem steps_ok {n : Nat} {w t : Mx} (hw : Sq n w) (ht : Sq n t) {s : Nat × Mx × Mx} (hs : s ∈ greenSteps w t) : s.1 < n ∧ Sq n s.2.1 ∧ Sq n s.2.2 ∧ Bd 1000 s.2.1 ∧ Bd 1000 s.2.2 := by
  unfold greenSteps at hs
  obtain ⟨h1, h2⟩ := List.mem_filter.mp hs
  obtain ⟨x, hx, rfl⟩ := List.mem_map.mp h1
  rw [Bool.and_eq_true] at h2
  have hlt := List.mem_range.mp (List.mem_filter.mp hx).1
  rw [ht.len] at hlt
  exact ⟨hlt, hw.behind x, hw.lines ht x, isSmall_iff.mp h2.1, isSmall_iff.mp h2.2⟩
theorem stepAll_ok {n : Nat} {told : List Nat} (ht : told.length + 1 ≤ 100) : ∀ {steps : List (Nat × Mx × Mx)} {acc : Kvs}, LvOk n acc → (∀ s, s ∈ steps → Sq n s.2.1 ∧ Sq n s.2.2 ∧ Bd 1000 s.2.1 ∧ Bd 1000 s.2.2) → LvOk n (stepAll acc told steps) ∧ (stepAll acc told steps).length ≤ acc.length + steps.length
  | [], acc, h, _ => ⟨h, Nat.le_refl _⟩
  | s :: r, acc, h, hs => by
    have h1 := stepIn_ok (s := s) h (hs s (by simp)) ht
    obtain ⟨h2, h3⟩ := stepAll_ok ht h1 fun x hx => hs x (List.mem_cons_of_mem _ hx)
    refine ⟨h2, Nat.le_trans h3 ?_⟩
    have := put_len acc s.2 (minN (told ++ [s.1]) [(look acc s.2).getD (told ++ [s.1])])
    show (stepIn told acc s).length + r.length ≤ acc.length + (r.length + 1)
    unfold stepIn
    omega
theorem greens_len {n : Nat} {t : Mx} (h : Sq n t) : (greensOf t).length ≤ n := by
  have q := List.length_filter_le (isGreen t) (List.range t.length)
  unfold greensOf
  rw [List.length_range] at q
  rw [h.len] at q ⊢
  exact q
theorem steps_len {n : Nat} {w t : Mx} (h : Sq n t) : (greenSteps w t).length ≤ n := by
  unfold greenSteps
  refine Nat.le_trans (List.length_filter_le _ _) ?_
  rw [List.length_map]
  exact greens_len h
theorem level_ok {n m : Nat} (hm : m + 1 ≤ 100) : ∀ {here : Kvs} {acc : Kvs}, LvOk n acc → (∀ kv, kv ∈ here → Sq n kv.1.1 ∧ Sq n kv.1.2 ∧ kv.2.length ≤ m) → LvOk n (here.foldl levelIn acc) ∧ (here.foldl levelIn acc).length ≤ acc.length + n * here.length
  | [], acc, h, _ => ⟨h, Nat.le_add_right _ _⟩
  | kv :: r, acc, h, hs => by
    obtain ⟨a, b, c⟩ := hs kv (by simp)
    obtain ⟨h1, h2⟩ := stepAll_ok (n := n) (told := kv.2) (by omega) (steps := greenSteps kv.1.1 kv.1.2) h fun s hs' => (steps_ok a b hs').2
    obtain ⟨h3, h4⟩ := level_ok hm h1 fun x hx => hs x (List.mem_cons_of_mem _ hx)
    refine ⟨h3, Nat.le_trans h4 ?_⟩
    have := steps_len (w := kv.1.1) b
    rw [List.length_cons, Nat.mul_succ]
    omega
end G
set_option maxRecDepth 100000
set_option maxHeartbeats 4000000
/-! TX: the text by places, what the top has left (Txt), the form of the promises (spD). -/
namespace G
open PySem PySem.Spec PyProof.Rows L2 Evl
def topS (i : Nat) : Stmt := PySem.Challenge.pw_dartwebs_k14_whole_green_rows.main.body.getD i (.Pass ⟨0, 0, 0, 0⟩)
abbrev s_is_integer : Stmt := topS 9
abbrev N_is_integer : List Str := ["value"]
theorem sc0 : FnScope N_is_integer ["value"] (defScope s_is_integer) := ⟨rfl, rfl, rfl, by decide +kernel, rfl, by decide +kernel, by decide +kernel⟩
abbrev s_is_from : Stmt := topS 10
abbrev N_is_from : List Str := ["value", "low", "high"]
theorem sc1 : FnScope N_is_from ["value", "low", "high"] (defScope s_is_from) := ⟨rfl, rfl, rfl, by decide +kernel, rfl, by decide +kernel, by decide +kernel⟩
abbrev s_is_line : Stmt := topS 11
abbrev N_is_line : List Str := ["n", "value", "many"]
theorem sc2 : FnScope N_is_line ["n", "value"] (defScope s_is_line) := ⟨rfl, rfl, rfl, by decide +kernel, rfl, by decide +kernel, by decide +kernel⟩
abbrev s_is_web : Stmt := topS 12
abbrev N_is_web : List Str := ["value", "n", "y", "z", "line"]
theorem sc3 : FnScope N_is_web ["value"] (defScope s_is_web) := ⟨rfl, rfl, rfl, by decide +kernel, rfl, by decide +kernel, by decide +kernel⟩
abbrev s_need_web : Stmt := topS 13
abbrev N_need_web : List Str := ["value"]
theorem sc4 : FnScope N_need_web ["value"] (defScope s_need_web) := ⟨rfl, rfl, rfl, by decide +kernel, rfl, by decide +kernel, by decide +kernel⟩
abbrev s_frozen : Stmt := topS 14
abbrev N_frozen : List Str := ["table", "line"]
theorem sc5 : FnScope N_frozen ["table"] (defScope s_frozen) := ⟨rfl, rfl, rfl, by decide +kernel, rfl, by decide +kernel, by decide +kernel⟩
abbrev s_added_by : Stmt := topS 15
abbrev N_added_by : List Str := ["left", "right"]
theorem sc6 : FnScope N_added_by ["left", "right"] (defScope s_added_by) := ⟨rfl, rfl, rfl, by decide +kernel, rfl, by decide +kernel, by decide +kernel⟩
abbrev s_behind_turn : Stmt := topS 16
abbrev N_behind_turn : List Str := ["web", "x", "y", "n", "table", "z"]
theorem sc7 : FnScope N_behind_turn ["web", "x"] (defScope s_behind_turn) := ⟨rfl, rfl, rfl, by decide +kernel, rfl, by decide +kernel, by decide +kernel⟩
abbrev s_need_small : Stmt := topS 17
abbrev N_need_small : List Str := ["table", "line", "many"]
theorem sc8 : FnScope N_need_small ["table"] (defScope s_need_small) := ⟨rfl, rfl, rfl, by decide +kernel, rfl, by decide +kernel, by decide +kernel⟩
abbrev s_turn_of : Stmt := topS 18
abbrev N_turn_of : List Str := ["web", "x", "found"]
theorem sc9 : FnScope N_turn_of ["web", "x"] (defScope s_turn_of) := ⟨rfl, rfl, rfl, by decide +kernel, rfl, by decide +kernel, by decide +kernel⟩
abbrev s_is_row : Stmt := topS 19
abbrev N_is_row : List Str := ["n", "value", "x"]
theorem sc10 : FnScope N_is_row ["n", "value"] (defScope s_is_row) := ⟨rfl, rfl, rfl, by decide +kernel, rfl, by decide +kernel, by decide +kernel⟩
abbrev s_need_row : Stmt := topS 20
abbrev N_need_row : List Str := ["web", "value"]
theorem sc11 : FnScope N_need_row ["web", "value"] (defScope s_need_row) := ⟨rfl, rfl, rfl, by decide +kernel, rfl, by decide +kernel, by decide +kernel⟩
abbrev s_first_frame : Stmt := topS 23
abbrev N_first_frame : List Str := ["n", "y", "x"]
theorem sc12 : FnScope N_first_frame ["n"] (defScope s_first_frame) := ⟨rfl, rfl, rfl, by decide +kernel, rfl, by decide +kernel, by decide +kernel⟩
abbrev s_frame_lines : Stmt := topS 24
abbrev N_frame_lines : List Str := ["web", "table", "x", "found", "line", "z"]
theorem sc13 : FnScope N_frame_lines ["web", "table", "x"] (defScope s_frame_lines) := ⟨rfl, rfl, rfl, by decide +kernel, rfl, by decide +kernel, by decide +kernel⟩
abbrev s_frame_turn : Stmt := topS 25
abbrev N_frame_turn : List Str := ["web", "table", "x", "found"]
theorem sc14 : FnScope N_frame_turn ["web", "table", "x"] (defScope s_frame_turn) := ⟨rfl, rfl, rfl, by decide +kernel, rfl, by decide +kernel, by decide +kernel⟩
abbrev s_frame_behind : Stmt := topS 26
abbrev N_frame_behind : List Str := ["web", "row", "table", "x", "later"]
theorem sc15 : FnScope N_frame_behind ["web", "row"] (defScope s_frame_behind) := ⟨rfl, rfl, rfl, by decide +kernel, rfl, by decide +kernel, by decide +kernel⟩
abbrev s_frame : Stmt := topS 27
abbrev N_frame : List Str := ["web", "row", "found", "table"]
theorem sc16 : FnScope N_frame ["web", "row"] (defScope s_frame) := ⟨rfl, rfl, rfl, by decide +kernel, rfl, by decide +kernel, by decide +kernel⟩
abbrev s_greens_of : Stmt := topS 28
abbrev N_greens_of : List Str := ["table", "x", "line"]
theorem sc17 : FnScope N_greens_of ["table"] (defScope s_greens_of) := ⟨rfl, rfl, rfl, by decide +kernel, rfl, by decide +kernel, by decide +kernel⟩
abbrev s_is_small : Stmt := topS 29
abbrev N_is_small : List Str := ["table", "line", "many"]
theorem sc18 : FnScope N_is_small ["table"] (defScope s_is_small) := ⟨rfl, rfl, rfl, by decide +kernel, rfl, by decide +kernel, by decide +kernel⟩
abbrev s_green_steps : Stmt := topS 30
abbrev N_green_steps : List Str := ["web", "table", "found", "x", "later", "lines"]
theorem sc19 : FnScope N_green_steps ["web", "table"] (defScope s_green_steps) := ⟨rfl, rfl, rfl, by decide +kernel, rfl, by decide +kernel, by decide +kernel⟩
abbrev s_green_row : Stmt := topS 31
abbrev N_green_row : List Str := ["web", "here", "turn", "good", "behind", "state", "x", "later", "lines", "told"]
theorem sc20 : FnScope N_green_row ["web"] (defScope s_green_row) := ⟨rfl, rfl, rfl, by decide +kernel, rfl, by decide +kernel, by decide +kernel⟩
abbrev s_law_taken : Stmt := topS 33
abbrev N_law_taken : List Str := ["_law_row", "_law_many", "_law_cell", "_law_found"]
theorem sc21 : FnScope N_law_taken ["_law_row", "_law_many"] (defScope s_law_taken) := ⟨rfl, rfl, rfl, by decide +kernel, rfl, by decide +kernel, by decide +kernel⟩
abbrev s_law_pick : Stmt := topS 34
abbrev N_law_pick : List Str := ["_law_row", "_law_things"]
theorem sc22 : FnScope N_law_pick ["_law_row", "_law_things"] (defScope s_law_pick) := ⟨rfl, rfl, rfl, by decide +kernel, rfl, by decide +kernel, by decide +kernel⟩
abbrev s_law_alike : Stmt := topS 35
abbrev N_law_alike : List Str := ["_law_found", "_law_due", "_law_k", "_law_key"]
theorem sc23 : FnScope N_law_alike ["_law_found", "_law_due"] (defScope s_law_alike) := ⟨rfl, rfl, rfl, by decide +kernel, rfl, by decide +kernel, by decide +kernel⟩
abbrev s_law_web : Stmt := topS 36
abbrev N_law_web : List Str := ["_law_row", "_law_most", "_law_strong", "_law_table", "_law_z", "_law_n", "_law_way", "_law_y", "_law_x", "_law_many", "_law_line"]
theorem sc24 : FnScope N_law_web ["_law_row", "_law_most", "_law_strong"] (defScope s_law_web) := ⟨rfl, rfl, rfl, by decide +kernel, rfl, by decide +kernel, by decide +kernel⟩
abbrev s_law_turn : Stmt := topS 37
abbrev N_law_turn : List Str := ["_law_web_here", "_law_x", "_law_y", "_law_n", "_law_table", "_law_z", "_law_line", "_law_more"]
theorem sc25 : FnScope N_law_turn ["_law_web_here", "_law_x"] (defScope s_law_turn) := ⟨rfl, rfl, rfl, by decide +kernel, rfl, by decide +kernel, by decide +kernel⟩
abbrev s_law_frame_turn : Stmt := topS 38
abbrev N_law_frame_turn : List Str := ["_law_web_here", "_law_table", "_law_x", "_law_found", "_law_line", "_law_new", "_law_z", "_law_more"]
theorem sc26 : FnScope N_law_frame_turn ["_law_web_here", "_law_table", "_law_x"] (defScope s_law_frame_turn) := ⟨rfl, rfl, rfl, by decide +kernel, rfl, by decide +kernel, by decide +kernel⟩
abbrev s_law_frames : Stmt := topS 39
abbrev N_law_frames : List Str := ["_law_web_here", "_law_told", "_law_table", "_law_found", "_law_x", "_law_y", "_law_line", "_law_many"]
theorem sc27 : FnScope N_law_frames ["_law_web_here", "_law_told"] (defScope s_law_frames) := ⟨rfl, rfl, rfl, by decide +kernel, rfl, by decide +kernel, by decide +kernel⟩
abbrev s_law_column : Stmt := topS 40
abbrev N_law_column : List Str := ["_law_table", "_law_x", "_law_line"]
theorem sc28 : FnScope N_law_column ["_law_table", "_law_x"] (defScope s_law_column) := ⟨rfl, rfl, rfl, by decide +kernel, rfl, by decide +kernel, by decide +kernel⟩
abbrev s_law_greens : Stmt := topS 41
abbrev N_law_greens : List Str := ["_law_table", "_law_x"]
theorem sc29 : FnScope N_law_greens ["_law_table"] (defScope s_law_greens) := ⟨rfl, rfl, rfl, by decide +kernel, rfl, by decide +kernel, by decide +kernel⟩
abbrev s_law_green_row : Stmt := topS 42
abbrev N_law_green_row : List Str := ["_law_web_here", "_law_here", "_law_turn_here", "_law_behind", "_law_told", "_law_now", "_law_table", "_law_x", "_law_y", "_law_later", "_law_lines", "_law_line", "_law_many"]
theorem sc30 : FnScope N_law_green_row ["_law_web_here"] (defScope s_law_green_row) := ⟨rfl, rfl, rfl, by decide +kernel, rfl, by decide +kernel, by decide +kernel⟩
abbrev s_law_sinks : Stmt := topS 43
abbrev N_law_sinks : List Str := ["_law_web_here", "_law_turn_here", "_law_left", "_law_found", "_law_some", "_law_x", "_law_z"]
theorem sc31 : FnScope N_law_sinks ["_law_web_here"] (defScope s_law_sinks) := ⟨rfl, rfl, rfl, by decide +kernel, rfl, by decide +kernel, by decide +kernel⟩
abbrev s_law : Stmt := topS 44
abbrev N_law : List Str := ["_law_script", "_law_row", "_law_web_here", "_law_found", "_law_far", "_law_told", "_law_states", "_law_table", "_law_at", "_law_x", "_law_line"]
theorem sc32 : FnScope N_law ["_law_script"] (defScope s_law) := ⟨rfl, rfl, rfl, by decide +kernel, rfl, by decide +kernel, by decide +kernel⟩

/-- a def as the top has left it -/
structure Df (K : PySem.W.Frag) (mg : Str → Option Value) (x : Str) (st : Stmt) (ps : List Str) (f : Addr) (fd : FuncData) : Prop where
  F : Fun K x x st f fd
  b : Binds K fd ps []
  g : mg x = some (.ref f)
/-- where the defs stand -/
structure Ad where
  a : Nat → Addr
  d : Nat → FuncData
structure Txt (K : PySem.W.Frag) (mg : Str → Option Value) (A : Ad) : Prop where
  d_is_integer : Df K mg "is_integer" s_is_integer ["value"] (A.a 0) (A.d 0)
  d_is_from : Df K mg "is_from" s_is_from ["value", "low", "high"] (A.a 1) (A.d 1)
  d_is_line : Df K mg "is_line" s_is_line ["n", "value"] (A.a 2) (A.d 2)
  d_is_web : Df K mg "is_web" s_is_web ["value"] (A.a 3) (A.d 3)
  d_need_web : Df K mg "need_web" s_need_web ["value"] (A.a 4) (A.d 4)
  d_frozen : Df K mg "frozen" s_frozen ["table"] (A.a 5) (A.d 5)
  d_added_by : Df K mg "added_by" s_added_by ["left", "right"] (A.a 6) (A.d 6)
  d_behind_turn : Df K mg "behind_turn" s_behind_turn ["web", "x"] (A.a 7) (A.d 7)
  d_need_small : Df K mg "need_small" s_need_small ["table"] (A.a 8) (A.d 8)
  d_turn_of : Df K mg "turn_of" s_turn_of ["web", "x"] (A.a 9) (A.d 9)
  d_is_row : Df K mg "is_row" s_is_row ["n", "value"] (A.a 10) (A.d 10)
  d_need_row : Df K mg "need_row" s_need_row ["web", "value"] (A.a 11) (A.d 11)
  d_first_frame : Df K mg "first_frame" s_first_frame ["n"] (A.a 12) (A.d 12)
  d_frame_lines : Df K mg "frame_lines" s_frame_lines ["web", "table", "x"] (A.a 13) (A.d 13)
  d_frame_turn : Df K mg "frame_turn" s_frame_turn ["web", "table", "x"] (A.a 14) (A.d 14)
  d_frame_behind : Df K mg "frame_behind" s_frame_behind ["web", "row"] (A.a 15) (A.d 15)
  d_frame : Df K mg "frame" s_frame ["web", "row"] (A.a 16) (A.d 16)
  d_greens_of : Df K mg "greens_of" s_greens_of ["table"] (A.a 17) (A.d 17)
  d_is_small : Df K mg "is_small" s_is_small ["table"] (A.a 18) (A.d 18)
  d_green_steps : Df K mg "green_steps" s_green_steps ["web", "table"] (A.a 19) (A.d 19)
  d_green_row : Df K mg "green_row" s_green_row ["web"] (A.a 20) (A.d 20)
  d_law_taken : Df K mg "_law_taken" s_law_taken ["_law_row", "_law_many"] (A.a 21) (A.d 21)
  d_law_pick : Df K mg "_law_pick" s_law_pick ["_law_row", "_law_things"] (A.a 22) (A.d 22)
  d_law_alike : Df K mg "_law_alike" s_law_alike ["_law_found", "_law_due"] (A.a 23) (A.d 23)
  d_law_web : Df K mg "_law_web" s_law_web ["_law_row", "_law_most", "_law_strong"] (A.a 24) (A.d 24)
  d_law_turn : Df K mg "_law_turn" s_law_turn ["_law_web_here", "_law_x"] (A.a 25) (A.d 25)
  d_law_frame_turn : Df K mg "_law_frame_turn" s_law_frame_turn ["_law_web_here", "_law_table", "_law_x"] (A.a 26) (A.d 26)
  d_law_frames : Df K mg "_law_frames" s_law_frames ["_law_web_here", "_law_told"] (A.a 27) (A.d 27)
  d_law_column : Df K mg "_law_column" s_law_column ["_law_table", "_law_x"] (A.a 28) (A.d 28)
  d_law_greens : Df K mg "_law_greens" s_law_greens ["_law_table"] (A.a 29) (A.d 29)
  d_law_green_row : Df K mg "_law_green_row" s_law_green_row ["_law_web_here"] (A.a 30) (A.d 30)
  d_law_sinks : Df K mg "_law_sinks" s_law_sinks ["_law_web_here"] (A.a 31) (A.d 31)
  d_law : Df K mg "law" s_law ["_law_script"] (A.a 32) (A.d 32)
  z_isinstance : mg "isinstance" = none
  z_int : mg "int" = none
  z_bool : mg "bool" = none
  z_tuple : mg "tuple" = none
  z_list : mg "list" = none
  z_dict : mg "dict" = none
  z_str : mg "str" = none
  z_len : mg "len" = none
  z_all : mg "all" = none
  z_any : mg "any" = none
  z_abs : mg "abs" = none
  z_range : mg "range" = none
  z_min : mg "min" = none
  z_max : mg "max" = none
  z_sum : mg "sum" = none
  z_sorted : mg "sorted" = none
  z_enumerate : mg "enumerate" = none
  c_MOST_NODES : ∃ t, mg "MOST_NODES" = some (.int 6 t)
  c_MOST_ARROWS : ∃ t, mg "MOST_ARROWS" = some (.int 1000 t)
  c_MOST_TURNS : ∃ t, mg "MOST_TURNS" = some (.int 200 t)
  c_MOST_GREEN : ∃ t, mg "MOST_GREEN" = some (.int 6 t)

/-! ### promises: the arguments and the heap tell the shape that comes back -/
abbrev Pre := List V → Hp → Rp → Prop
def spD (pre : Pre) : Sp := fun vs H Q _ => ∃ R, pre vs H R ∧ ∀ v H', Ex H H' → R.is v H' → Q v H'
section
variable {σ : L2.St} {H : Hp} {ta tb tc : TE} {tr : TA} {R A B C : Rp} {pre : Pre} {E : XK}
theorem d_eqB {b c : Bool} (h : EvD ta σ H (.bl b)) (e : b = c) : EvD ta σ H (.bl c) := e ▸ h
theorem d_eqI {b c : Int} (h : EvD ta σ H (.int b)) (e : b = c) : EvD ta σ H (.int c) := e ▸ h
theorem d_eqR (h : EvD ta σ H R) (e : R = A) : EvD ta σ H A := e ▸ h
theorem d_callP {Rs : List Rp} (h : EvDA tr σ H Rs) (hp : ∀ vs H1, Ex H H1 → All2 Rs vs H1 → pre vs H1 R) : EvD (tCall (spD pre) [] E tr) σ H R :=
  d_call h fun vs H1 e r Q q => ⟨R, hp vs H1 e r, q⟩
theorem d_call1 (h : EvD ta σ H A) (hp : ∀ v H1, Ex H H1 → A.is v H1 → pre [v] H1 R) : EvD (tCall (spD pre) [] E (tCons ta tNil)) σ H R :=
  d_callP (d_cons h d_nil) fun vs H1 e r => by
    obtain ⟨v, rfl, a⟩ := all2_1 r
    exact hp v H1 e a
theorem d_call2 (h : EvD ta σ H A) (h2 : EvD tb σ H B) (hp : ∀ v w H1, Ex H H1 → A.is v H1 → B.is w H1 → pre [v, w] H1 R) : EvD (tCall (spD pre) [] E (tCons ta (tCons tb tNil))) σ H R :=
  d_callP (d_cons h (d_cons h2 d_nil)) fun vs H1 e r => by
    obtain ⟨v, w, rfl, a, b⟩ := all2_2 r
    exact hp v w H1 e a b
theorem d_call3 (h : EvD ta σ H A) (h2 : EvD tb σ H B) (h3 : EvD tc σ H C) (hp : ∀ v w x H1, Ex H H1 → A.is v H1 → B.is w H1 → C.is x H1 → pre [v, w, x] H1 R) : EvD (tCall (spD pre) [] E (tCons ta (tCons tb (tCons tc tNil)))) σ H R :=
  d_callP (d_cons h (d_cons h2 (d_cons h3 d_nil))) fun vs H1 e r => by
    obtain ⟨v, w, x, rfl, a, b, c⟩ := all2_3 r
    exact hp v w x H1 e a b c
end
end G
set_option maxRecDepth 100000
set_option maxHeartbeats 4000000
/-! W1: the looks at a web, frozen, added_by, behind_turn. -/
namespace G
open PySem PySem.Spec PyProof.Rows L2 Evl
section
variable {P : Program} {w : World} {K : PySem.W.Frag} {mg : Str → Option Value} {base : Heap} {A : Ad}
/-! is_integer -/
def pIsInteger : Pre := fun vs H R => ∃ i, vs = [.int i] ∧ R = .bl true
theorem ok_is_integer (T : Txt K mg A) : FnOk P w K mg base CX0 1 (A.a 0) (A.d 0) ["value"] (spD pIsInteger) := by
  refine T.d_is_integer.F.ok sc0 (fun vs H Q E h => ?_) (fun cdv A outer s H vs Q E hr h => ?_)
  · obtain ⟨R, ⟨i, rfl, _⟩, _⟩ := h
    rfl
  · obtain ⟨R, ⟨i, rfl, rfl⟩, k⟩ := h
    refine ⟨_, (pss_one (ps_ret (pe_and (pe_callB (isiK K rfl) (by rfl) T.z_isinstance (by decide +kernel) (pa_cons (pv 0) (pa_cons (pe_bltn (v := .ty "int") (by rfl) T.z_int (by decide +kernel) rfl) pa_nil))) (pe_one (pe_not (pe_callB (isiK K rfl) (by rfl) T.z_isinstance (by decide +kernel) (pa_cons (pv 0) (pa_cons (pe_bltn (v := .ty "bool") (by rfl) T.z_bool (by decide +kernel) rfl) pa_nil)))))))), ?_⟩
    have hv : EvD (tVar 0) (start ["value"] [V.int i]) H (.int i) := d_varV rfl
    exact s_retD (d_andV (d_isi ty_int (b := true) (by decide +kernel) hv) fun _ => d_notV (d_isi ty_int (b := false) (by decide +kernel) hv)) fun v H1 e r => k v H1 e r
/-! is_from -/
def pIsFrom : Pre := fun vs H R => ∃ i l h, vs = [.int i, .int l, .int h] ∧ R = .bl (decide (l ≤ i) && decide (i ≤ h))
theorem ok_is_from (T : Txt K mg A) : FnOk P w K mg base CX0 2 (A.a 1) (A.d 1) ["value", "low", "high"] (spD pIsFrom) := by
  refine T.d_is_from.F.ok sc1 (fun vs H Q E h => ?_) (fun cdv A outer s H vs Q E hr h => ?_)
  · obtain ⟨R, ⟨i, l, h, rfl, _⟩, _⟩ := h
    rfl
  · obtain ⟨R, ⟨i, l, h, rfl, rfl⟩, k⟩ := h
    refine ⟨_, (pss_one (ps_ret (pe_and (pe_call (ok_is_integer T) (hr.mono (by decide)) (by rfl) T.d_is_integer.g T.d_is_integer.F.kp T.d_is_integer.b .nil pass0 (pa_cons (pv 0) pa_nil)) (pe_one (pe_chain op_le op_le (pv 1) (pv 0) (pv 2)))))), ?_⟩
    refine s_retD (d_andV (d_call1 (R := .bl true) (d_varV (i := 0) rfl) fun v H1 e r => ⟨i, by rw [show v = V.int i from r], rfl⟩) fun _ => d_chainI (d_varV (i := 1) rfl) (d_varV (i := 0) rfl) (d_varV (i := 2) rfl)) fun v H1 e r => k v H1 e r
/-! is_line -/
def pIsLine (K : PySem.W.Frag) : Pre := fun vs H R => ∃ v r, vs = [.int (r.length : Int), v] ∧ (rowT K r).is v H ∧ r.length ≤ 1000 ∧ (∀ a, a ∈ r → -1000 ≤ a ∧ a ≤ 1000) ∧ R = .bl true
theorem ok_is_line (T : Txt K mg A) : FnOk P w K mg base CX0 3 (A.a 2) (A.d 2) ["n", "value"] (spD (pIsLine K)) := by
  refine T.d_is_line.F.ok sc2 (fun vs H Q E h => ?_) (fun cdv A outer s H vs Q E hr h => ?_)
  · obtain ⟨R, ⟨v, r, rfl, _⟩, _⟩ := h
    rfl
  · obtain ⟨R, ⟨v, r, rfl, hv, hlen, hb, rfl⟩, k⟩ := h
    refine ⟨_, (pss_cons (ps_if (PW.pt (pw_or (pt_not (pt_val (pe_callB (isiK K rfl) (by rfl) T.z_isinstance (by decide +kernel) (pa_cons (pv 1) (pa_cons (pe_bltn (v := .ty "tuple") (by rfl) T.z_tuple (by decide +kernel) rfl) pa_nil))))) (pw_or1 (pt_cmpR op_ne (pe_callB (lenK K rfl) (by rfl) T.z_len (by decide +kernel) (pa_cons (pv 1) pa_nil)) (pv 0) (nomark _))))) (pss_one (ps_ret pe_bl)) pss_nil)
      (pss_one (ps_ret (pe_callB (allK K rfl rfl) (by rfl) T.z_all (by decide +kernel) (pa_cons (pe_fr (pe_lc (own := [("many", 2)]) (g := gName 2) rfl sc2.nd (piK K rfl (pv 1)) (blkOk_by (N := N_is_line) (sc := defScope s_is_line) (by decide +kernel)) (fun _ _ _ _ _ => pg_name (i := 2) sc2.nd rfl (Or.inl rfl)) (fun _ _ _ _ _ => pts_nil) (fun _ _ _ _ _ => (pe_call (ok_is_from T) (hr.mono (by decide)) (by rfl) T.d_is_from.g T.d_is_from.F.kp T.d_is_from.b .nil pass0 (pa_cons (pv 2) (pa_cons (pe_un un_neg (pe_glob (v := .int 1000) (by rfl) T.c_MOST_ARROWS.choose_spec ⟨_, rfl⟩)) (pa_cons (pe_glob (v := .int 1000) (by rfl) T.c_MOST_ARROWS.choose_spec ⟨_, rfl⟩) pa_nil))))))) pa_nil))))), ?_⟩
    have h1 : EvD (tVar 1) (start ["n", "value", "many"] [V.int (r.length : Int), v]) H (rowT K r) := d_var rfl hv
    have h0 : EvD (tVar 0) (start ["n", "value", "many"] [V.int (r.length : Int), v]) H (.int (r.length : Int)) := d_varV rfl
    have ht : EvT _ (start ["n", "value", "many"] [V.int (r.length : Int), v]) H (!true || !decide (V.int ((r.map Rp.int).length : Int) = V.int (r.length : Int))) :=
      et_or (et_not (d_tB (d_isi (K := K) (c := "tuple") ty_tup (b := true) (by decide +kernel) h1))) fun _ => d_test (d_ne rfl (d_len (h1.le fun _ _ => Rp.tup_seq)) h0)
    refine q_when ht (fun hb => ?_) (fun _ H1 e1 => ?_)
    · simp at hb
    · refine s_retD (R := .bl true) (d_eqB (d_all (K := K) (bs := (List.range r.length).map fun _ => true) ?_) (by simp)) fun v H2 e2 r2 => k v H2 (e1.trans e2) r2
      rw [List.map_map]
      refine d_lcA (i_map (P := Rp.int) 0 ((h1.up e1).le fun _ _ => Rp.tup_seq)) _ (by omega) (fun x => rfl) (fun i x H2 e2 hi hx => d_call3 (R := .bl true) (d_varV rfl) (d_neg d_c) d_c fun a b c H3 e3 ra rb rc => ?_) (fun _ _ => t_yes)
      obtain rfl : a = x := ra
      obtain rfl : b = V.int (-1000) := rb
      obtain rfl : c = V.int 1000 := rc
      have hx : a = V.int (r.getD i 0) := hx
      subst hx
      have hm : r.getD i 0 ∈ r := by
        have e : r.getD i 0 = r[i] := by simp [hi]
        rw [e]
        exact List.getElem_mem hi
      have := hb _ hm
      exact ⟨_, _, _, rfl, by rw [decide_eq_true this.1, decide_eq_true this.2]; rfl⟩
theorem flat2_len (n i : Nat) (o : Nat → Nat → Rp) : (flat2 i (fun _ => n) o).length = i * n := by
  induction i with
  | zero => simp [flat2]
  | succ i ih =>
    have e : flat2 (i + 1) (fun _ => n) o = flat2 i (fun _ => n) o ++ (List.range n).map (o i) := by
      unfold flat2
      rw [List.range_succ, List.flatMap_append]
      simp
    rw [e, List.length_append, ih, List.length_map, List.length_range, Nat.succ_mul]
theorem flat2_le {n i : Nat} {o : Nat → Nat → Rp} (h : i ≤ 100) (h2 : n ≤ 100) : (flat2 i (fun _ => n) o).length ≤ 900000 := by
  rw [flat2_len]
  exact Nat.le_trans (Nat.mul_le_mul h h2) (by decide)
/-! is_web -/
structure GoodW (n : Nat) (w : Mx) : Prop where
  sq : Sq n w
  pos : 1 ≤ n
  le : n ≤ 6
  bd : Bd 1000 w
  anti : ∀ y z, y < n → z < n → at2 w y z = -(at2 w z y)
def pIsWeb (K : PySem.W.Frag) : Pre := fun vs H R => ∃ v n w, vs = [v] ∧ (matT K w).is v H ∧ GoodW n w ∧ R = .bl true
theorem d_at {σ : L2.St} {H : Hp} {ta tb tc : TE} {n : Nat} {w : Mx} {y z : Nat} (g : Sq n w) (h : EvD ta σ H (matS K w)) (hy : EvD tb σ H (.int (y : Int))) (hz : EvD tc σ H (.int (z : Int))) (ly : y < n) (lz : z < n) :
    EvD (tOp (rIx K) (tOp (rIx K) ta tb) tc) σ H (.int (at2 w y z)) := by
  have e1 : (w.map (rowS K))[y]? = some (rowS K (w.getD y [])) := by
    rw [List.getElem?_map, g.getRow ly]
    rfl
  refine d_ix (d_ix h hy e1) hz ?_
  rw [List.getElem?_map, getD_at (by rw [g.rowLen ly]; exact lz)]
  rfl
theorem ok_is_web (T : Txt K mg A) : FnOk P w K mg base CX0 4 (A.a 3) (A.d 3) ["value"] (spD (pIsWeb K)) := by
  refine T.d_is_web.F.ok sc3 (fun vs H Q E h => ?_) (fun cdv A outer s H vs Q E hr h => ?_)
  · obtain ⟨R, ⟨v, n, m, rfl, _⟩, _⟩ := h
    rfl
  · obtain ⟨R, ⟨v, n, m, rfl, hv, hg, rfl⟩, k⟩ := h
    have hn := hg.le
    have h1 := hg.pos
    refine ⟨_, (pss_cons (ps_if (PW.pt (pw_or (pt_not (pt_val (pe_callB (isiK K rfl) (by rfl) T.z_isinstance (by decide +kernel) (pa_cons (pv 0) (pa_cons (pe_bltn (v := .ty "tuple") (by rfl) T.z_tuple (by decide +kernel) rfl) pa_nil))))) (pw_or1 (pt_not (pt_chain op_le op_le pe_int (pe_callB (lenK K rfl) (by rfl) T.z_len (by decide +kernel) (pa_cons (pv 0) pa_nil)) (pe_glob (v := .int 6) (by rfl) T.c_MOST_NODES.choose_spec ⟨_, rfl⟩)))))) (pss_one (ps_ret pe_bl)) pss_nil)
      (pss_cons (ps_set (i := 1) sc3.nd rfl (Or.inr rfl) (pe_callB (lenK K rfl) (by rfl) T.z_len (by decide +kernel) (pa_cons (pv 0) pa_nil)))
      (pss_cons (ps_if (pt_not (pt_val (pe_callB (allK K rfl rfl) (by rfl) T.z_all (by decide +kernel) (pa_cons (pe_fr (pe_lc (own := [("line", 4)]) (g := gName 4) rfl sc3.nd (piK K rfl (pv 0)) (blkOk_by (N := N_is_web) (sc := defScope s_is_web) (by decide +kernel)) (fun _ _ _ _ _ => pg_name (i := 4) sc3.nd rfl (Or.inl rfl)) (fun _ _ _ _ _ => pts_nil) (fun _ _ _ _ _ => (pe_call (ok_is_line T) (hr.mono (by decide)) (by rfl) T.d_is_line.g T.d_is_line.F.kp T.d_is_line.b .nil pass0 (pa_cons (pv 1) (pa_cons (pv 4) pa_nil)))))) pa_nil)))) (pss_one (ps_ret pe_bl)) pss_nil)
      (pss_one (ps_ret (pe_callB (allK K rfl rfl) (by rfl) T.z_all (by decide +kernel) (pa_cons (pe_fr (pe_lc2 (own := [("y", 2), ("z", 3)]) (g := gName 2) (vs1 := [3]) (g1 := gName 3) rfl sc3.nd (pi_range1 (by rfl) T.z_range (pa_cons (pv 1) pa_nil)) (blkOk_by (N := N_is_web) (sc := defScope s_is_web) (by decide +kernel)) (by decide) (fun _ _ _ _ _ => pg_name (i := 2) sc3.nd rfl (Or.inl rfl)) (fun _ _ _ _ _ => pts_nil) (fun _ _ _ _ _ => (pi_range1 (by rfl) T.z_range (pa_cons (pv 1) pa_nil))) (fun _ _ _ _ _ => pg_name (i := 3) sc3.nd rfl (Or.inl rfl)) (fun _ _ _ _ _ => pts_nil) (fun _ _ _ _ _ => (pe_cmpR op_eq (pe_ix (ixK K rfl) (pe_ix (ixK K rfl) (pv 0) (pv 2) (fun _ _ => rfl)) (pv 3) (fun _ _ => rfl)) (pe_un un_neg (pe_ix (ixK K rfl) (pe_ix (ixK K rfl) (pv 0) (pv 3) (fun _ _ => rfl)) (pv 2) (fun _ _ => rfl))) (nomark _))))) pa_nil))))))), ?_⟩
    have hm : EvD (tVar 0) (start N_is_web [v]) H (matT K m) := d_var rfl hv
    refine q_when (b := false) (et_is (et_or (et_not (d_tB (d_isi (K := K) (c := "tuple") ty_tup (b := true) (by decide +kernel) hm))) fun _ => et_not (d_tB (d_chainI d_c (d_len (hm.le fun _ _ => Rp.tup_seq)) d_c))) ?_) (fun hb => ?_) (fun _ H1 e1 => ?_)
    · rw [List.length_map, hg.sq.len]
      simp
      omega
    · cases hb
    refine q_asgD (d_len ((hm.up e1).le fun _ _ => Rp.tup_seq)) fun vn H2 e2 hvn => ?_
    obtain rfl : vn = V.int (n : Int) := by
      rw [List.length_map, hg.sq.len] at hvn
      exact hvn
    have e12 := e1.trans e2
    have hm2 : EvD (tVar 0) ((start N_is_web [v]).set 1 (some (V.int (n : Int)))) H2 (matT K m) := d_var rfl ((matT K m).mono (Fz.ex e12) hv)
    refine q_when (b := false) (et_is (et_not (d_tB (d_all (K := K) (bs := (List.range m.length).map fun _ => true) ?_))) (by simp)) (fun hb => ?_) (fun _ H3 e3 => ?_)
    · rw [List.map_map]
      refine d_lcA (i_map (P := rowT K) [] (hm2.le fun _ _ => Rp.tup_seq)) _ (by rw [hg.sq.len]; omega) (fun x => rfl) (fun i x H2 e2 hi hx => d_call2 (R := .bl true) (d_varV rfl) (d_varV rfl) fun a b H3 e3 ra rb => ?_) (fun _ _ => t_yes)
      obtain rfl : a = V.int (n : Int) := ra
      obtain rfl : b = x := rb
      have hi' : i < n := by rw [← hg.sq.len]; exact hi
      have hl := hg.sq.rowLen hi'
      have hmem : m.getD i [] ∈ m := by
        have e : m.getD i [] = m[i] := by simp [hi]
        rw [e]
        exact List.getElem_mem hi
      exact ⟨b, m.getD i [], by rw [hl], (rowT K _).mono (Fz.ex e3) hx, by omega, fun a ha => hg.bd _ hmem a ha, rfl⟩
    · cases hb
    have e13 := e12.trans e3
    have hm3 : ∀ H4, Ex H3 H4 → (matS K m).is v H4 := fun H4 e4 => matT_S m _ _ ((matT K m).mono (Fz.ex (e13.trans e4)) hv)
    refine s_retD (R := .bl true) (d_eqB (d_all (K := K) (bs := (List.range n).flatMap fun _ => (List.range n).map fun _ => true) ?_) (by simp)) fun v H4 e4 r4 => k v H4 (e13.trans e4) r4
    have hf : ((List.range n).flatMap fun _ => (List.range n).map fun _ => true).map Rp.bl = flat2 n (fun _ => n) (fun _ _ => Rp.bl true) := by
      simp only [flat2, List.map_flatMap, List.map_map]
      rfl
    rw [hf]
    refine d_lc2 (fun _ => n) (fun _ l => .int (l : Int)) _ (i_rng1 (d_cons (d_varV rfl) d_nil) (Int.natCast_nonneg n) (by omega)) (fun i hi => ?_) (fun _ => by omega) (fun x => rfl) (fun x y => rfl) (fun _ _ => t_yes) (fun _ _ => t_yes)
      (fun i x H4 e4 hi hx => i_rng1 (d_cons (d_varV rfl) d_nil) (Int.natCast_nonneg n) (by omega)) (fun i l x y H4 e4 hi hl hx hy => ?_)
    · exact flat2_le (by omega) (by omega)
    · have ix : x = V.int (i : Int) := hx
      have iy : y = V.int (l : Int) := hy
      subst ix iy
      have e := hg.anti i l hi hl
      refine d_eqB (d_eq rfl (d_at hg.sq (d_var rfl (hm3 _ e4)) (d_varV rfl) (d_varV rfl) hi hl) (d_neg (g := fun i => .int (-i)) (d_at hg.sq (d_var rfl (hm3 _ e4)) (d_varV rfl) (d_varV rfl) hl hi))) ?_
      rw [e]
      simp
/-! need_web -/
def pNeedWeb (K : PySem.W.Frag) : Pre := fun vs H R => ∃ v n w, vs = [v] ∧ (matT K w).is v H ∧ GoodW n w ∧ R = .non
theorem ok_need_web (T : Txt K mg A) : FnOk P w K mg base CX0 5 (A.a 4) (A.d 4) ["value"] (spD (pNeedWeb K)) := by
  refine T.d_need_web.F.ok sc4 (fun vs H Q E h => ?_) (fun cdv A outer s H vs Q E hr h => ?_)
  · obtain ⟨R, ⟨v, n, m, rfl, _⟩, _⟩ := h
    rfl
  · obtain ⟨R, ⟨v, n, m, rfl, hv, hg, rfl⟩, k⟩ := h
    refine ⟨_, (pss_one (ps_if (pt_not (pt_val (pe_call (ok_is_web T) (hr.mono (by decide)) (by rfl) T.d_is_web.g T.d_is_web.F.kp T.d_is_web.b .nil pass0 (pa_cons (pv 0) pa_nil)))) (pss_one ps_never) pss_nil)), ?_⟩
    refine s_when (b := false) (et_not (d_tB (d_call1 (R := .bl true) (d_var rfl hv) fun a H1 e r => ⟨a, n, m, rfl, r, hg, rfl⟩))) (fun hb => by cases hb) fun _ H1 e1 => ?_
    exact k .non H1 e1 rfl
/-! frozen -/
def pFrozen (K : PySem.W.Frag) : Pre := fun vs H R => ∃ v m, vs = [v] ∧ (matS K m).is v H ∧ m.length ≤ 1000 ∧ R = matT K m
theorem ok_frozen (T : Txt K mg A) : FnOk P w K mg base CX0 1 (A.a 5) (A.d 5) ["table"] (spD (pFrozen K)) := by
  refine T.d_frozen.F.ok sc5 (fun vs H Q E h => ?_) (fun cdv A outer s H vs Q E hr h => ?_)
  · obtain ⟨R, ⟨v, m, rfl, _⟩, _⟩ := h
    rfl
  · obtain ⟨R, ⟨v, m, rfl, hv, hl, rfl⟩, k⟩ := h
    refine ⟨_, (pss_one (ps_ret (pe_callTy (tupK K rfl) (by rfl) T.z_tuple (by decide +kernel) (pa_cons (pe_fr (pe_lc (own := [("line", 1)]) (g := gName 1) rfl sc5.nd (piK K rfl (pv 0)) (blkOk_by (N := N_frozen) (sc := defScope s_frozen) (by decide +kernel)) (fun _ _ _ _ _ => pg_name (i := 1) sc5.nd rfl (Or.inl rfl)) (fun _ _ _ _ _ => pts_nil) (fun _ _ _ _ _ => (pe_callTy (tupK K rfl) (by rfl) T.z_tuple (by decide +kernel) (pa_cons (pv 1) pa_nil))))) pa_nil)))), ?_⟩
    refine s_retD (R := matT K m) (d_tupL ?_) k
    rw [← map_range_getD [] (rowT K) m]
    exact d_lcA (i_map (P := rowS K) [] (d_var rfl hv)) _ (by omega) (fun x => rfl) (fun i x H2 e2 hi hx => d_tupS (d_var rfl hx)) (fun _ _ => t_yes)
/-! added_by -/
theorem iabs_le {a B : Int} (h : -B ≤ a ∧ a ≤ B) : 0 ≤ iabs a ∧ iabs a ≤ B := by
  unfold iabs
  split <;> omega
def pAddedBy : Pre := fun vs H R => ∃ a b, vs = [.int a, .int b] ∧ -1000000 ≤ a ∧ a ≤ 1000000 ∧ R = .int (addedBy a b)
theorem ok_added_by (T : Txt K mg A) : FnOk P w K mg base CX0 1 (A.a 6) (A.d 6) ["left", "right"] (spD pAddedBy) := by
  refine T.d_added_by.F.ok sc6 (fun vs H Q E h => ?_) (fun cdv A outer s H vs Q E hr h => ?_)
  · obtain ⟨R, ⟨a, b, rfl, _⟩, _⟩ := h
    rfl
  · obtain ⟨R, ⟨a, b, rfl, h1, h2, rfl⟩, k⟩ := h
    refine ⟨_, (pss_one (ps_ret (pe_op op_fdiv (pe_op op_add (pe_op op_mul (pe_callB call_absA (by rfl) T.z_abs (by decide +kernel) (pa_cons (pv 0) pa_nil)) (pv 1)) (pe_op op_mul (pv 0) (pe_callB call_absA (by rfl) T.z_abs (by decide +kernel) (pa_cons (pv 1) pa_nil)))) pe_int))), ?_⟩
    have h3 := iabs_le ⟨h1, h2⟩
    have ha : EvD (tVar 0) (start N_added_by [V.int a, V.int b]) H (.int a) := d_varV rfl
    have hb : EvD (tVar 1) (start N_added_by [V.int a, V.int b]) H (.int b) := d_varV rfl
    exact s_retD (d_I (g := fun i j => .int (i / j)) ⟨by decide, by decide⟩ (d_I0 (g := fun i j => .int (i + j)) (d_I (g := fun i j => .int (i * j)) (.inl ⟨by omega, by omega⟩) (d_abs ha) hb) (d_I (g := fun i j => .int (i * j)) (.inl ⟨by omega, by omega⟩) ha (d_abs hb))) d_c) k
/-! behind_turn -/
theorem matS_seq {m : Mx} {v : V} {H : Hp} (h : (matS K m).is v H) : (Rp.seq K (m.map (rowS K))).is v H := h
theorem d_added {σ : L2.St} {H : Hp} {ta tb : TE} {a b : Int} {E : XK} (ha : EvD ta σ H (.int a)) (hb : EvD tb σ H (.int b)) (h : -1000 ≤ a ∧ a ≤ 1000) : EvD (tCall (spD pAddedBy) [] E (tCons ta (tCons tb tNil))) σ H (.int (addedBy a b)) :=
  d_call2 ha hb fun v w H1 e r1 r2 => ⟨a, b, by rw [show v = V.int a from r1, show w = V.int b from r2], by omega, by omega, rfl⟩
def pBehind (K : PySem.W.Frag) : Pre := fun vs H R => ∃ v n w x, vs = [v, .int (x : Nat)] ∧ (matS K w).is v H ∧ Sq n w ∧ Bd 1000 w ∧ n ≤ 100 ∧ x < n ∧ R = matT K (behindTurn w x)
theorem ok_behind_turn (T : Txt K mg A) : FnOk P w K mg base CX0 2 (A.a 7) (A.d 7) ["web", "x"] (spD (pBehind K)) := by
  refine T.d_behind_turn.F.ok sc7 (fun vs H Q E h => ?_) (fun cdv A outer s H vs Q E hr h => ?_)
  · obtain ⟨R, ⟨v, n, m, x, rfl, _⟩, _⟩ := h
    rfl
  · obtain ⟨R, ⟨v, n, m, x, rfl, hv, hq, hbd, hn, hx, rfl⟩, k⟩ := h
    refine ⟨_, (pss_cons (ps_par (i := 3) (j := 4) rfl sc7.nd rfl rfl (by decide) rfl rfl (pa_cons (pe_callB (lenK K rfl) (by rfl) T.z_len (by decide +kernel) (pa_cons (pv 0) pa_nil)) (pa_cons (pe_lst pa_nil) pa_nil)) (by rfl))
      (pss_cons (ps_for PassesOwn.never rfl (pi_range1 (by rfl) T.z_range (pa_cons (pv 3) pa_nil)) (pg_name (i := 2) sc7.nd rfl (Or.inr rfl)) (pss_one (ps_expr (pe_bm PySem.F.plainAttrs_list PySem.F.slot_list_append PySem.F.type_list_append mt_append (pv 4) (pa_cons (pe_fr (pe_lc (own := [("z", 5)]) (g := gName 5) rfl sc7.nd (pi_range1 (by rfl) T.z_range (pa_cons (pv 3) pa_nil)) (blkOk_by (N := N_behind_turn) (sc := defScope s_behind_turn) (by decide +kernel)) (fun _ _ _ _ _ => pg_name (i := 5) sc7.nd rfl (Or.inl rfl)) (fun _ _ _ _ _ => pts_nil) (fun _ _ _ _ _ => (pe_ifExp (pt_cmpR (inK K rfl) (pv 1) (pe_tup (pa_cons (pv 2) (pa_cons (pv 5) pa_nil))) (by rfl)) (pe_un un_neg (pe_ix (ixK K rfl) (pe_ix (ixK K rfl) (pv 0) (pv 2) (fun _ _ => rfl)) (pv 5) (fun _ _ => rfl))) (pe_op op_add (pe_ix (ixK K rfl) (pe_ix (ixK K rfl) (pv 0) (pv 2) (fun _ _ => rfl)) (pv 5) (fun _ _ => rfl)) (pe_call (ok_added_by T) (hr.mono (by decide)) (by rfl) T.d_added_by.g T.d_added_by.F.kp T.d_added_by.b .nil pass0 (pa_cons (pe_ix (ixK K rfl) (pe_ix (ixK K rfl) (pv 0) (pv 2) (fun _ _ => rfl)) (pv 1) (fun _ _ => rfl)) (pa_cons (pe_ix (ixK K rfl) (pe_ix (ixK K rfl) (pv 0) (pv 1) (fun _ _ => rfl)) (pv 5) (fun _ _ => rfl)) pa_nil)))))))) pa_nil)))))
      (pss_one (ps_ret (pe_call (ok_frozen T) (hr.mono (by decide)) (by rfl) T.d_frozen.g T.d_frozen.F.kp T.d_frozen.b .nil pass0 (pa_cons (pe_fr (pv 4)) pa_nil)))))), ?_⟩
    refine q_parW (d_len (d_var rfl (matS_seq hv))) fun a p H1 w1 ra => ?_
    obtain rfl : a = V.int (n : Int) := by
      rw [List.length_map, hq.len] at ra
      exact ra
    have hv1 : ∀ H2, Fz H1 H2 → (matS K m).is v H2 := fun H2 f => (matS K m).mono (w1.fz.trans f) hv
    have hz : (0 : Int) ≤ 1000 := by decide
    refine q_forD (i_rng1 (d_cons (d_varV rfl) d_nil) (Int.natCast_nonneg n) (by omega)) fun H2 e2 => ⟨fun i σ' H' => ∃ y, σ' = [some v, some (.int (x : Nat)), y, some (.int (n : Int)), some (.ref p), none] ∧ Fz H1 H' ∧ Fz H2 H' ∧ LcW H p ((List.range i).map fun y => rowL ((List.range n).map fun z => if x = y ∨ x = z then -(at2 m y z) else at2 m y z + addedBy (at2 m y x) (at2 m x z))) H',
      ⟨_, rfl, Fz.ex e2, Fz.refl _, w1.ext e2⟩, fun i σ' H' ⟨y, _, _, f, _⟩ => f, ?_, ?_⟩
    · rintro i y σ' H3 H4 hi ⟨y0, rfl, f1, f2, w3⟩ e4 ry
      obtain rfl : y = V.int (i : Int) := ry
      have hi' : i < n := by simpa using hi
      have hv4 : ∀ H5, Ex H4 H5 → (matS K m).is v H5 := fun H5 e5 => hv1 _ ((f1.trans (Fz.ex e4)).trans (Fz.ex e5))
      show tDrop _ _ _ _
      refine s_appW (w3.ext e4) rfl (R := rowL ((List.range n).map fun z => if x = i ∨ x = z then -(at2 m i z) else at2 m i z + addedBy (at2 m i x) (at2 m x z))) ?_ ?_ fun H5 f5 w5 => ⟨_, rfl, (f1.trans (Fz.ex e4)).trans f5, (f2.trans (Fz.ex e4)).trans f5, ?_⟩
      · show EvD _ _ _ (Rp.lst _)
        rw [List.map_map]
        refine d_lcA (i_rng1 (d_cons (d_varV rfl) d_nil) (Int.natCast_nonneg n) (by omega)) _ (by omega) (fun x => rfl) (fun z vz H5 e5 hz' rz => ?_) (fun _ _ => t_yes)
        obtain rfl : vz = V.int (z : Int) := rz
        have hz2 : z < n := by simpa using hz'
        have hM := hv4 H5 e5
        refine d_eqR (R := .int (if (((x : Nat) : Int) ∈ [(i : Int), (z : Int)]) then -(at2 m i z) else at2 m i z + addedBy (at2 m i x) (at2 m x z))) ?_ ?_
        · refine d_if (d_test (d_in (ns := [(i : Int), (z : Int)]) (d_varV rfl) ((d_tup (K := K) (d_cons (d_varV rfl) (d_cons (d_varV rfl) d_nil)) (by show 2 ≤ 100000; decide)).le fun _ _ => Rp.tup_seq))) (fun hb => ?_) (fun hb => ?_)
          · rw [if_pos (of_decide_eq_true hb)]
            exact d_neg (g := fun i => .int (-i)) (d_at hq (d_var rfl hM) (d_varV rfl) (d_varV rfl) hi' hz2)
          · rw [if_neg (of_decide_eq_false hb)]
            refine d_I0 (g := fun i j => .int (i + j)) (d_at hq (d_var rfl hM) (d_varV rfl) (d_varV rfl) hi' hz2) (d_added (d_at hq (d_var rfl hM) (d_varV rfl) (d_varV rfl) hi' hx) (d_at hq (d_var rfl hM) (d_varV rfl) (d_varV rfl) hx hz2) (hbd.at hz _ _))
        · show Rp.int _ = Rp.int _
          congr 1
          have : (((x : Nat) : Int) ∈ [(i : Int), (z : Int)]) ↔ (x = i ∨ x = z) := by
            simp
            omega
          simp only [this]
      · rw [List.length_map, List.length_range]
        omega
      · rw [range_snoc]
        exact w5
    · rintro σ' H3 ⟨y0, rfl, f1, f2, w3⟩
      refine s_retCallW w3 rfl fun H4 e4 r4 => ?_
      refine ⟨_, ⟨_, behindTurn m x, rfl, matL_S _ _ _ ?_, ?_, rfl⟩, fun v5 H5 e5 r5 => k v5 H5 (e4.trans e5) r5⟩
      · have e : behindTurn m x = (List.range n).map fun y => (List.range n).map fun z => if x = y ∨ x = z then -(at2 m y z) else at2 m y z + addedBy (at2 m y x) (at2 m x z) := by
          unfold behindTurn
          rw [hq.len]
        rw [e]
        show (Rp.lst (List.map rowL _)).is _ _
        rw [List.map_map]
        have e2 : ((n : Int)).toNat = n := by simp
        rw [e2] at r4
        exact r4
      · unfold behindTurn
        rw [List.length_map, List.length_range, hq.len]
        omega
end
end G
set_option maxRecDepth 100000
set_option maxHeartbeats 4000000
/-! W2: need_small .. green_steps. -/
namespace G
open PySem PySem.Spec PyProof.Rows L2 Evl
section
variable {P : Program} {w : World} {K : PySem.W.Frag} {mg : Str → Option Value} {base : Heap} {A : Ad}
/-! two clauses over a table -/
theorem flat2_le' {n : Nat} {m : Nat → Nat} {o : Nat → Nat → Rp} (h : n ≤ 1000) (h2 : ∀ i, m i ≤ 100) : (flat2 n m o).length ≤ 900000 := by
  have : (flat2 n m o).length ≤ n * 100 := by
    induction n with
    | zero => simp [flat2]
    | succ i ih =>
      have e : flat2 (i + 1) m o = flat2 i m o ++ (List.range (m i)).map (o i) := by
        unfold flat2
        rw [List.range_succ, List.flatMap_append]
        simp
      rw [e, List.length_append, List.length_map, List.length_range, Nat.succ_mul]
      have := ih (by omega)
      have := h2 i
      omega
  omega
def flatB (t : Mx) (f : Int → Bool) : List Bool := (List.range t.length).flatMap fun i => (List.range (t.getD i []).length).map fun l => f (at2 t i l)
theorem flatB_eq (t : Mx) (f : Int → Bool) : flatB t f = t.flatMap fun r => r.map f := by
  unfold flatB
  have h : ∀ i, (List.range (t.getD i []).length).map (fun l => f (at2 t i l)) = (t.getD i []).map f := fun i => map_range_getD 0 f _
  simp only [h]
  have := map_range_getD [] (fun r : List Int => r.map f) t
  rw [List.flatMap_def, List.flatMap_def, this]
theorem flatB_all (t : Mx) : (flatB t fun a => decide (iabs a ≤ 1000)).all id = isSmall t := by
  rw [flatB_eq]
  unfold isSmall
  rw [List.all_flatMap]
  congr 1
  funext r
  rw [List.all_map]
  rfl
theorem flatB_any (t : Mx) (h : isSmall t = true) : (flatB t fun a => decide (1000 < iabs a)).any id = false := by
  rw [flatB_eq, List.any_flatMap, List.any_eq_false]
  intro r hr
  rw [List.any_map]
  simp only [Bool.not_eq_true]
  rw [List.any_eq_false]
  intro a ha
  have := isSmall_iff.mp h r hr a ha
  simp
  unfold iabs
  split <;> omega
theorem flatB_rp (t : Mx) (f : Int → Bool) : (flatB t f).map Rp.bl = flat2 t.length (fun i => (t.getD i []).length) (fun i l => Rp.bl (f (at2 t i l))) := by
  unfold flatB flat2
  rw [List.map_flatMap]
  simp only [List.map_map]
  rfl
def Wide (t : Mx) : Prop := t.length ≤ 100 ∧ ∀ r, r ∈ t → r.length ≤ 100
theorem Wide.row {t : Mx} (h : Wide t) (i : Nat) : (t.getD i []).length ≤ 100 := by
  by_cases hi : i < t.length
  · have e : t.getD i [] = t[i] := by simp [hi]
    rw [e]
    exact h.2 _ (List.getElem_mem hi)
  · have e : t.getD i [] = [] := by simp [Nat.le_of_not_lt hi]
    rw [e]
    exact Nat.zero_le _
theorem Sq.wide {n : Nat} {t : Mx} (h : Sq n t) (hn : n ≤ 100) : Wide t := ⟨by rw [h.len]; exact hn, fun r hr => by rw [h.row r hr]; exact hn⟩
/-- [f(many) for line in table for many in line] -/
theorem d_each {σ : L2.St} {H : Hp} {t : Mx} {tl te : TE} {vs : List Nat} {i j : Nat} {tt tt1 : TT} (f : Int → Bool) (hw : Wide t) (ht : EvD tl σ H (matS K t))
    (h1 : ∀ x, wipe ((wipe σ vs).set i (some x)) vs = wipe σ vs) (h2 : ∀ x y, wipe ((wipe ((wipe σ vs).set i (some x)) [j]).set j (some y)) [j] = wipe ((wipe σ vs).set i (some x)) [j])
    (h3 : ∀ x, ((wipe σ vs).set i (some x))[i]? = some (some x)) (hy : ∀ σ H, EvT tt σ H true) (hy1 : ∀ σ H, EvT tt1 σ H true)
    (he : ∀ x a H1, Ex H H1 → EvD te ((wipe ((wipe σ vs).set i (some x)) [j]).set j (some (.int a))) H1 (.bl (f a))) :
    EvD (tFr (tLc2 (iSeq K tl) (gName i) tt (iSeq K (tVar i)) (gName j) tt1 te vs [j])) σ H (.lst ((flatB t f).map Rp.bl)) := by
  rw [flatB_rp]
  refine d_lc2 _ (fun k l => .int (at2 t k l)) _ (i_map (P := rowS K) [] ht) (fun k hk => flat2_le' (by have := hw.1; omega) hw.row) (fun k => Nat.le_trans (hw.row k) (by decide)) h1 h2 hy hy1
    (fun k x H1 e1 hk hx => i_map (P := Rp.int) 0 (d_var (h3 x) hx)) (fun k l x y H1 e1 hk hl hx hy' => ?_)
  obtain rfl : y = V.int (at2 t k l) := hy'
  exact he x _ H1 e1
/-! need_small -/
def pNeedSmall (K : PySem.W.Frag) : Pre := fun vs H R => ∃ v t, vs = [v] ∧ (matS K t).is v H ∧ Wide t ∧ isSmall t = true ∧ R = .non
theorem ok_need_small (T : Txt K mg A) : FnOk P w K mg base CX0 1 (A.a 8) (A.d 8) ["table"] (spD (pNeedSmall K)) := by
  refine T.d_need_small.F.ok sc8 (fun vs H Q E h => ?_) (fun cdv A outer s H vs Q E hr h => ?_)
  · obtain ⟨R, ⟨v, t, rfl, _⟩, _⟩ := h
    rfl
  · obtain ⟨R, ⟨v, t, rfl, hv, hw, hs, rfl⟩, k⟩ := h
    refine ⟨_, (pss_one (ps_if (pt_val (pe_callB (anyK K rfl rfl) (by rfl) T.z_any (by decide +kernel) (pa_cons (pe_fr (pe_lc2 (own := [("line", 1), ("many", 2)]) (g := gName 1) (vs1 := [2]) (g1 := gName 2) rfl sc8.nd (piK K rfl (pv 0)) (blkOk_by (N := N_need_small) (sc := defScope s_need_small) (by decide +kernel)) (by decide) (fun _ _ _ _ _ => pg_name (i := 1) sc8.nd rfl (Or.inl rfl)) (fun _ _ _ _ _ => pts_nil) (fun _ _ _ _ _ => (piK K rfl (pv 1))) (fun _ _ _ _ _ => pg_name (i := 2) sc8.nd rfl (Or.inl rfl)) (fun _ _ _ _ _ => pts_nil) (fun _ _ _ _ _ => (pe_cmpR op_gt (pe_callB call_absA (by rfl) T.z_abs (by decide +kernel) (pa_cons (pv 2) pa_nil)) (pe_glob (v := .int 1000) (by rfl) T.c_MOST_ARROWS.choose_spec ⟨_, rfl⟩) (nomark _))))) pa_nil))) (pss_one ps_never) pss_nil)), ?_⟩
    refine s_when (b := false) (d_tB (d_eqB (d_any (K := K) (d_each _ hw (d_var rfl hv) (fun x => rfl) (fun x y => rfl) (fun x => rfl) (fun _ _ => t_yes) (fun _ _ => t_yes) fun x a H1 e1 => ?_)) (flatB_any t hs))) (fun hb => by cases hb) fun _ H1 e1 => k .non H1 e1 rfl
    exact d_I0 (g := fun i j => .bl (decide (j < i))) (d_abs (d_varV rfl)) d_c
/-! is_small -/
def pIsSmall (K : PySem.W.Frag) : Pre := fun vs H R => ∃ v t, vs = [v] ∧ (matS K t).is v H ∧ Wide t ∧ R = .bl (isSmall t)
theorem ok_is_small (T : Txt K mg A) : FnOk P w K mg base CX0 1 (A.a 18) (A.d 18) ["table"] (spD (pIsSmall K)) := by
  refine T.d_is_small.F.ok sc18 (fun vs H Q E h => ?_) (fun cdv A outer s H vs Q E hr h => ?_)
  · obtain ⟨R, ⟨v, t, rfl, _⟩, _⟩ := h
    rfl
  · obtain ⟨R, ⟨v, t, rfl, hv, hw, rfl⟩, k⟩ := h
    refine ⟨_, (pss_one (ps_ret (pe_callB (allK K rfl rfl) (by rfl) T.z_all (by decide +kernel) (pa_cons (pe_fr (pe_lc2 (own := [("line", 1), ("many", 2)]) (g := gName 1) (vs1 := [2]) (g1 := gName 2) rfl sc18.nd (piK K rfl (pv 0)) (blkOk_by (N := N_is_small) (sc := defScope s_is_small) (by decide +kernel)) (by decide) (fun _ _ _ _ _ => pg_name (i := 1) sc18.nd rfl (Or.inl rfl)) (fun _ _ _ _ _ => pts_nil) (fun _ _ _ _ _ => (piK K rfl (pv 1))) (fun _ _ _ _ _ => pg_name (i := 2) sc18.nd rfl (Or.inl rfl)) (fun _ _ _ _ _ => pts_nil) (fun _ _ _ _ _ => (pe_cmpR op_le (pe_callB call_absA (by rfl) T.z_abs (by decide +kernel) (pa_cons (pv 2) pa_nil)) (pe_glob (v := .int 1000) (by rfl) T.c_MOST_ARROWS.choose_spec ⟨_, rfl⟩) (nomark _))))) pa_nil)))), ?_⟩
    refine s_retD (R := .bl (isSmall t)) (d_eqB (d_all (K := K) (d_each _ hw (d_var rfl hv) (fun x => rfl) (fun x y => rfl) (fun x => rfl) (fun _ _ => t_yes) (fun _ _ => t_yes) fun x a H1 e1 => ?_)) (flatB_all t)) k
    exact d_I0 (g := fun i j => .bl (decide (i ≤ j))) (d_abs (d_varV rfl)) d_c
/-! turn_of -/
def pTurnOf (K : PySem.W.Frag) : Pre := fun vs H R => ∃ v n w x, vs = [v, .int (x : Nat)] ∧ (matS K w).is v H ∧ Sq n w ∧ Bd 1000 w ∧ n ≤ 100 ∧ x < n ∧ isSmall (behindTurn w x) = true ∧ R = matT K (behindTurn w x)
theorem ok_turn_of (T : Txt K mg A) : FnOk P w K mg base CX0 3 (A.a 9) (A.d 9) ["web", "x"] (spD (pTurnOf K)) := by
  refine T.d_turn_of.F.ok sc9 (fun vs H Q E h => ?_) (fun cdv A outer s H vs Q E hr h => ?_)
  · obtain ⟨R, ⟨v, n, m, x, rfl, _⟩, _⟩ := h
    rfl
  · obtain ⟨R, ⟨v, n, m, x, rfl, hv, hq, hb, hn, hx, hs, rfl⟩, k⟩ := h
    refine ⟨_, (pss_cons (ps_set (i := 2) sc9.nd rfl (Or.inl rfl) (pe_call (ok_behind_turn T) (hr.mono (by decide)) (by rfl) T.d_behind_turn.g T.d_behind_turn.F.kp T.d_behind_turn.b .nil pass0 (pa_cons (pv 0) (pa_cons (pv 1) pa_nil))))
      (pss_cons (ps_expr (pe_call (ok_need_small T) (hr.mono (by decide)) (by rfl) T.d_need_small.g T.d_need_small.F.kp T.d_need_small.b .nil pass0 (pa_cons (pv 2) pa_nil)))
      (pss_one (ps_ret (pv 2))))), ?_⟩
    refine q_asgD (R := matT K (behindTurn m x)) (d_call2 (d_var rfl hv) (d_varV rfl) fun a b H1 e1 ra rb => ⟨a, n, m, x, by rw [show b = V.int (x : Nat) from rb], ra, hq, hb, hn, hx, rfl⟩) fun u H1 e1 ru => ?_
    refine q_dropD (R := .non) (d_call1 (d_var rfl ru) fun a H2 e2 ra => ⟨a, _, rfl, matT_S _ _ _ ra, (hq.behind x).wide hn, hs, rfl⟩) fun H2 e2 => ?_
    exact s_retD (d_var rfl ((matT K _).mono (Fz.ex e2) ru)) fun v H3 e3 r3 => k v H3 ((e1.trans e2).trans e3) r3
/-! is_row, need_row -/
def pIsRow (K : PySem.W.Frag) : Pre := fun vs H R => ∃ (n : Nat) (v : V) (r : List Int), vs = [.int (n : Int), v] ∧ (rowT K r).is v H ∧ r.length ≤ 200 ∧ (∀ a, a ∈ r → 0 ≤ a ∧ a < n) ∧ R = .bl true
theorem ok_is_row (T : Txt K mg A) : FnOk P w K mg base CX0 3 (A.a 10) (A.d 10) ["n", "value"] (spD (pIsRow K)) := by
  refine T.d_is_row.F.ok sc10 (fun vs H Q E h => ?_) (fun cdv A outer s H vs Q E hr h => ?_)
  · obtain ⟨R, ⟨n, v, r, rfl, _⟩, _⟩ := h
    rfl
  · obtain ⟨R, ⟨n, v, r, rfl, hv, hl, hb, rfl⟩, k⟩ := h
    refine ⟨_, (pss_one (ps_ret (pe_and (pe_callB (isiK K rfl) (by rfl) T.z_isinstance (by decide +kernel) (pa_cons (pv 1) (pa_cons (pe_bltn (v := .ty "tuple") (by rfl) T.z_tuple (by decide +kernel) rfl) pa_nil))) (pe_and (pe_cmpR op_le (pe_callB (lenK K rfl) (by rfl) T.z_len (by decide +kernel) (pa_cons (pv 1) pa_nil)) (pe_glob (v := .int 200) (by rfl) T.c_MOST_TURNS.choose_spec ⟨_, rfl⟩) (nomark _)) (pe_one (pe_callB (allK K rfl rfl) (by rfl) T.z_all (by decide +kernel) (pa_cons (pe_fr (pe_lc (own := [("x", 2)]) (g := gName 2) rfl sc10.nd (piK K rfl (pv 1)) (blkOk_by (N := N_is_row) (sc := defScope s_is_row) (by decide +kernel)) (fun _ _ _ _ _ => pg_name (i := 2) sc10.nd rfl (Or.inl rfl)) (fun _ _ _ _ _ => pts_nil) (fun _ _ _ _ _ => (pe_call (ok_is_from T) (hr.mono (by decide)) (by rfl) T.d_is_from.g T.d_is_from.F.kp T.d_is_from.b .nil pass0 (pa_cons (pv 2) (pa_cons pe_int (pa_cons (pe_op op_sub (pv 0) pe_int) pa_nil))))))) pa_nil))))))), ?_⟩
    have h1 : EvD (tVar 1) (start N_is_row [V.int (n : Int), v]) H (rowT K r) := d_var rfl hv
    refine s_retD (R := .bl true) (d_eqB (d_andV (d_isi ty_tup (b := true) (by decide +kernel) h1) fun _ => d_andV (d_I0 (g := fun i j => .bl (decide (i ≤ j))) (d_len (h1.le fun _ _ => Rp.tup_seq)) d_c) fun _ => d_all (K := K) (bs := (List.range r.length).map fun _ => true) ?_) ?_) k
    · rw [List.map_map]
      refine d_lcA (i_map (P := Rp.int) 0 (h1.le fun _ _ => Rp.tup_seq)) _ (by omega) (fun x => rfl) (fun i x H2 e2 hi hx => d_call3 (R := .bl true) (d_varV rfl) d_c (d_I0 (g := fun i j => .int (i - j)) (d_varV rfl) d_c) fun a b c H3 e3 ra rb rc => ?_) (fun _ _ => t_yes)
      obtain rfl : a = x := ra
      obtain rfl : b = V.int 0 := rb
      obtain rfl : c = V.int ((n : Int) - 1) := rc
      have hx : a = V.int (r.getD i 0) := hx
      subst hx
      have hm : r.getD i 0 ∈ r := by
        have e : r.getD i 0 = r[i] := by simp [hi]
        rw [e]
        exact List.getElem_mem hi
      have := hb _ hm
      exact ⟨_, _, _, rfl, by rw [decide_eq_true this.1, decide_eq_true (show r.getD i 0 ≤ (n : Int) - 1 by omega)]; rfl⟩
    · rw [List.length_map]
      simp
      omega
def pNeedRow (K : PySem.W.Frag) : Pre := fun vs H R => ∃ v u n w r, vs = [v, u] ∧ (matT K w).is v H ∧ GoodW n w ∧ (rowT K r).is u H ∧ r.length ≤ 200 ∧ (∀ a, a ∈ r → 0 ≤ a ∧ a < n) ∧ R = .non
theorem ok_need_row (T : Txt K mg A) : FnOk P w K mg base CX0 6 (A.a 11) (A.d 11) ["web", "value"] (spD (pNeedRow K)) := by
  refine T.d_need_row.F.ok sc11 (fun vs H Q E h => ?_) (fun cdv A outer s H vs Q E hr h => ?_)
  · obtain ⟨R, ⟨v, u, n, m, r, rfl, _⟩, _⟩ := h
    rfl
  · obtain ⟨R, ⟨v, u, n, m, r, rfl, hv, hg, hu, hl, hb, rfl⟩, k⟩ := h
    refine ⟨_, (pss_cons (ps_expr (pe_call (ok_need_web T) (hr.mono (by decide)) (by rfl) T.d_need_web.g T.d_need_web.F.kp T.d_need_web.b .nil pass0 (pa_cons (pv 0) pa_nil)))
      (pss_one (ps_if (pt_not (pt_val (pe_call (ok_is_row T) (hr.mono (by decide)) (by rfl) T.d_is_row.g T.d_is_row.F.kp T.d_is_row.b .nil pass0 (pa_cons (pe_callB (lenK K rfl) (by rfl) T.z_len (by decide +kernel) (pa_cons (pv 0) pa_nil)) (pa_cons (pv 1) pa_nil))))) (pss_one ps_never) pss_nil))), ?_⟩
    refine q_dropD (R := .non) (d_call1 (d_var rfl hv) fun a H2 e2 ra => ⟨a, n, m, rfl, ra, hg, rfl⟩) fun H1 e1 => ?_
    have hv1 := (matT K m).mono (Fz.ex e1) hv
    have hu1 := (rowT K r).mono (Fz.ex e1) hu
    refine s_when (b := false) (et_not (d_tB (d_call2 (R := .bl true) (d_eqI (d_len (K := K) (d_var rfl (Rp.tup_seq hv1))) (by rw [List.length_map, hg.sq.len])) (d_var rfl hu1) fun a b H2 e2 ra rb => ⟨n, b, r, by rw [show a = V.int (n : Int) from ra], rb, hl, hb, rfl⟩))) (fun hb => by cases hb) fun _ H2 e2 => ?_
    exact k .non H2 (e1.trans e2) rfl
/-! first_frame -/
def pFirst : Pre := fun vs H R => ∃ (n : Nat), vs = [.int (n : Int)] ∧ n ≤ 100 ∧ R = matL (firstFrame n)
theorem ok_first_frame (T : Txt K mg A) : FnOk P w K mg base CX0 1 (A.a 12) (A.d 12) ["n"] (spD pFirst) := by
  refine T.d_first_frame.F.ok sc12 (fun vs H Q E h => ?_) (fun cdv A outer s H vs Q E hr h => ?_)
  · obtain ⟨R, ⟨n, rfl, _⟩, _⟩ := h
    rfl
  · obtain ⟨R, ⟨n, rfl, hn, rfl⟩, k⟩ := h
    refine ⟨_, (pss_one (ps_ret (pe_fr (pe_lc (own := [("y", 1)]) (g := gName 1) rfl sc12.nd (pi_range1 (by rfl) T.z_range (pa_cons (pv 0) pa_nil)) (blkOk_by (N := N_first_frame) (sc := defScope s_first_frame) (by decide +kernel)) (fun _ _ _ _ _ => pg_name (i := 1) sc12.nd rfl (Or.inr rfl)) (fun _ _ _ _ _ => pts_nil) (fun _ _ _ _ _ => (pe_fr (pe_lc (own := [("x", 2)]) (g := gName 2) rfl sc12.nd (pi_range1 (by rfl) T.z_range (pa_cons (pv 0) pa_nil)) (blkOk_by (N := N_first_frame) (sc := relS _ (defScope s_first_frame)) (by decide +kernel)) (fun _ _ _ _ _ => pg_name (i := 2) sc12.nd rfl (Or.inl rfl)) (fun _ _ _ _ _ => pts_nil) (fun _ _ _ _ _ => (pe_callTy call_intA (by rfl) T.z_int (by decide +kernel) (pa_cons (pe_cmpR op_eq (pv 2) (pv 1) (nomark _)) pa_nil)))))))))), ?_⟩
    refine s_retD (R := matL (firstFrame n)) ?_ k
    unfold firstFrame
    show EvD _ _ _ (Rp.lst _)
    rw [List.map_map]
    refine d_lcA (i_rng1 (d_cons (d_varV rfl) d_nil) (Int.natCast_nonneg n) (by omega)) _ (by omega) (fun x => rfl) (fun y vy H2 e2 hy ry => ?_) (fun _ _ => t_yes)
    obtain rfl : vy = V.int (y : Int) := ry
    show EvD _ _ _ (Rp.lst _)
    rw [List.map_map]
    refine d_lcA (i_rng1 (d_cons (d_varV rfl) d_nil) (Int.natCast_nonneg n) (by omega)) _ (by omega) (fun x => rfl) (fun x vx H3 e3 hx rx => ?_) (fun _ _ => t_yes)
    obtain rfl : vx = V.int (x : Int) := rx
    refine d_intB (d_eqB (d_eq rfl (d_varV rfl) (d_varV rfl)) ?_)
    by_cases h : x = y
    · subst h
      simp
    · have : ¬ (V.int (x : Int) = V.int (y : Int)) := fun q => h (by injection q; omega)
      rw [decide_eq_false this, decide_eq_false h]
/-! frame_lines -/
theorem d_get {σ : L2.St} {H : Hp} {ta tb : TE} {r : List Int} {z : Nat} (h : EvD ta σ H (rowS K r)) (hz : EvD tb σ H (.int (z : Int))) (lz : z < r.length) : EvD (tOp (rIx K) ta tb) σ H (.int (r.getD z 0)) := by
  refine d_ix h hz ?_
  rw [List.getElem?_map, getD_at lz]
  rfl
def pLines (K : PySem.W.Frag) : Pre := fun vs H R => ∃ v u n w t x, vs = [v, u, .int (x : Nat)] ∧ (matS K w).is v H ∧ (matS K t).is u H ∧ Sq n w ∧ Sq n t ∧ Bd 1000 t ∧ n ≤ 100 ∧ x < n ∧ R = matL (frameLines w t x)
theorem ok_frame_lines (T : Txt K mg A) : FnOk P w K mg base CX0 2 (A.a 13) (A.d 13) ["web", "table", "x"] (spD (pLines K)) := by
  refine T.d_frame_lines.F.ok sc13 (fun vs H Q E h => ?_) (fun cdv A outer s H vs Q E hr h => ?_)
  · obtain ⟨R, ⟨v, u, n, m, t, x, rfl, _⟩, _⟩ := h
    rfl
  · obtain ⟨R, ⟨v, u, n, m, t, x, rfl, hv, hu, hq, hqt, hbd, hn, hx, rfl⟩, k⟩ := h
    refine ⟨_, (pss_cons (ps_set (i := 3) sc13.nd rfl (Or.inl rfl) (pe_lst pa_nil))
      (pss_cons (ps_for PassesOwn.never rfl (piK K rfl (pv 1)) (pg_name (i := 4) sc13.nd rfl (Or.inr rfl)) (pss_one (ps_expr (pe_bm PySem.F.plainAttrs_list PySem.F.slot_list_append PySem.F.type_list_append mt_append (pv 3) (pa_cons (pe_fr (pe_lc (own := [("z", 5)]) (g := gName 5) rfl sc13.nd (pi_range1 (by rfl) T.z_range (pa_cons (pe_callB (lenK K rfl) (by rfl) T.z_len (by decide +kernel) (pa_cons (pv 0) pa_nil)) pa_nil)) (blkOk_by (N := N_frame_lines) (sc := defScope s_frame_lines) (by decide +kernel)) (fun _ _ _ _ _ => pg_name (i := 5) sc13.nd rfl (Or.inl rfl)) (fun _ _ _ _ _ => pts_nil) (fun _ _ _ _ _ => (pe_ifExp (pt_cmpR op_eq (pv 5) (pv 2) (nomark _)) (pe_un un_neg (pe_ix (ixK K rfl) (pv 4) (pv 5) (fun _ _ => rfl))) (pe_op op_add (pe_ix (ixK K rfl) (pv 4) (pv 5) (fun _ _ => rfl)) (pe_call (ok_added_by T) (hr.mono (by decide)) (by rfl) T.d_added_by.g T.d_added_by.F.kp T.d_added_by.b .nil pass0 (pa_cons (pe_ix (ixK K rfl) (pv 4) (pv 2) (fun _ _ => rfl)) (pa_cons (pe_ix (ixK K rfl) (pe_ix (ixK K rfl) (pv 0) (pv 2) (fun _ _ => rfl)) (pv 5) (fun _ _ => rfl)) pa_nil)))))))) pa_nil)))))
      (pss_one (ps_ret (pe_fr (pv 3)))))), ?_⟩
    have hz : (0 : Int) ≤ 1000 := by decide
    refine q_newW fun p H1 w1 => ?_
    have hv1 : ∀ H2, Fz H1 H2 → (matS K m).is v H2 := fun H2 f => (matS K m).mono (w1.fz.trans f) hv
    refine q_forD (i_map (P := rowS K) [] (d_var rfl ((matS K t).mono w1.fz hu))) fun H2 e2 => ⟨fun i σ' H' => ∃ y, σ' = [some v, some u, some (.int (x : Nat)), some (.ref p), y, none] ∧ Fz H1 H' ∧ Fz H2 H' ∧ LcW H p ((List.range i).map fun i => rowL (frameLine m x (t.getD i []))) H',
      ⟨_, rfl, Fz.ex e2, Fz.refl _, w1.ext e2⟩, fun i σ' H' ⟨y, _, _, f, _⟩ => f, ?_, ?_⟩
    · rintro i y σ' H3 H4 hi ⟨y0, rfl, f1, f2, w3⟩ e4 ry
      have hi' : i < n := by rw [← hqt.len]; exact hi
      have hll := hqt.rowLen hi'
      have hlm : t.getD i [] ∈ t := by
        have e : t.getD i [] = t[i] := by simp [hi]
        rw [e]
        exact List.getElem_mem hi
      have hv4 : ∀ H5, Ex H4 H5 → (matS K m).is v H5 := fun H5 e5 => hv1 _ ((f1.trans (Fz.ex e4)).trans (Fz.ex e5))
      show tDrop _ _ _ _
      refine s_appW (w3.ext e4) rfl (R := rowL (frameLine m x (t.getD i []))) ?_ ?_ fun H5 f5 w5 => ⟨_, rfl, (f1.trans (Fz.ex e4)).trans f5, (f2.trans (Fz.ex e4)).trans f5, ?_⟩
      · unfold frameLine
        rw [hq.len]
        show EvD _ _ _ (Rp.lst _)
        rw [List.map_map]
        have hM4 := hv4 H4 (Ex.refl _)
        have hR := i_rng1 (k := (n : Int)) (σ := [some v, some u, some (.int (x : Nat)), some (.ref p), some y, none]) (H := H4) (tr := tCons (tCB (rLenA K) (tCons (tVar 0) tNil)) tNil) (d_cons (d_eqI (d_len (K := K) (d_var rfl (matS_seq hM4))) (by rw [List.length_map, hq.len])) d_nil) (Int.natCast_nonneg n) (by omega)
        refine d_lcA hR _ (by omega) (fun x => rfl) (fun z vz H5 e5 hz' rz => ?_) (fun _ _ => t_yes)
        obtain rfl : vz = V.int (z : Int) := rz
        have hz2 : z < n := by simpa using hz'
        have hM := hv4 H5 e5
        have hL := (rowS K (t.getD i [])).mono (Fz.ex e5) ry
        refine d_eqR (R := .int (if ((z : Nat) : Int) = ((x : Nat) : Int) then -((t.getD i []).getD z 0) else (t.getD i []).getD z 0 + addedBy ((t.getD i []).getD x 0) (at2 m x z))) ?_ ?_
        · refine d_if (d_test (d_eq rfl (d_varV rfl) (d_varV rfl))) (fun hb => ?_) (fun hb => ?_)
          · have h : ((z : Nat) : Int) = ((x : Nat) : Int) := by
              have := of_decide_eq_true hb
              injection this
            rw [if_pos h]
            exact d_neg (g := fun i => .int (-i)) (d_get (d_var rfl hL) (d_varV rfl) (by omega))
          · have h : ¬ ((z : Nat) : Int) = ((x : Nat) : Int) := fun q => of_decide_eq_false hb (by rw [q])
            rw [if_neg h]
            exact d_I0 (g := fun i j => .int (i + j)) (d_get (d_var rfl hL) (d_varV rfl) (by omega)) (d_added (d_get (d_var rfl hL) (d_varV rfl) (by omega)) (d_at hq (d_var rfl hM) (d_varV rfl) (d_varV rfl) hx hz2) (hbd.getD hz hlm _))
        · show Rp.int _ = Rp.int _
          congr 1
          by_cases h : z = x
          · subst h
            simp
          · have : ¬ ((z : Nat) : Int) = ((x : Nat) : Int) := by omega
            rw [if_neg this]
            show _ = if z = x then _ else _
            rw [if_neg h]
      · rw [List.length_map, List.length_range]
        omega
      · rw [range_snoc]
        exact w5
    · rintro σ' H3 ⟨y0, rfl, f1, f2, w3⟩
      refine s_retW w3 rfl fun H4 e4 r4 => k _ H4 e4 ?_
      unfold frameLines
      show (Rp.lst (List.map rowL _)).is _ _
      rw [List.map_map, ← map_range_getD [] _ t]
      exact r4
end
end G
set_option maxRecDepth 100000
set_option maxHeartbeats 4000000
/-! W3: frame_turn .. green_steps. -/
namespace G
open PySem PySem.Spec PyProof.Rows L2 Evl
section
variable {P : Program} {w : World} {K : PySem.W.Frag} {mg : Str → Option Value} {base : Heap} {A : Ad}
/-! frame_turn -/
def pFrameTurn (K : PySem.W.Frag) : Pre := fun vs H R => ∃ v u n w t x, vs = [v, u, .int (x : Nat)] ∧ (matS K w).is v H ∧ (matS K t).is u H ∧ Sq n w ∧ Sq n t ∧ Bd 1000 t ∧ n ≤ 100 ∧ x < n ∧ isSmall (frameLines w t x) = true ∧ R = matL (frameLines w t x)
theorem ok_frame_turn (T : Txt K mg A) : FnOk P w K mg base CX0 3 (A.a 14) (A.d 14) ["web", "table", "x"] (spD (pFrameTurn K)) := by
  refine T.d_frame_turn.F.ok sc14 (fun vs H Q E h => ?_) (fun cdv A outer s H vs Q E hr h => ?_)
  · obtain ⟨R, ⟨v, u, n, m, t, x, rfl, _⟩, _⟩ := h
    rfl
  · obtain ⟨R, ⟨v, u, n, m, t, x, rfl, hv, hu, hq, hqt, hbd, hn, hx, hs, rfl⟩, k⟩ := h
    refine ⟨_, (pss_cons (ps_set (i := 3) sc14.nd rfl (Or.inl rfl) (pe_call (ok_frame_lines T) (hr.mono (by decide)) (by rfl) T.d_frame_lines.g T.d_frame_lines.F.kp T.d_frame_lines.b .nil pass0 (pa_cons (pv 0) (pa_cons (pv 1) (pa_cons (pv 2) pa_nil)))))
      (pss_cons (ps_expr (pe_call (ok_need_small T) (hr.mono (by decide)) (by rfl) T.d_need_small.g T.d_need_small.F.kp T.d_need_small.b .nil pass0 (pa_cons (pv 3) pa_nil)))
      (pss_one (ps_ret (pv 3))))), ?_⟩
    refine q_asgD (R := matL (frameLines m t x)) (d_call3 (d_var rfl hv) (d_var rfl hu) (d_varV rfl) fun a b c H1 e1 ra rb rc => ⟨a, b, n, m, t, x, by rw [show c = V.int (x : Nat) from rc], ra, rb, hq, hqt, hbd, hn, hx, rfl⟩) fun z H1 e1 rz => ?_
    refine q_dropD (R := .non) (d_call1 (d_var rfl rz) fun a H2 e2 ra => ⟨a, _, rfl, matL_S _ _ _ ra, (hq.lines hqt x).wide hn, hs, rfl⟩) fun H2 e2 => ?_
    exact s_retD (d_var rfl ((matL _).mono (Fz.ex e2) rz)) fun v H3 e3 r3 => k v H3 ((e1.trans e2).trans e3) r3
/-! frame_behind -/
def pFrameBehind (K : PySem.W.Frag) : Pre := fun vs H R => ∃ v u n w row, vs = [v, u] ∧ (matT K w).is v H ∧ (rowT K (row.map fun x : Nat => (x : Int))).is u H ∧ Sq n w ∧ Bd 1000 w ∧ n ≤ 100 ∧ row.length ≤ 1000 ∧ Along w (firstFrame n) row ∧
  R = Rp.tup K [matT K (turns w (firstFrame n) row).1, matL (turns w (firstFrame n) row).2]
theorem ok_frame_behind (T : Txt K mg A) : FnOk P w K mg base CX0 4 (A.a 15) (A.d 15) ["web", "row"] (spD (pFrameBehind K)) := by
  refine T.d_frame_behind.F.ok sc15 (fun vs H Q E h => ?_) (fun cdv A outer s H vs Q E hr h => ?_)
  · obtain ⟨R, ⟨v, u, n, m, row, rfl, _⟩, _⟩ := h
    rfl
  · obtain ⟨R, ⟨v, u, n, m, row, rfl, hv, hu, hq, hbd, hn, hrow, hal, rfl⟩, k⟩ := h
    refine ⟨_, (pss_cons (ps_set (i := 2) sc15.nd rfl (Or.inl rfl) (pe_call (ok_first_frame T) (hr.mono (by decide)) (by rfl) T.d_first_frame.g T.d_first_frame.F.kp T.d_first_frame.b .nil pass0 (pa_cons (pe_callB (lenK K rfl) (by rfl) T.z_len (by decide +kernel) (pa_cons (pv 0) pa_nil)) pa_nil)))
      (pss_cons (ps_for PassesOwn.never rfl (piK K rfl (pv 1)) (pg_name (i := 3) sc15.nd rfl (Or.inl rfl)) (pss_cons (ps_set (i := 4) sc15.nd rfl (Or.inl rfl) (pe_call (ok_turn_of T) (hr.mono (by decide)) (by rfl) T.d_turn_of.g T.d_turn_of.F.kp T.d_turn_of.b .nil pass0 (pa_cons (pv 0) (pa_cons (pv 3) pa_nil))))
      (pss_one (ps_par (i := 2) (j := 0) rfl sc15.nd rfl rfl (by decide) rfl rfl (pa_cons (pe_call (ok_frame_turn T) (hr.mono (by decide)) (by rfl) T.d_frame_turn.g T.d_frame_turn.F.kp T.d_frame_turn.b .nil pass0 (pa_cons (pv 0) (pa_cons (pv 2) (pa_cons (pv 3) pa_nil)))) (pa_cons (pv 4) pa_nil)) (by rfl)))))
      (pss_one (ps_ret (pe_tup (pa_cons (pv 0) (pa_cons (pv 2) pa_nil))))))), ?_⟩
    refine q_asgD (R := matL (firstFrame n)) (d_call1 (A := .int (n : Int)) (d_eqI (d_len (K := K) (d_var rfl (Rp.tup_seq hv))) (by rw [List.length_map, hq.len])) fun a H1 e1 ra => ⟨n, by rw [show a = V.int (n : Int) from ra], hn, rfl⟩) fun t0 H1 e1 r0 => ?_
    have hsrc : EvI (iSeq K (tVar 1)) ((start N_frame_behind [v, u]).set 2 (some t0)) H1 row.length (fun i => Rp.int ((row.getD i 0 : Nat) : Int)) := by
      have h := i_map (σ := (start N_frame_behind [v, u]).set 2 (some t0)) (H := H1) (xs := row) (P := fun x : Nat => Rp.int (x : Int)) 0 (tl := tVar 1) (K := K) (d_var rfl (by
        have := (rowT K (row.map fun x : Nat => (x : Int))).mono (Fz.ex e1) hu
        have h2 := Rp.tup_seq this
        rw [List.map_map] at h2
        exact h2))
      exact h
    refine q_forD hsrc fun H2 e2 => ⟨fun i σ' H' => ∃ a b c d, σ' = [some a, some u, some b, c, d] ∧ Ex H2 H' ∧ (matT K (turns m (firstFrame n) (row.take i)).1).is a H' ∧ (matL (turns m (firstFrame n) (row.take i)).2).is b H',
      ⟨v, t0, _, _, rfl, Ex.refl _, (matT K m).mono (Fz.ex (e1.trans e2)) hv, (matL _).mono (Fz.ex e2) r0⟩, fun i σ' H' ⟨_, _, _, _, _, f, _⟩ => Fz.ex f, ?_, ?_⟩
    · rintro i x σ' H3 H4 hi ⟨a, b, c, d, rfl, f, ra, rb⟩ e4 rx
      have hxx : row.getD i 0 = row[i] := by simp [hi]
      obtain rfl : x = V.int ((row[i] : Nat) : Int) := by
        rw [← hxx]
        exact rx
      have st := turns_sq (row := row.take i) hq (firstFrame_sq n)
      have bt := turns_bd (row := row.take i) hbd (firstFrame_bd n) (hal.take i)
      obtain ⟨h1, h2, h3⟩ := hal.at hq (firstFrame_sq n) hi
      have ra4 := (matT K _).mono (Fz.ex e4) ra
      have rb4 := (matL _).mono (Fz.ex e4) rb
      refine q_asgD (R := matT K (behindTurn (turns m (firstFrame n) (row.take i)).1 row[i])) (d_call2 (d_var rfl ra4) (d_varV rfl) fun y z H5 e5 ry rz => ⟨y, n, _, row[i], by rw [show z = V.int ((row[i] : Nat) : Int) from rz], matT_S _ _ _ ry, st.1, bt.1, hn, h1, h2, rfl⟩) fun y H5 e5 ry => ?_
      refine EvDA.go (Rs := [matL (frameLines (turns m (firstFrame n) (row.take i)).1 (turns m (firstFrame n) (row.take i)).2 row[i]), matT K (behindTurn (turns m (firstFrame n) (row.take i)).1 row[i])])
        (d_cons (d_call3 (d_var rfl ((matT K _).mono (Fz.ex e5) ra4)) (d_var rfl ((matL _).mono (Fz.ex e5) rb4)) (d_varV rfl) fun y z o H6 e6 ry rz ro => ⟨y, z, n, _, _, row[i], by rw [show o = V.int ((row[i] : Nat) : Int) from ro], matT_S _ _ _ ry, matL_S _ _ _ rz, st.1, st.2, bt.2, hn, h1, h3, rfl⟩) (d_cons (d_var rfl ry) d_nil)) fun vs H6 e6 r6 => ?_
      obtain ⟨a', b', rfl, qa, qb⟩ := all2_2 r6
      refine ⟨a', b', rfl, _, _, _, _, rfl, ((f.trans e4).trans e5).trans e6, ?_, ?_⟩
      · rw [List.take_succ_eq_append_getElem hi, turns_snoc]
        exact qb
      · rw [List.take_succ_eq_append_getElem hi, turns_snoc]
        exact qa
    · rintro σ' H3 ⟨a, b, c, d, rfl, f, ra, rb⟩
      rw [List.take_length] at ra rb
      exact s_retD (d_tup (K := K) (d_cons (d_var rfl ra) (d_cons (d_var rfl rb) d_nil)) (by show 2 ≤ 100000; decide)) fun v H4 e4 r4 => k v H4 (((e1.trans e2).trans f).trans e4) r4
/-! frame -/
def pFrame (K : PySem.W.Frag) : Pre := fun vs H R => ∃ v u n w row, vs = [v, u] ∧ (matT K w).is v H ∧ (rowT K (row.map fun x : Nat => (x : Int))).is u H ∧ GoodW n w ∧ row.length ≤ 200 ∧ (∀ x, x ∈ row → x < n) ∧ Along w (firstFrame n) row ∧
  R = Rp.tup K [matT K (turns w (firstFrame n) row).1, matT K (turns w (firstFrame n) row).2]
theorem ok_frame (T : Txt K mg A) : FnOk P w K mg base CX0 7 (A.a 16) (A.d 16) ["web", "row"] (spD (pFrame K)) := by
  refine T.d_frame.F.ok sc16 (fun vs H Q E h => ?_) (fun cdv A outer s H vs Q E hr h => ?_)
  · obtain ⟨R, ⟨v, u, n, m, row, rfl, _⟩, _⟩ := h
    rfl
  · obtain ⟨R, ⟨v, u, n, m, row, rfl, hv, hu, hg, hrow, hlt, hal, rfl⟩, k⟩ := h
    refine ⟨_, (pss_cons (ps_expr (pe_call (ok_need_row T) (hr.mono (by decide)) (by rfl) T.d_need_row.g T.d_need_row.F.kp T.d_need_row.b .nil pass0 (pa_cons (pv 0) (pa_cons (pv 1) pa_nil))))
      (pss_cons (ps_asg (pe_call (ok_frame_behind T) (hr.mono (by decide)) (by rfl) T.d_frame_behind.g T.d_frame_behind.F.kp T.d_frame_behind.b .nil pass0 (pa_cons (pv 0) (pa_cons (pv 1) pa_nil))) (pg_tup rfl (pgs_cons (pg_name (i := 2) sc16.nd rfl (Or.inl rfl)) (pgs_cons (pg_name (i := 3) sc16.nd rfl (Or.inl rfl)) pgs_nil))))
      (pss_one (ps_ret (pe_tup (pa_cons (pv 2) (pa_cons (pe_call (ok_frozen T) (hr.mono (by decide)) (by rfl) T.d_frozen.g T.d_frozen.F.kp T.d_frozen.b .nil pass0 (pa_cons (pv 3) pa_nil)) pa_nil))))))), ?_⟩
    have hn := hg.le
    refine q_dropD (R := .non) (d_call2 (d_var rfl hv) (d_var rfl hu) fun a b H2 e2 ra rb => ⟨a, b, n, m, _, rfl, ra, hg, rb, by rw [List.length_map]; exact hrow, fun y hy => ?_, rfl⟩) fun H1 e1 => ?_
    · obtain ⟨x, hx, rfl⟩ := List.mem_map.mp hy
      have := hlt x hx
      omega
    have hv1 := (matT K m).mono (Fz.ex e1) hv
    have hu1 := (rowT K _).mono (Fz.ex e1) hu
    refine (d_call2 (R := Rp.tup K [matT K (turns m (firstFrame n) row).1, matL (turns m (firstFrame n) row).2]) (d_var rfl hv1) (d_var rfl hu1) fun a b H2 e2 ra rb => ⟨a, b, n, m, row, rfl, ra, rb, hg.sq, hg.bd, by omega, by omega, hal, rfl⟩).go fun z H2 e2 rz => ?_
    obtain ⟨p, ws, rfl, hp, r2⟩ := rz
    obtain ⟨a, b, rfl, ra, rb⟩ := all2_2 r2
    refine ⟨p, [a, b], rfl, hp, rfl, a, [b], rfl, b, [], rfl, rfl, ?_⟩
    refine s_retD (d_tup (K := K) (Rs := [matT K (turns m (firstFrame n) row).1, matT K (turns m (firstFrame n) row).2]) (d_cons (d_var rfl ra) (d_cons (d_call1 (d_var rfl rb) fun c H3 e3 rc => ⟨c, _, rfl, matL_S _ _ _ rc, ?_, rfl⟩) d_nil)) (by show 2 ≤ 100000; decide)) fun v H4 e4 r4 => k v H4 ((e1.trans e2).trans e4) r4
    rw [(turns_sq (row := row) hg.sq (firstFrame_sq n)).2.len]
    omega
/-! greens_of -/
def pGreens (K : PySem.W.Frag) : Pre := fun vs H R => ∃ v n t, vs = [v] ∧ (matS K t).is v H ∧ Sq n t ∧ 1 ≤ n ∧ n ≤ 100 ∧ R = rowL ((greensOf t).map fun x : Nat => (x : Int))
theorem ok_greens_of (T : Txt K mg A) : FnOk P w K mg base CX0 1 (A.a 17) (A.d 17) ["table"] (spD (pGreens K)) := by
  refine T.d_greens_of.F.ok sc17 (fun vs H Q E h => ?_) (fun cdv A outer s H vs Q E hr h => ?_)
  · obtain ⟨R, ⟨v, n, t, rfl, _⟩, _⟩ := h
    rfl
  · obtain ⟨R, ⟨v, n, t, rfl, hv, hq, h1, hn, rfl⟩, k⟩ := h
    refine ⟨_, (pss_one (ps_ret (pe_fr (pe_lc (own := [("x", 1)]) (g := gName 1) rfl sc17.nd (pi_range1 (by rfl) T.z_range (pa_cons (pe_callB (lenK K rfl) (by rfl) T.z_len (by decide +kernel) (pa_cons (pv 0) pa_nil)) pa_nil)) (blkOk_by (N := N_greens_of) (sc := defScope s_greens_of) (by decide +kernel)) (fun _ _ _ _ _ => pg_name (i := 1) sc17.nd rfl (Or.inr rfl)) (fun _ _ _ _ _ => pts_one (pt_cmpR op_ge (pe_callB (minK K rfl rfl) (by rfl) T.z_min (by decide +kernel) (pa_cons (pe_fr (pe_lc (own := [("line", 2)]) (g := gName 2) rfl sc17.nd (piK K rfl (pv 0)) (blkOk_by (N := N_greens_of) (sc := relS _ (defScope s_greens_of)) (by decide +kernel)) (fun _ _ _ _ _ => pg_name (i := 2) sc17.nd rfl (Or.inl rfl)) (fun _ _ _ _ _ => pts_nil) (fun _ _ _ _ _ => (pe_ix (ixK K rfl) (pv 2) (pv 1) (fun _ _ => rfl))))) pa_nil)) pe_int (nomark _))) (fun _ _ _ _ _ => (pv 1)))))), ?_⟩
    refine s_retD (R := rowL ((greensOf t).map fun x : Nat => (x : Int))) ?_ k
    have hE : rowL ((greensOf t).map fun x : Nat => (x : Int)) = Rp.lst (kept n (isGreen t) fun i => Rp.int (i : Int)) := by
      show Rp.lst _ = Rp.lst _
      unfold kept greensOf
      rw [List.map_map, hq.len]
      rfl
    rw [hE]
    have hR := i_rng1 (k := (n : Int)) (σ := start N_greens_of [v]) (H := H) (tr := tCons (tCB (rLenA K) (tCons (tVar 0) tNil)) tNil) (d_cons (d_eqI (d_len (K := K) (d_var rfl (matS_seq hv))) (by rw [List.length_map, hq.len])) d_nil) (Int.natCast_nonneg n) (by omega)
    have e0 : ((n : Int)).toNat = n := by simp
    rw [e0] at hR
    refine d_lcN hR (isGreen t) _ (by omega) (fun x => rfl) (fun x vx H2 e2 hx rx => ?_) (fun x vx H2 e2 hx hg rx => d_var rfl rx)
    obtain rfl : vx = V.int (x : Int) := rx
    refine d_test (d_I0 (g := fun i j => .bl (decide (j ≤ i))) (d_minL (ns := col t x) ?_ ?_) d_c)
    · unfold col
      show EvD _ _ _ (Rp.lst _)
      rw [List.map_map, ← map_range_getD [] _ t]
      refine d_lcA (i_map (P := rowS K) [] (d_var rfl ((matS K t).mono (Fz.ex e2) hv))) _ (by rw [hq.len]; omega) (fun x => rfl) (fun i vi H3 e3 hi ri => ?_) (fun _ _ => t_yes)
      have hi' : i < n := by rw [← hq.len]; exact hi
      exact d_get (d_var rfl ri) (d_varV rfl) (by rw [hq.rowLen hi']; exact hx)
    · unfold col
      rw [List.length_map, hq.len]
      exact h1
/-! green_steps -/
abbrev stepRp (K : PySem.W.Frag) (s : Nat × Mx × Mx) : Rp := Rp.tup K [.int (s.1 : Int), matT K s.2.1, matT K s.2.2]
def pSteps (K : PySem.W.Frag) : Pre := fun vs H R => ∃ v u n w t, vs = [v, u] ∧ (matS K w).is v H ∧ (matS K t).is u H ∧ Sq n w ∧ Sq n t ∧ Bd 1000 w ∧ Bd 1000 t ∧ 1 ≤ n ∧ n ≤ 100 ∧ R = Rp.lst ((greenSteps w t).map (stepRp K))
theorem ok_green_steps (T : Txt K mg A) : FnOk P w K mg base CX0 3 (A.a 19) (A.d 19) ["web", "table"] (spD (pSteps K)) := by
  refine T.d_green_steps.F.ok sc19 (fun vs H Q E h => ?_) (fun cdv A outer s H vs Q E hr h => ?_)
  · obtain ⟨R, ⟨v, u, n, m, t, rfl, _⟩, _⟩ := h
    rfl
  · obtain ⟨R, ⟨v, u, n, m, t, rfl, hv, hu, hq, hqt, hb, hbt, h1, hn, rfl⟩, k⟩ := h
    refine ⟨_, (pss_cons (ps_set (i := 2) sc19.nd rfl (Or.inl rfl) (pe_lst pa_nil))
      (pss_cons (ps_for PassesOwn.never rfl (piK K rfl (pe_call (ok_greens_of T) (hr.mono (by decide)) (by rfl) T.d_greens_of.g T.d_greens_of.F.kp T.d_greens_of.b .nil pass0 (pa_cons (pv 1) pa_nil))) (pg_name (i := 3) sc19.nd rfl (Or.inl rfl)) (pss_cons (ps_par (i := 4) (j := 5) rfl sc19.nd rfl rfl (by decide) rfl rfl (pa_cons (pe_call (ok_behind_turn T) (hr.mono (by decide)) (by rfl) T.d_behind_turn.g T.d_behind_turn.F.kp T.d_behind_turn.b .nil pass0 (pa_cons (pv 0) (pa_cons (pv 3) pa_nil))) (pa_cons (pe_call (ok_frozen T) (hr.mono (by decide)) (by rfl) T.d_frozen.g T.d_frozen.F.kp T.d_frozen.b .nil pass0 (pa_cons (pe_call (ok_frame_lines T) (hr.mono (by decide)) (by rfl) T.d_frame_lines.g T.d_frame_lines.F.kp T.d_frame_lines.b .nil pass0 (pa_cons (pv 0) (pa_cons (pv 1) (pa_cons (pv 3) pa_nil)))) pa_nil)) pa_nil)) (by rfl))
      (pss_one (ps_if (PW.pt (pw_and (pt_val (pe_call (ok_is_small T) (hr.mono (by decide)) (by rfl) T.d_is_small.g T.d_is_small.F.kp T.d_is_small.b .nil pass0 (pa_cons (pv 4) pa_nil))) (pw_and1 (pt_val (pe_call (ok_is_small T) (hr.mono (by decide)) (by rfl) T.d_is_small.g T.d_is_small.F.kp T.d_is_small.b .nil pass0 (pa_cons (pv 5) pa_nil)))))) (pss_one (ps_expr (pe_bm PySem.F.plainAttrs_list PySem.F.slot_list_append PySem.F.type_list_append mt_append (pv 2) (pa_cons (pe_tup (pa_cons (pv 3) (pa_cons (pv 4) (pa_cons (pv 5) pa_nil)))) pa_nil)))) pss_nil))))
      (pss_one (ps_ret (pe_fr (pv 2)))))), ?_⟩
    refine q_newW fun p H1 w1 => ?_
    have hglt : ∀ x, x ∈ greensOf t → x < n := fun x hx => by
      have := List.mem_range.mp (List.mem_filter.mp hx).1
      rw [hqt.len] at this
      exact this
    have hglen : (greensOf t).length ≤ n := by
      have h := List.length_filter_le (isGreen t) (List.range t.length)
      unfold greensOf
      rw [List.length_range] at h
      rw [hqt.len] at h ⊢
      exact h
    have hsrc : EvI (iSeq K (tCall (spD (pGreens K)) [] E0 (tCons (tVar 1) tNil))) ((start N_green_steps [v, u]).set 2 (some (.ref p))) H1 (greensOf t).length (fun i => Rp.int (((greensOf t).getD i 0 : Nat) : Int)) := by
      refine i_map (xs := greensOf t) (P := fun x : Nat => Rp.int (x : Int)) 0 ?_
      refine (d_call1 (A := matS K t) (R := rowL ((greensOf t).map fun x : Nat => (x : Int))) (d_var rfl ((matS K t).mono w1.fz hu)) fun a H2 e2 ra => ⟨a, n, t, rfl, ra, hqt, h1, hn, rfl⟩).le fun v H h => ?_
      have h2 := Rp.lst_seq (K := K) h
      rw [List.map_map] at h2
      exact h2
    refine q_forD hsrc fun H2 e2 => ⟨fun i σ' H' => ∃ a b c, σ' = [some v, some u, some (.ref p), a, b, c] ∧ Fz H1 H' ∧ Fz H2 H' ∧ LcW H p (((((greensOf t).take i).map fun x => (x, behindTurn m x, frameLines m t x)).filter fun s => isSmall s.2.1 && isSmall s.2.2).map (stepRp K)) H',
      ⟨_, _, _, rfl, Fz.ex e2, Fz.refl _, w1.ext e2⟩, fun i σ' H' ⟨_, _, _, _, _, f, _⟩ => f, ?_, ?_⟩
    · rintro i x σ' H3 H4 hi ⟨a, b, c, rfl, f1, f2, w3⟩ e4 rx
      have hxx : (greensOf t).getD i 0 = (greensOf t)[i] := by simp [hi]
      generalize hxe : (greensOf t)[i] = x0 at hxx
      obtain rfl : x = V.int (x0 : Int) := by
        rw [← hxx]
        exact rx
      have hx : x0 < n := hglt _ (hxe ▸ List.getElem_mem hi)
      have f4 : Fz H H4 := (w1.fz.trans f1).trans (Fz.ex e4)
      have hv4 := (matS K m).mono f4 hv
      have hu4 := (matS K t).mono f4 hu
      have hlq := hq.lines hqt x0
      refine q_parD (A := matT K (behindTurn m x0)) (B := matT K (frameLines m t x0)) (d_cons (d_call2 (d_var rfl hv4) (d_varV rfl) fun y z H5 e5 ry rz => ⟨y, n, m, x0, by rw [show z = V.int (x0 : Int) from rz], ry, hq, hb, hn, hx, rfl⟩)
        (d_cons (d_call1 (A := matL (frameLines m t x0)) (d_call3 (d_var rfl hv4) (d_var rfl hu4) (d_varV rfl) fun y z o H5 e5 ry rz ro => ⟨y, z, n, m, t, x0, by rw [show o = V.int (x0 : Int) from ro], ry, rz, hq, hqt, hbt, hn, hx, rfl⟩) fun y H5 e5 ry => ⟨y, _, rfl, matL_S _ _ _ ry, by rw [hlq.len]; omega, rfl⟩) d_nil)) fun y z H5 e5 ry rz => ?_
      have htake : ((((greensOf t).take (i + 1)).map fun x => (x, behindTurn m x, frameLines m t x)).filter fun s => isSmall s.2.1 && isSmall s.2.2) =
          ((((greensOf t).take i).map fun x => (x, behindTurn m x, frameLines m t x)).filter fun s => isSmall s.2.1 && isSmall s.2.2) ++ (if (isSmall (behindTurn m x0) && isSmall (frameLines m t x0)) = true then [(x0, behindTurn m x0, frameLines m t x0)] else []) := by
        rw [List.take_succ_eq_append_getElem hi, hxe, List.map_append, List.filter_append, List.map_cons, List.map_nil, List.filter_cons]
        rfl
      refine s_when (b := isSmall (behindTurn m x0) && isSmall (frameLines m t x0)) (et_and (d_tB (d_call1 (R := .bl (isSmall (behindTurn m x0))) (d_var rfl ry) fun o H6 e6 ro => ⟨o, _, rfl, matT_S _ _ _ ro, (hq.behind x0).wide hn, rfl⟩)) fun _ => d_tB (d_call1 (R := .bl (isSmall (frameLines m t x0))) (d_var rfl rz) fun o H6 e6 ro => ⟨o, _, rfl, matT_S _ _ _ ro, hlq.wide hn, rfl⟩)) (fun hbb H6 e6 => ?_) (fun hbb H6 e6 => ?_)
      · rw [if_pos hbb] at htake
        refine s_appW (((w3.ext e4).ext e5).ext e6) rfl (R := stepRp K (x0, behindTurn m x0, frameLines m t x0)) (d_tup (d_cons (d_varV rfl) (d_cons (d_var rfl ((matT K _).mono (Fz.ex e6) ry)) (d_cons (d_var rfl ((matT K _).mono (Fz.ex e6) rz)) d_nil))) (by show 3 ≤ 100000; decide)) ?_ fun H7 f7 w7 => ⟨_, _, _, rfl, ((f1.trans (Fz.ex (e4.trans (e5.trans e6))))).trans f7, ((f2.trans (Fz.ex (e4.trans (e5.trans e6))))).trans f7, ?_⟩
        · rw [List.length_map]
          refine Nat.le_trans (List.length_filter_le _ _) ?_
          rw [List.length_map, List.length_take]
          omega
        · rw [htake, List.map_append]
          exact w7
      · rw [if_neg (by rw [hbb]; decide), List.append_nil] at htake
        refine ⟨_, _, _, rfl, f1.trans (Fz.ex (e4.trans (e5.trans e6))), f2.trans (Fz.ex (e4.trans (e5.trans e6))), ?_⟩
        rw [htake]
        exact ((w3.ext e4).ext e5).ext e6
    · rintro σ' H3 ⟨a, b, c, rfl, f1, f2, w3⟩
      rw [List.take_length] at w3
      exact s_retW w3 rfl fun H4 e4 r4 => k _ H4 e4 r4
end
end G
set_option maxRecDepth 100000
set_option maxHeartbeats 4000000
/-! W4: green_row. -/
namespace G
open PySem PySem.Spec PyProof.Rows L2 Evl
section
variable {P : Program} {w : World} {K : PySem.W.Frag} {mg : Str → Option Value} {base : Heap} {A : Ad}
theorem d_nd1 {σ : L2.St} {H : Hp} {ta tb : TE} {k : Mx × Mx} {r : List Nat} (ha : EvD ta σ H (stR K k)) (hb : EvD tb σ H (rowN K r)) : EvD (tNd1 P w K ta tb) σ H (Rp.dict P w K [(k, r)]) := fun H1 e Q q p hp =>
  ha _ (e.trans (Ex.new hp)) _ fun x H2 e2 r2 => hb H2 ((e.trans (Ex.new hp)).trans e2) _ fun y H3 e3 r3 =>
    ⟨(e2.trans e3) p _ upd_same, k, r, (stR K k).mono (Fz.ex e3) r2, r3, fun o xs he => q _ _ (Ex.mut (((Ex.new hp).trans e2).trans e3) hp) ⟨p, o, xs, rfl, upd_same, he⟩⟩
theorem d_ndget2 {σ : L2.St} {H H0 : Hp} {tk tx : TE} {d : Addr} {kvs : Kvs} {k : Mx × Mx} {r : List Nat} {j : Nat} (hw : DictW P w K H0 d kvs H) (hσ : σ[j]? = some (some (.ref d))) (hk : EvD tk σ H (stR K k)) (hx : EvD tx σ H (rowN K r)) :
    EvD (tNdGet2 P w K (tVar j) tk tx) σ H (rowN K ((look kvs k).getD r)) := fun H1 e Q q => by
  obtain ⟨_, _, xs, hd, he⟩ := hw
  refine ⟨.ref d, hσ, d, rfl, ⟨xs, e _ _ hd⟩, hk H1 e _ fun y H2 e2 r2 => hx H2 (e.trans e2) _ fun z H3 e3 r3 => ⟨kvs, k, r, ⟨xs, ((e.trans e2).trans e3) _ _ hd, he.mono (Fz.ex ((e.trans e2).trans e3))⟩, (stR K k).mono (Fz.ex e3) r2, r3, fun v hv => q v H3 (e2.trans e3) hv⟩⟩
theorem d_min2 {σ : L2.St} {H : Hp} {ta tb : TE} {r r' : List Int} (ha : EvD ta σ H (rowT K r)) (hb : EvD tb σ H (rowT K r')) : EvD (tCB (rMin2R K) (tCons ta (tCons tb tNil))) σ H (rowT K (minI r [r'])) :=
  d_cb2 ha hb fun v u H1 e r1 r2 Q q => ⟨v, u, r, r', rfl, r1, r2, fun x hx => q x H1 (Ex.refl _) hx⟩
def optRow (K : PySem.W.Frag) : Option (List Nat) → Rp
  | none => .non
  | some r => rowN K r
theorem stepAll_told {t : Nat} {told : List Nat} (ht : told.length ≤ t) : ∀ (steps : List (Nat × Mx × Mx)) (acc : Kvs), (∀ kv, kv ∈ acc → kv.2.length ≤ t + 1) → ∀ kv, kv ∈ stepAll acc told steps → kv.2.length ≤ t + 1
  | [], acc, h => h
  | s :: r, acc, h => by
    refine stepAll_told ht r (stepIn told acc s) fun kv hk => ?_
    rcases put_mem hk with hk | rfl
    · exact h kv hk
    · show (minN (told ++ [s.1]) [(look acc s.2).getD (told ++ [s.1])]).length ≤ t + 1
      rcases minN2_or (told ++ [s.1]) ((look acc s.2).getD (told ++ [s.1])) with e | e
      · rw [e]
        simpa using ht
      · rw [e]
        cases el : look acc s.2 with
        | none => simpa using ht
        | some r => exact h _ (look_mem el)
theorem told_len {t : Nat} : ∀ (here : Kvs) (acc : Kvs), (∀ kv, kv ∈ here → kv.2.length ≤ t) → (∀ kv, kv ∈ acc → kv.2.length ≤ t + 1) → ∀ kv, kv ∈ here.foldl levelIn acc → kv.2.length ≤ t + 1
  | [], acc, _, h => h
  | p :: r, acc, h1, h => told_len r (levelIn acc p) (fun kv hk => h1 kv (List.mem_cons_of_mem _ hk)) (stepAll_told (h1 p (by simp)) _ acc h)
theorem q_asgN {σ : L2.St} {H : Hp} {i : Nat} {tz : TS} {D : Ends} (k : ∀ d H1, H d = none → H1 = upd H d (NdO P w d []) → tz D (σ.set i (some (.ref d))) H1) : tSeq (tAsg (tNdNew P w) (gName i)) tz D σ H := fun d hd => k d _ hd rfl
theorem levels_ok {n : Nat} {m : Mx} (hg : GoodW n m) : ∀ t, t ≤ 7 → LvOk n (levels m t) ∧ (levels m t).length ≤ n ^ t ∧ ∀ kv, kv ∈ levels m t → kv.2.length ≤ t
  | 0, _ => by
    refine ⟨⟨by simp [levels, level0], fun kv hk => ?_⟩, by simp [levels, level0], fun kv hk => ?_⟩
    · have : kv = ((m, firstFrame m.length), []) := by simpa [levels, level0] using hk
      subst this
      rw [hg.sq.len]
      exact ⟨hg.sq, firstFrame_sq n, hg.bd, firstFrame_bd n, Nat.zero_le _⟩
    · have : kv = ((m, firstFrame m.length), []) := by simpa [levels, level0] using hk
      subst this
      exact Nat.zero_le _
  | t + 1, ht => by
    obtain ⟨h1, h2, h3⟩ := levels_ok hg t (by omega)
    obtain ⟨h4, h5⟩ := level_ok (n := n) (m := t) (by omega) (here := levels m t) (acc := []) ⟨by simp, fun kv hk => by cases hk⟩ fun kv hk => ⟨(h1.sq kv hk).1, (h1.sq kv hk).2.1, h3 kv hk⟩
    refine ⟨h4, ?_, ?_⟩
    · rw [Nat.pow_succ, Nat.mul_comm]
      refine Nat.le_trans h5 ?_
      rw [List.length_nil, Nat.zero_add]
      exact Nat.mul_le_mul_left n h2
    · exact told_len (levels m t) [] h3 fun kv hk => by cases hk
theorem greenLoop_at (m : Mx) : ∀ t, t ≤ 7 → (∀ s, s < t → goodOf (levels m s) = []) → greenRow m = greenLoop (7 - t) (levels m t)
  | 0, _, _ => rfl
  | t + 1, ht, h => by
    rw [greenLoop_at m t (by omega) fun s hs => h s (by omega)]
    have e : 7 - t = (7 - (t + 1)) + 1 := by omega
    rw [e]
    show (match goodOf (levels m t) with | g :: gs => some (minN g gs) | [] => greenLoop (7 - (t + 1)) (nextLevel (levels m t))) = _
    rw [h t (by omega)]
    rfl
def pGreenRow (K : PySem.W.Frag) : Pre := fun vs H R => ∃ v n m, vs = [v] ∧ (matT K m).is v H ∧ GoodW n m ∧ R = optRow K (greenRow m)
theorem ok_green_row (T : Txt K mg A) : FnOk P w K mg base CX0 6 (A.a 20) (A.d 20) ["web"] (spD (pGreenRow K)) := by
  refine T.d_green_row.F.ok sc20 (fun vs H Q E h => ?_) (fun cdv A outer s H vs Q E hr h => ?_)
  · obtain ⟨R, ⟨v, n, m, rfl, _⟩, _⟩ := h
    rfl
  · obtain ⟨R, ⟨v, n, m, rfl, hv, hg, rfl⟩, k⟩ := h
    refine ⟨_, (pss_cons (ps_expr (pe_call (ok_need_web T) (hr.mono (by decide)) (by rfl) T.d_need_web.g T.d_need_web.F.kp T.d_need_web.b .nil pass0 (pa_cons (pv 0) pa_nil)))
      (pss_cons (ps_set (i := 1) sc20.nd rfl (Or.inr rfl) (pe_nd1 (P := P) (w := w) (K := K) rfl rfl rfl hr (pe_tup (pa_cons (pv 0) (pa_cons (pe_call (ok_frozen T) (hr.mono (by decide)) (by rfl) T.d_frozen.g T.d_frozen.F.kp T.d_frozen.b .nil pass0 (pa_cons (pe_call (ok_first_frame T) (hr.mono (by decide)) (by rfl) T.d_first_frame.g T.d_first_frame.F.kp T.d_first_frame.b .nil pass0 (pa_cons (pe_callB (lenK K rfl) (by rfl) T.z_len (by decide +kernel) (pa_cons (pv 0) pa_nil)) pa_nil)) pa_nil)) pa_nil))) (pe_tup pa_nil)))
      (pss_cons (ps_for PassesOwn.never rfl (pi_range1 (by rfl) T.z_range (pa_cons (pe_op op_add (pe_glob (v := .int 6) (by rfl) T.c_MOST_GREEN.choose_spec ⟨_, rfl⟩) pe_int) pa_nil)) (pg_name (i := 2) sc20.nd rfl (Or.inl rfl)) (pss_cons (ps_gh (ps_setLc (i := 3) (own := [("state", 5)]) (g := gName 5) rfl sc20.nd rfl rfl (sw_true rfl rfl rfl (by decide +kernel)) (pi_nd (P := P) (w := w) rfl rfl (pv 1)) (blkOk_by (N := N_green_row) (sc := defScope s_green_row) (by decide +kernel)) (fun _ _ _ _ _ => pg_name (i := 5) sc20.nd rfl (Or.inl rfl)) (fun _ _ _ _ _ => pts_one (pt_cmpR (eqDK K rfl hr.units) (pe_call (ok_greens_of T) (hr.mono (by decide)) (by rfl) T.d_greens_of.g T.d_greens_of.F.kp T.d_greens_of.b .nil pass0 (pa_cons (pe_ix (ixK K rfl) (pv 5) pe_int (fun _ _ => rfl)) pa_nil)) (pe_fr (pe_lst pa_nil)) (nomark _))) (fun _ _ _ _ _ => (pe_ndget (P := P) (w := w) (K := K) rfl rfl rfl hr (pv 1) (pv 5) (fun _ _ => rfl)))))
      (pss_cons (ps_if (pt_cmpR (neDK K rfl hr.units) (pv 3) (pe_fr (pe_lst pa_nil)) (nomark _)) (pss_one (ps_ret (pe_callB (minRowsK (K := K) rfl rfl hr) (by rfl) T.z_min (by decide +kernel) (pa_cons (pv 3) pa_nil)))) pss_nil)
      (pss_cons (ps_set (i := 4) sc20.nd rfl (Or.inl rfl) (pe_ndnew (P := P) (w := w) rfl rfl))
      (pss_cons (ps_for PassesOwn.never rfl (pi_nd (P := P) (w := w) rfl rfl (pv 1)) (pg_name (i := 5) sc20.nd rfl (Or.inl rfl)) (pss_one (ps_for PassesOwn.never rfl (piK K rfl (pe_call (ok_green_steps T) (hr.mono (by decide)) (by rfl) T.d_green_steps.g T.d_green_steps.F.kp T.d_green_steps.b .nil pass0 (pa_cons (pe_ix (ixK K rfl) (pv 5) pe_int (fun _ _ => rfl)) (pa_cons (pe_ix (ixK K rfl) (pv 5) pe_int (fun _ _ => rfl)) pa_nil)))) (pg_tup rfl (pgs_cons (pg_name (i := 6) sc20.nd rfl (Or.inl rfl)) (pgs_cons (pg_name (i := 7) sc20.nd rfl (Or.inl rfl)) (pgs_cons (pg_name (i := 8) sc20.nd rfl (Or.inl rfl)) pgs_nil)))) (pss_cons (ps_set (i := 9) sc20.nd rfl (Or.inl rfl) (pe_tup (StX.pa_star (pe_ndget (P := P) (w := w) (K := K) rfl rfl rfl hr (pv 1) (pv 5) (fun _ _ => rfl)) (pa_cons (pv 6) pa_nil))))
      (pss_one (ps_asg (pe_callB (min2RK (K := K) rfl rfl hr) (by rfl) T.z_min (by decide +kernel) (pa_cons (pv 9) (pa_cons (pe_ndget2 (P := P) (w := w) (K := K) rfl rfl rfl hr (pv 4) (pe_tup (pa_cons (pv 7) (pa_cons (pv 8) pa_nil))) (pv 9) ⟨rfl, rfl, rfl, rfl⟩) pa_nil))) (pg_sub (pv 4) (pe_tup (pa_cons (pv 7) (pa_cons (pv 8) pa_nil))) (set_nd (P := P) (w := w) (K := K) rfl rfl rfl hr))))))))
      (pss_one (ps_set (i := 1) sc20.nd rfl (Or.inr rfl) (pe_frN (P := P) (w := w) (pv 4)))))))))
      (pss_one (ps_ret pe_non))))), ?_⟩
    have hn := hg.le
    have hn1 := hg.pos
    refine q_dropD (R := .non) (d_call1 (d_var rfl hv) fun a H1 e1 ra => ⟨a, n, m, rfl, ra, hg, rfl⟩) fun H1 e1 => ?_
    have hv1 := (matT K m).mono (Fz.ex e1) hv
    refine q_asgD (R := Rp.dict P w K (level0 m)) (d_nd1 (d_tup (K := K) (d_cons (d_var rfl hv1) (d_cons (d_call1 (A := matL (firstFrame n)) (R := matT K (firstFrame m.length)) (d_call1 (A := .int (n : Int)) (d_eqI (d_len (K := K) (d_var rfl (Rp.tup_seq hv1))) (by rw [List.length_map, hg.sq.len])) fun a H2 e2 ra => ⟨n, by rw [show a = V.int (n : Int) from ra], by omega, rfl⟩)
      fun a H2 e2 ra => ⟨a, firstFrame n, rfl, matL_S _ _ _ ra, by rw [(firstFrame_sq n).len]; omega, by rw [hg.sq.len]; rfl⟩) d_nil)) (by show 2 ≤ 100000; decide)) (d_tup (K := K) d_nil (by show 0 ≤ 100000; decide))) fun hv0 H2 e2 rh => ?_
    refine q_forD (n := 7) (E := fun i => .int (i : Int)) (i_rng1 (k := 7) (d_cons (d_I0 (g := fun i j => .int (i + j)) d_c d_c) d_nil) (by decide) (by decide)) fun H3 e3 => ⟨fun t σ' H' => ∃ hd s2 s3 s4 s5 s6 s7 s8 s9, σ' = [some v, some hd, s2, s3, s4, s5, s6, s7, s8, s9] ∧ Ex H3 H' ∧ (Rp.dict P w K (levels m t)).is hd H' ∧ ∀ s, s < t → goodOf (levels m s) = [],
      ⟨hv0, _, _, _, _, _, _, _, _, rfl, Ex.refl _, (Rp.dict P w K _).mono (Fz.ex e3) rh, fun s hs => by omega⟩, fun i σ' H' ⟨_, _, _, _, _, _, _, _, _, _, f, _⟩ => Fz.ex f, ?_, ?_⟩
    · rintro t x σ' H4 H5 ht ⟨hd, s2, s3, s4, s5, s6, s7, s8, s9, rfl, f, rd, hno⟩ e5 rx
      obtain ⟨lv, llen, ltold⟩ := levels_ok hg t (by omega)
      have hcount : (levels m t).length ≤ 46656 := by
        refine Nat.le_trans llen ?_
        refine Nat.le_trans (Nat.pow_le_pow_left hn t) ?_
        exact Nat.le_trans (Nat.pow_le_pow_right (by decide) (show t ≤ 6 by omega)) (by decide)
      generalize hL : levels m t = here at lv llen ltold hcount rd
      have rd5 := (Rp.dict P w K here).mono (Fz.ex e5) rd
      have hmemi : ∀ i, i < here.length → here.getD i (([], []), []) ∈ here := fun i hi => by
        have e : here.getD i (([], []), []) = here[i] := by simp [hi]
        rw [e]
        exact List.getElem_mem hi
      -- good
      refine q_setLc (Rs := (goodOf here).map (rowN K)) ?_ fun vg H6 e6 rg => ?_
      · have eR : (goodOf here).map (rowN K) = kept here.length (fun i => decide (greensOf (here.getD i (([], []), [])).1.2 = [])) (fun i => rowN K (here.getD i (([], []), [])).2) := by
          unfold kept goodOf
          rw [List.map_map]
          exact (filter_range_getD (([], []), []) (fun kv : (Mx × Mx) × List Nat => decide (greensOf kv.1.2 = [])) (fun kv => rowN K kv.2) here).symm
        rw [eR]
        refine n_lcN (i_nd (d_var rfl rd5)) _ _ (by omega) (fun x => rfl) (fun i y H6 e6 hi ry => ?_) (fun i y H6 e6 hi _ ry => ?_)
        · have hkv := lv.sq _ (hmemi i hi)
          have hix : EvD (tOp (rIx K) (tVar 5) (tC (.int 1))) _ H6 (matS K (here.getD i (([], []), [])).1.2) := (d_ix (j := 1) ((d_var (i := 5) (σ := (wipe [some v, some hd, some x, s3, s4, s5, s6, s7, s8, s9] [5]).set 5 (some y)) rfl ry).le fun _ _ => Rp.tup_seq) d_c rfl).le (matT_S _)
          have := d_test (d_eqL (K := K) (ns := (greensOf (here.getD i (([], []), [])).1.2).map fun x : Nat => (x : Int)) (ms := []) (d_call1 (pre := pGreens K) (E := E0) (R := rowL ((greensOf (here.getD i (([], []), [])).1.2).map fun x : Nat => (x : Int))) hix fun a H7 e7 ra => ⟨a, n, _, rfl, ra, hkv.2.1, hn1, by omega, rfl⟩) (d_lst d_nil (by show 0 ≤ 100000; decide)))
          refine et_is this ?_
          simp
        · exact d_ndget (d_var rfl ((Rp.dict P w K here).mono (Fz.ex e6) rd5)) (d_var rfl ry) (look_in lv.nd _ (hmemi i hi))
      have rg' : (Rp.lst (((goodOf here).map ofR).map (rowT K))).is vg H6 := by
        rw [List.map_map]
        exact rg
      have hif := d_test (d_neNil (K := K) (rs := (goodOf here).map ofR) (d_var (σ := [some v, some hd, some x, some vg, s4, s5, s6, s7, s8, s9]) (i := 3) rfl rg') (d_lst d_nil (by show 0 ≤ 100000; decide)))
      refine q_when hif (fun hb H7 e7 => ?_) (fun hb H7 e7 => ?_)
      · -- return min(good)
        cases hgo : goodOf here with
        | nil => rw [hgo] at hb; cases hb
        | cons g gs =>
          have hres : greenRow m = some (minN g gs) := by
            rw [greenLoop_at m t (by omega) hno, hL]
            have e : 7 - t = (7 - t - 1) + 1 := by omega
            rw [e]
            show (match goodOf here with | g :: gs => some (minN g gs) | [] => greenLoop (7 - t - 1) (nextLevel here)) = _
            rw [hgo]
          have rg7 := (Rp.lst (((goodOf here).map ofR).map (rowT K))).mono (Fz.ex e7) rg'
          rw [hgo, List.map_cons] at rg7
          refine s_retD (d_minRows (d_var rfl rg7)) fun u H8 e8 r8 => k u H8 ((((((e1.trans e2).trans e3).trans f).trans (e5.trans e6)).trans e7).trans e8) ?_
          rw [hres]
          rw [minN_eq] at r8
          exact r8
      · have hgo : goodOf here = [] := by
          cases hgo : goodOf here with
          | nil => rfl
          | cons g gs => rw [hgo] at hb; cases hb
        have rd7 := (Rp.dict P w K here).mono (Fz.ex (e6.trans e7)) rd5
        -- behind = {}
        refine q_asgN fun d H8 hd8 e8 => ?_
        obtain rfl := e8
        have W0 : DictW P w K H7 d [] (upd H7 d (NdO P w d [])) := DictW.start hd8
        have rd8 := (Rp.dict P w K here).mono W0.fz rd7
        refine q_forD (i_nd (d_var rfl rd8)) fun H9 e9 => ⟨fun i σ' H' => ∃ s5 s6 s7 s8 s9, σ' = [some v, some hd, some x, some vg, some (.ref d), s5, s6, s7, s8, s9] ∧ Fz H9 H' ∧ (Rp.dict P w K here).is hd H' ∧ DictW P w K H7 d ((here.take i).foldl levelIn []) H',
          ⟨_, _, _, _, _, rfl, Fz.refl _, (Rp.dict P w K here).mono (Fz.ex e9) rd8, W0.ext e9⟩, fun i σ' H' ⟨_, _, _, _, _, _, f, _⟩ => f, ?_, ?_⟩
        · rintro i y σ' H10 H11 hi ⟨s5, s6, s7, s8, s9, rfl, f10, rd10, w10⟩ e11 ry
          have hkv := lv.sq _ (hmemi i hi)
          have hkt := ltold _ (hmemi i hi)
          have hlook := look_in lv.nd _ (hmemi i hi)
          have htk : here.take (i + 1) = here.take i ++ [here.getD i (([], []), [])] := by
            rw [List.take_succ_eq_append_getElem hi]
            simp [hi]
          generalize here.getD i (([], []), []) = kv at hkv hkt ry htk hlook
          obtain ⟨hacc, hal⟩ := level_ok (n := n) (m := t) (by omega) (here := here.take i) (acc := []) ⟨by simp, fun kv hk => by cases hk⟩ fun q hq => ⟨(lv.sq q (List.mem_of_mem_take hq)).1, (lv.sq q (List.mem_of_mem_take hq)).2.1, ltold q (List.mem_of_mem_take hq)⟩
          have hal2 : ((here.take i).foldl levelIn []).length ≤ 6 * 46656 := by
            refine Nat.le_trans hal ?_
            rw [List.length_nil, Nat.zero_add, List.length_take]
            exact Nat.mul_le_mul hn (by omega)
          have ry11 := ry
          have w11 := w10.ext e11
          have rd11 := (Rp.dict P w K here).mono (Fz.ex e11) rd10
          have hsl := steps_len (w := kv.1.1) hkv.2.1
          generalize hac : (here.take i).foldl levelIn [] = acc at w10 w11 hal2 hacc
          show tFor _ _ _ _ _ _
          have hix : ∀ (j : Nat) (q : Mx), ([matT K kv.1.1, matT K kv.1.2] : List Rp)[j]? = some (matT K q) → EvD (tOp (rIx K) (tVar 5) (tC (.int (j : Int)))) [some v, some hd, some x, some vg, some (.ref d), some y, s6, s7, s8, s9] H11 (matS K q) := fun j q hj =>
            (d_ix (j := j) ((d_var (i := 5) rfl ry11).le fun _ _ => Rp.tup_seq) d_c hj).le (matT_S _)
          refine s_forD (i_map (P := stepRp K) (xs := greenSteps kv.1.1 kv.1.2) (0, [], []) ((d_call2 (R := Rp.lst ((greenSteps kv.1.1 kv.1.2).map (stepRp K))) (hix 0 _ rfl) (hix 1 _ rfl) fun a b H12 e12 ra rb => ⟨a, b, n, _, _, rfl, ra, rb, hkv.1, hkv.2.1, hkv.2.2.1, hkv.2.2.2.1, hn1, by omega, rfl⟩).le fun _ _ => Rp.lst_seq)) fun H12 e12 =>
            ⟨fun l σ' H' => ∃ s6 s7 s8 s9, σ' = [some v, some hd, some x, some vg, some (.ref d), some y, s6, s7, s8, s9] ∧ Fz H9 H' ∧ Fz H12 H' ∧ (Rp.dict P w K here).is hd H' ∧ (stR K kv.1).is y H' ∧ DictW P w K H7 d (stepAll acc kv.2 ((greenSteps kv.1.1 kv.1.2).take l)) H',
            ⟨_, _, _, _, rfl, (f10.trans (Fz.ex e11)).trans (Fz.ex e12), Fz.refl _, (Rp.dict P w K here).mono (Fz.ex e12) rd11, (stR K kv.1).mono (Fz.ex e12) ry11, w11.ext e12⟩, fun i σ' H' ⟨_, _, _, _, _, _, f, _⟩ => f, ?_, ?_⟩
          · rintro l z σ' H13 H14 hl ⟨s6, s7, s8, s9, rfl, f9, f13, rd13, ry13, w13⟩ e14 rz
            have htk2 : (greenSteps kv.1.1 kv.1.2).take (l + 1) = (greenSteps kv.1.1 kv.1.2).take l ++ [(greenSteps kv.1.1 kv.1.2).getD l (0, [], [])] := by
              rw [List.take_succ_eq_append_getElem hl]
              simp [hl]
            generalize (greenSteps kv.1.1 kv.1.2).getD l (0, [], []) = st at rz htk2
            obtain ⟨p, ws, rfl, hp, r3⟩ := rz
            obtain ⟨vx, vl, vn, rfl, rx1, rx2, rx3⟩ := all2_3 r3
            obtain rfl : vx = V.int (st.1 : Int) := rx1
            refine ⟨p, _, rfl, hp, rfl, _, _, rfl, _, _, rfl, _, _, rfl, rfl, ?_⟩
            have w14 := w13.ext e14
            have hlen : (stepAll acc kv.2 ((greenSteps kv.1.1 kv.1.2).take l)).length < 1000000 := by
              have := (stepAll_ok (n := n) (told := kv.2) (by omega) (steps := (greenSteps kv.1.1 kv.1.2).take l) hacc fun q hq => (steps_ok hkv.1 hkv.2.1 (List.mem_of_mem_take hq)).2).2
              rw [List.length_take] at this
              omega
            have et : stepAll acc kv.2 ((greenSteps kv.1.1 kv.1.2).take (l + 1)) = stepIn kv.2 (stepAll acc kv.2 ((greenSteps kv.1.1 kv.1.2).take l)) st := by
              rw [htk2]
              unfold stepAll
              rw [List.foldl_append]
              rfl
            generalize stepAll acc kv.2 ((greenSteps kv.1.1 kv.1.2).take l) = acc2 at w13 w14 hlen et
            -- told = (*here[state], x)
            refine q_asgD (R := rowN K (kv.2 ++ [st.1])) ?_ fun vt H15 e15 rt => ?_
            · have := d_star1 (K := K) (r := ofR kv.2) (x := (st.1 : Int)) (d_ndget (P := P) (w := w) (d_var (i := 1) (σ := [some v, some hd, some x, some vg, some (.ref d), some y, some (.int (st.1 : Int)), some vl, some vn, s9]) rfl ((Rp.dict P w K here).mono (Fz.ex e14) rd13)) (d_var (i := 5) rfl ((stR K kv.1).mono (Fz.ex e14) ry13)) hlook) (d_varV (i := 6) rfl) (by unfold ofR; rw [List.length_map]; omega)
              refine d_eqR this ?_
              show rowT K _ = rowT K _
              congr 1
              unfold ofR
              rw [List.map_append]
              rfl
            -- behind[later, lines] = min(told, behind.get((later, lines), told))
            have w15 := w14.ext e15
            have hky : EvD (tTup (tCons (tVar 7) (tCons (tVar 8) tNil))) [some v, some hd, some x, some vg, some (.ref d), some y, some (.int (st.1 : Int)), some vl, some vn, some vt] H15 (stR K st.2) :=
              d_tup (d_cons (d_var rfl ((matT K _).mono (Fz.ex e15) rx2)) (d_cons (d_var rfl ((matT K _).mono (Fz.ex e15) rx3)) d_nil)) (by show 2 ≤ 100000; decide)
            have hval := d_min2 (K := K) (d_var (i := 9) (σ := [some v, some hd, some x, some vg, some (.ref d), some y, some (.int (st.1 : Int)), some vl, some vn, some vt]) rfl rt) (d_ndget2 w15 (j := 4) rfl hky (d_var (i := 9) rfl rt))
            refine hval.go fun vm H16 e16 rm => ?_
            have hm : (rowN K (minN (kv.2 ++ [st.1]) [(look acc2 st.2).getD (kv.2 ++ [st.1])])).is vm H16 := by
              show (rowT K (ofR _)).is vm H16
              rw [← minN_eq]
              exact rm
            refine ⟨.ref d, rfl, (hky.up e16).go fun vk H17 e17 rk => ((w15.ext e16).ext e17).put rk ((rowN K _).mono (Fz.ex e17) hm) hlen fun H18 f18 w18 => ?_⟩
            have F : Fz H13 H18 := (((Fz.ex e14).trans (Fz.ex e15)).trans ((Fz.ex e16).trans (Fz.ex e17))).trans f18
            refine ⟨_, _, _, _, rfl, f9.trans F, f13.trans F, (Rp.dict P w K here).mono F rd13, (stR K kv.1).mono F ry13, ?_⟩
            rw [et]
            exact w18
          · rintro σ' H13 ⟨s6, s7, s8, s9, rfl, f9, f13, rd13, ry13, w13⟩
            rw [List.take_length] at w13
            refine ⟨_, _, _, _, _, rfl, f9, rd13, ?_⟩
            rw [htk, List.foldl_append, hac]
            exact w13
        · rintro σ' H10 ⟨s5, s6, s7, s8, s9, rfl, f10, rd10, w10⟩
          rw [List.take_length] at w10
          refine w10.frV (j := 4) rfl fun H11 e11 f11 r11 => ?_
          refine ⟨.ref d, _, _, _, _, _, _, _, _, rfl, ((f.trans (e5.trans e6)).trans e7).trans e11, ?_, fun s hs => ?_⟩
          · show (Rp.dict P w K (nextLevel (levels m t))).is _ H11
            rw [hL]
            exact r11
          · by_cases hst : s < t
            · exact hno s hst
            · have : s = t := by omega
              subst this
              rw [hL]
              exact hgo
    · rintro σ' H4 ⟨hd, s2, s3, s4, s5, s6, s7, s8, s9, rfl, f, rd, hno⟩
      have hres : greenRow m = none := by
        rw [greenLoop_at m 7 (by omega) hno]
        rfl
      refine s_retD (R := .non) (d_c (v := V.non)) fun u H5 e5 r5 => k u H5 ((((e1.trans e2).trans e3).trans f).trans e5) ?_
      rw [hres]
      exact r5
end
end G
set_option maxRecDepth 100000
set_option maxHeartbeats 1000000
/-! G10: heaps that change at some places; a table of one's own, its cells set; what is done with the row of the law. -/
namespace G
open PySem PySem.Spec PyProof.Rows L2 Evl
/-- all stands but what lies in B -/
structure ExB (B : Addr → Prop) (H H' : Hp) : Prop where
  fz : Fz H H'
  at_ : ∀ x o, ¬ B x → H x = some o → H' x = some o
section
variable {B : Addr → Prop} {H H1 H2 : Hp}
theorem ExB.refl : ExB B H H := ⟨Fz.refl H, fun _ _ _ h => h⟩
theorem ExB.ex (e : Ex H H1) : ExB B H H1 := ⟨Fz.ex e, fun x o _ h => e x o h⟩
theorem ExB.trans (a : ExB B H H1) (b : ExB B H1 H2) : ExB B H H2 := ⟨a.fz.trans b.fz, fun x o n h => b.at_ x o n (a.at_ x o n h)⟩
theorem ExB.mono {C : Addr → Prop} (h : ∀ x, B x → C x) (a : ExB B H H1) : ExB C H H1 := ⟨a.fz, fun x o n e => a.at_ x o (fun b => n (h x b)) e⟩
theorem ExB.toEx (a : ExB (fun _ => False) H H1) : Ex H H1 := fun x o e => a.at_ x o id e
theorem ExB.mut {q : Addr} {o u : HO} (hB : B q) (h : H q = some o) (hn : ¬ Imm o) : ExB B H (upd H q u) := ⟨Fz.mut h hn, fun x o' n e => by
  have : x ≠ q := fun z => n (z ▸ hB)
  rw [upd_ne this]
  exact e⟩
/-- what is new in H may change -/
theorem ExB.widen {C : Addr → Prop} (a : ExB B H H1) (b : ExB C H1 H2) (h : ∀ x, C x → B x ∨ H x = none) : ExB B H H2 := ⟨a.fz.trans b.fz, fun x o n e => b.at_ x o (fun c => by
  rcases h x c with h | h
  · exact n h
  · rw [e] at h
    cases h) (a.at_ x o n e)⟩
theorem Gh.bind {k k' : Hp → Prop} (g : Gh H k) (h : ∀ H', k H' → Gh H' k') : Gh H k' := by
  induction g with
  | done a => exact h _ a
  | frz p xs e _ ih => exact .frz p xs e fun o => ih o h
end
/-! ### n rows of n numbers by a rule -/
def mOf (n : Nat) (F : Nat → Nat → Int) : Mx := (List.range n).map fun y => (List.range n).map fun z => F y z
theorem mOf_sq (n : Nat) (F : Nat → Nat → Int) : Sq n (mOf n F) := by
  unfold mOf
  refine ⟨by simp, fun r hr => ?_⟩
  obtain ⟨y, _, rfl⟩ := List.mem_map.mp hr
  simp
theorem mOf_at {n : Nat} {F : Nat → Nat → Int} {y z : Nat} (hy : y < n) (hz : z < n) : at2 (mOf n F) y z = F y z := by
  unfold at2 mOf
  have : ((List.range n).map fun y => (List.range n).map fun z => F y z).getD y [] = (List.range n).map fun z => F y z := by simp [hy]
  rw [this]
  simp [hz]
theorem mOf_congr {n : Nat} {F G : Nat → Nat → Int} (h : ∀ y z, y < n → z < n → F y z = G y z) : mOf n F = mOf n G := by
  unfold mOf
  refine List.map_congr_left fun y hy => List.map_congr_left fun z hz => h y z (List.mem_range.mp hy) (List.mem_range.mp hz)
theorem mOf_bd {n : Nat} {F : Nat → Nat → Int} {B : Int} (h : ∀ y z, y < n → z < n → -B ≤ F y z ∧ F y z ≤ B) : Bd B (mOf n F) := by
  intro r hr a ha
  unfold mOf at hr
  obtain ⟨y, hy, rfl⟩ := List.mem_map.mp hr
  obtain ⟨z, hz, rfl⟩ := List.mem_map.mp ha
  exact h y z (List.mem_range.mp hy) (List.mem_range.mp hz)
theorem Sq.eta {n : Nat} {m : Mx} (h : Sq n m) : m = mOf n (at2 m) := by
  refine List.ext_getElem (by simp [mOf, h.len]) fun y h1 h2 => ?_
  have hr := h.row _ (List.getElem_mem h1)
  refine List.ext_getElem (by simp [mOf, hr]) fun z h3 h4 => ?_
  simp [mOf, at2, h1, h3]
def upd2 (F : Nat → Nat → Int) (y z : Nat) (v : Int) : Nat → Nat → Int := fun a b => if a = y ∧ b = z then v else F a b
def rowV (n : Nat) (f : Nat → Int) : List V := (List.range n).map fun z => .int (f z)
theorem rowV_len {n : Nat} {f : Nat → Int} : (rowV n f).length = n := by simp [rowV]
theorem rowV_get {n : Nat} {f : Nat → Int} {z : Nat} (h : z < n) : (rowV n f)[z]? = some (.int (f z)) := by simp [rowV, h]
theorem rowV_congr {n : Nat} {f g : Nat → Int} (h : ∀ z, z < n → f z = g z) : rowV n f = rowV n g := by
  unfold rowV
  exact List.map_congr_left fun z hz => by rw [h z (List.mem_range.mp hz)]
theorem rowV_set {n : Nat} {f : Nat → Int} {z : Nat} {v : Int} : (rowV n f).set z (.int v) = rowV n fun b => if b = z then v else f b := by
  refine List.ext_getElem (by simp [rowV]) fun i h1 h2 => ?_
  have hi : i < n := by simpa [rowV] using h2
  rw [List.getElem_set]
  simp only [rowV, List.getElem_map, List.getElem_range]
  by_cases e : z = i
  · rw [if_pos e, if_pos e.symm]
  · rw [if_neg e, if_neg fun h => e h.symm]
/-- a table of one's own -/
structure TabW (B : Addr → Prop) (H0 : Hp) (pt : Addr) (ps : List Addr) (n : Nat) (F : Nat → Nat → Int) (H : Hp) : Prop where
  ex : ExB B H0 H
  pt0 : H0 pt = none
  ptB : ¬ B pt
  q0 : ∀ q, q ∈ ps → H0 q = none ∧ ¬ B q ∧ q ≠ pt
  nd : ps.Nodup
  len : ps.length = n
  at_ : H pt = some (.lst (ps.map V.ref))
  row : ∀ (y : Nat) (q : Addr), ps[y]? = some q → H q = some (.lst (rowV n (F y)))
section
variable {B : Addr → Prop} {K : PySem.W.Frag} {H0 H H1 : Hp} {pt : Addr} {ps : List Addr} {n : Nat} {F G : Nat → Nat → Int} {σ : L2.St} {i j l : Nat} {ta tb ty tz : TE} {y z : Nat}
theorem TabW.step (t : TabW B H0 pt ps n F H) (e : ExB B H H1) : TabW B H0 pt ps n F H1 :=
  ⟨t.ex.trans e, t.pt0, t.ptB, t.q0, t.nd, t.len, e.at_ _ _ t.ptB t.at_, fun y q h => e.at_ _ _ (t.q0 q (List.mem_of_getElem? h)).2.1 (t.row y q h)⟩
theorem TabW.ext (t : TabW B H0 pt ps n F H) (e : Ex H H1) : TabW B H0 pt ps n F H1 := t.step (.ex e)
theorem TabW.congr (t : TabW B H0 pt ps n F H) (h : ∀ y z, y < n → z < n → F y z = G y z) : TabW B H0 pt ps n G H :=
  ⟨t.ex, t.pt0, t.ptB, t.q0, t.nd, t.len, t.at_, fun y q e => by
    rw [t.row y q e, rowV_congr fun z hz => h y z ?_ hz]
    have := (List.getElem?_eq_some_iff.mp e).1
    rw [t.len] at this
    exact this⟩
theorem TabW.q (t : TabW B H0 pt ps n F H) (hy : y < n) : ∃ q, ps[y]? = some q ∧ q ∈ ps ∧ H q = some (.lst (rowV n (F y))) := by
  have h : y < ps.length := by rw [t.len]; exact hy
  have e : ps[y]? = some ps[y] := by simp [h]
  exact ⟨_, e, List.getElem_mem h, t.row y _ e⟩
theorem TabW.rowD (t : TabW B H0 pt ps n F H) (hσ : σ[i]? = some (some (.ref pt))) (hd : EvD ty σ H (.int (y : Int))) {q : Addr} (hq : ps[y]? = some q) : EvD (tOp (rIx K) (tVar i) ty) σ H (.v (.ref q)) := fun H1 e Q k =>
  ⟨_, hσ, hd H1 e _ fun v H2 e2 r2 => .inl ⟨pt, ps.map V.ref, (y : Int), .ref q, rfl, r2, .inl (.inl (e2 _ _ (e _ _ t.at_))), atI_nat (by rw [List.getElem?_map, hq]; rfl), k _ H2 e2 rfl⟩⟩
theorem TabW.get (t : TabW B H0 pt ps n F H) (hσ : σ[i]? = some (some (.ref pt))) (hdy : EvD ty σ H (.int (y : Int))) (hdz : EvD tz σ H (.int (z : Int))) (hy : y < n) (hz : z < n) : EvD (tOp (rIx K) (tOp (rIx K) (tVar i) ty) tz) σ H (.int (F y z)) := fun H1 e Q k => by
  obtain ⟨q, hq, _, hr⟩ := t.q hy
  refine (t.rowD (K := K) hσ hdy hq) H1 e _ fun v H2 e2 r2 => hdz H2 (e.trans e2) _ fun u H3 e3 r3 => ?_
  exact .inl ⟨q, rowV n (F y), (z : Int), .int (F y z), r2, r3, .inl (.inl (((e.trans e2).trans e3) _ _ hr)), atI_nat (rowV_get hz), k _ H3 (e2.trans e3) rfl⟩
theorem TabW.upd (t : TabW B H0 pt ps n F H) {q : Addr} (hq : ps[y]? = some q) (v : Int) : ExB (fun x => x ∈ ps) H (L2.upd H q (.lst ((rowV n (F y)).set z (.int v)))) ∧ TabW B H0 pt ps n (upd2 F y z v) (L2.upd H q (.lst ((rowV n (F y)).set z (.int v)))) := by
  have hm := List.mem_of_getElem? hq
  have hr := t.row y q hq
  have e1 : ExB (fun x => x ∈ ps) H (L2.upd H q (.lst ((rowV n (F y)).set z (.int v)))) := .mut hm hr fun h => h
  refine ⟨e1, t.ex.widen e1 fun x hx => .inr (t.q0 x hx).1, t.pt0, t.ptB, t.q0, t.nd, t.len, ?_, fun y' q' h => ?_⟩
  · rw [upd_ne (Ne.symm (t.q0 q hm).2.2)]
    exact t.at_
  · by_cases e : q' = q
    · subst e
      have : y' = y := by
        have h1 := (List.getElem?_eq_some_iff.mp h)
        have h2 := (List.getElem?_eq_some_iff.mp hq)
        obtain ⟨h1, e1⟩ := h1
        obtain ⟨h2, e2⟩ := h2
        have i1 := t.nd.idxOf_getElem y' h1
        have i2 := t.nd.idxOf_getElem y h2
        rw [e1] at i1
        rw [e2] at i2
        exact i1.symm.trans i2
      subst this
      rw [upd_same, rowV_set]
      congr 2
      refine rowV_congr fun b _ => ?_
      unfold upd2
      by_cases eb : b = z
      · rw [if_pos eb, if_pos ⟨rfl, eb⟩]
      · rw [if_neg eb, if_neg fun h => eb h.2]
    · rw [upd_ne e, t.row y' q' h]
      congr 2
      refine rowV_congr fun b _ => ?_
      unfold upd2
      rw [if_neg]
      rintro ⟨rfl, _⟩
      rw [hq] at h
      exact e (Option.some.inj h).symm
theorem TabW.set (t : TabW B H0 pt ps n F H) (hσ : σ[i]? = some (some (.ref pt))) (hdy : σ[j]? = some (some (.int (y : Int)))) (hdz : σ[l]? = some (some (.int (z : Int)))) (hy : y < n) (hz : z < n) {v : Int} {Q : L2.St → Hp → Prop}
    (k : ∀ H1, ExB (fun x => x ∈ ps) H H1 → TabW B H0 pt ps n (upd2 F y z v) H1 → Q σ H1) : gSub (tOp (rIx K) (tVar i) (tVar j)) (tVar l) rSetL (.int v) σ H Q := by
  obtain ⟨q, hq, _, hr⟩ := t.q hy
  refine (t.rowD (K := K) hσ (d_varV hdy) hq).go fun u H1 e1 r1 => ?_
  obtain rfl : u = .ref q := r1
  refine ⟨_, hdz, q, rowV n (F y), (z : Int), z, rfl, rfl, e1 _ _ hr, ixN_nat (by rw [rowV_len]; exact hz), ?_⟩
  obtain ⟨a, b⟩ := (t.ext e1).upd (z := z) hq v
  exact k _ ((ExB.ex e1).trans a) b
/-- t[y][z], t[z][y] = a, b -/
theorem TabW.s2 (t : TabW B H0 pt ps n F H) (hσ : σ[i]? = some (some (.ref pt))) (hdy : σ[j]? = some (some (.int (y : Int)))) (hdz : σ[l]? = some (some (.int (z : Int)))) (hy : y < n) (hz : z < n) {a b : Int} {m : Nat} (hm : m = 2) {D : Ends}
    (ha : EvD ta σ H (.int a)) (hb : EvD tb σ H (.int b)) (k : ∀ H1, ExB (fun x => x ∈ ps) H H1 → TabW B H0 pt ps n (upd2 (upd2 F y z a) z y b) H1 → D.nx σ H1) :
    tAsg (tTup (tCons ta (tCons tb tNil))) (gTup K m (gCons (gSub (tOp (rIx K) (tVar i) (tVar j)) (tVar l) rSetL) (gCons (gSub (tOp (rIx K) (tVar i) (tVar l)) (tVar j) rSetL) gNil))) D σ H := by
  subst hm
  refine (d_tup (K := K) (d_cons ha (d_cons hb d_nil)) (by show 2 ≤ 100000; decide)).go fun v H1 e1 r1 => ?_
  obtain ⟨p, vs, rfl, h1, h2⟩ := r1
  obtain ⟨u, w, rfl, ru, rw'⟩ := all2_2 h2
  obtain rfl : u = V.int a := ru
  obtain rfl : w = V.int b := rw'
  refine ⟨p, _, rfl, h1, rfl, _, _, rfl, ?_⟩
  refine (t.ext e1).set hσ hdy hdz hy hz fun H2 e2 t2 => ⟨_, _, rfl, ?_⟩
  refine t2.set hσ hdz hdy hz hy fun H3 e3 t3 => ⟨rfl, k H3 (((ExB.ex e1).trans e2).trans e3) t3⟩
/-- frozen -/
theorem gh_rows {f : Addr → List V} : ∀ (l : List Addr) {H : Hp}, l.Nodup → (∀ q, q ∈ l → H q = some (.lst (f q))) → Gh H fun H' => ExB (fun x => x ∈ l) H H' ∧ ∀ q, q ∈ l → SqF H' q (f q)
  | [], H, _, _ => .done ⟨.refl, fun q h => by cases h⟩
  | q :: l, H, nd, h => .frz q (f q) (h q (by simp)) fun o => by
    rw [List.nodup_cons] at nd
    have e0 : ExB (fun x => x ∈ q :: l) H (L2.upd H q (.frz o (.lst (f q)))) := .mut (by simp) (h q (by simp)) fun h => h
    refine (gh_rows (f := f) l nd.2 fun q' hq => ?_).bind fun H' ⟨e1, h1⟩ => .done ⟨e0.trans (e1.mono fun x hx => List.mem_cons_of_mem _ hx), fun q' hq => ?_⟩
    · have hne : q' ≠ q := fun e => nd.1 (e ▸ hq)
      rw [upd_ne hne]
      exact h q' (List.mem_cons_of_mem _ hq)
    · rcases List.mem_cons.mp hq with rfl | hq
      · exact ⟨o, e1.fz _ _ trivial upd_same⟩
      · exact h1 q' hq
theorem TabW.fr (t : TabW B H0 pt ps n F H) : Gh H fun H' => ExB B H0 H' ∧ ExB (fun x => x = pt ∨ x ∈ ps) H H' ∧ (matL (mOf n F)).is (.ref pt) H' := by
  have hf : ∀ q, q ∈ ps → H q = some (.lst (rowV n (F (ps.idxOf q)))) := fun q hq => by
    refine t.row _ q ?_
    rw [List.getElem?_eq_getElem (List.idxOf_lt_length_of_mem hq), List.getElem_idxOf]
  refine (gh_rows ps t.nd hf).bind fun H1 ⟨e1, h1⟩ => ?_
  have e1' : ExB (fun x => x = pt ∨ x ∈ ps) H H1 := e1.mono fun x h => .inr h
  have hp : H1 pt = some (.lst (ps.map V.ref)) := e1.at_ _ _ (fun h => (t.q0 _ h).2.2 rfl) t.at_
  refine .frz pt (ps.map V.ref) hp fun o => .done ?_
  have e2 : ExB (fun x => x = pt ∨ x ∈ ps) H (L2.upd H1 pt (.frz o (.lst (ps.map V.ref)))) := e1'.trans (.mut (.inl rfl) hp fun h => h)
  have f2 : Fz H1 (L2.upd H1 pt (.frz o (.lst (ps.map V.ref)))) := Fz.mut hp fun h => h
  refine ⟨t.ex.widen e2 fun x hx => .inr ?_, e2, pt, ps.map V.ref, rfl, ⟨o, upd_same⟩, ?_⟩
  · rcases hx with rfl | hx
    · exact t.pt0
    · exact (t.q0 x hx).1
  have hmem : ∀ (y : Nat) (q : Addr), ps[y]? = some q → (rowL ((List.range n).map fun z => F y z)).is (.ref q) (L2.upd H1 pt (.frz o (.lst (ps.map V.ref)))) := fun y q h => by
    have hq := List.mem_of_getElem? h
    have hi : ps.idxOf q = y := by
      obtain ⟨h1, e1⟩ := List.getElem?_eq_some_iff.mp h
      subst e1
      exact t.nd.idxOf_getElem y h1
    have := fz_f f2 (h1 q hq)
    rw [hi] at this
    refine ⟨q, _, rfl, this, ?_⟩
    have := ints_all2 (H := L2.upd H1 pt (.frz o (.lst (ps.map V.ref)))) ((List.range n).map fun z => F y z)
    rw [List.map_map] at this
    rw [List.map_map]
    have e : rowV n (F y) = (List.range n).map (V.int ∘ fun z => F y z) := rfl
    rw [List.map_map] at this
    rw [e]
    exact this
  unfold mOf
  rw [List.map_map]
  have gen : ∀ (l : List Addr) (m : Nat) (f : Nat → Rp) (H : Hp), l.length = m → (∀ y q, l[y]? = some q → (f y).is (.ref q) H) → All2 ((List.range m).map f) (l.map V.ref) H := by
    intro l
    induction l with
    | nil =>
      intro m f H h _
      subst h
      exact .nil
    | cons q l ih =>
      intro m f H h g
      subst h
      rw [List.length_cons, List.range_succ_eq_map, List.map_cons, List.map_map]
      exact .cons (g 0 q rfl) (ih l.length (f ∘ Nat.succ) H rfl fun y q' e => g (y + 1) q' (by simpa using e))
  exact gen ps n _ _ t.len hmem
/-- the table as a comprehension makes it -/
theorem n_lcR {wi : TI} {te : TE} {tt : TT} {E : Nat → Rp} {vs : List Nat} (hI : EvI wi σ H n E) (F : Nat → Nat → Int) (hn : n ≤ 1000000) (hw : ∀ x, wipe ((wipe σ vs).set j (some x)) vs = wipe σ vs) (ht : ∀ σ H, EvT tt σ H true)
    (he : ∀ (i : Nat) (x : V) H1, Ex H H1 → i < n → (E i).is x H1 → ∀ Q : VK, (∀ q H2, Ex H1 H2 → H1 q = none → H2 q = some (.lst (rowV n (F i))) → Q (.ref q) H2) → te ((wipe σ vs).set j (some x)) H1 Q)
    {Q : VK} (k : ∀ pt ps H', TabW (fun _ => False) H pt ps n F H' → Q (.ref pt) H') : tLc wi (gName j) tt te vs σ H Q :=
  hI H (Ex.refl H) _ fun J H2 e2 w => fun D hD => by
    refine ⟨fun i m H' => m = n - i ∧ i ≤ n ∧ ∃ ps : List Addr, ps.length = i ∧ Ex H2 H' ∧ H' D = some (.lst (ps.map V.ref)) ∧ (∀ q, q ∈ ps → H2 q = none ∧ q ≠ D) ∧ ps.Nodup ∧ ∀ (y : Nat) (q : Addr), ps[y]? = some q → H' q = some (.lst (rowV n (F y))),
      ⟨n, by simp, Nat.zero_le _, [], rfl, Ex.new hD, upd_same, (fun q h => by cases h), by simp, fun y q h => by simp at h⟩, ?_⟩
    rintro i m H3 ⟨rfl, hi, ps, hl, e3, hd, h0, nd, hr⟩
    by_cases hlt : i < n
    · refine .inr ⟨w.go H3 i (Fz.ex e3) hlt, fun H' => ∃ ps : List Addr, ps.length = i + 1 ∧ Ex H2 H' ∧ H' D = some (.lst (ps.map V.ref)) ∧ (∀ q, q ∈ ps → H2 q = none ∧ q ≠ D) ∧ ps.Nodup ∧ ∀ (y : Nat) (q : Addr), ps[y]? = some q → H' q = some (.lst (rowV n (F y))),
        fun H' p' => ⟨n - (i + 1), by omega, rfl, hlt, p'⟩, fun x H4 y => ?_⟩
      obtain ⟨e4, hx⟩ := w.yld H3 i x H4 (Fz.ex e3) hlt y
      refine ⟨hw x, t_go (ht _ H4) fun H5 e5 => ?_⟩
      show te _ H5 _
      have e35 := e4.trans e5
      refine he i x H5 ((e2.trans e3).trans e35) hlt ((E i).mono (Fz.ex e5) hx) _ fun q H6 e6 hq0 hq => ?_
      have e36 := e35.trans e6
      refine ⟨_, e36 _ _ hd, ?_, ?_⟩
      · rw [List.length_map, hl]
        exact Nat.lt_of_lt_of_le (Nat.lt_of_lt_of_le hlt hn) (by decide)
      · have hq3 : H3 q = none := fresh_back e35 hq0
        have hqD : q ≠ D := fun e => by
          rw [e, hd] at hq3
          cases hq3
        refine ⟨ps ++ [q], by simp [hl], Ex.mut (e3.trans e36) hD, ?_, fun q' hq' => ?_, ?_, fun y q' hy => ?_⟩
        · rw [upd_same, List.map_append]
          rfl
        · rcases List.mem_append.mp hq' with hq' | hq'
          · exact h0 q' hq'
          · obtain rfl : q' = q := by simpa using hq'
            exact ⟨fresh_back e3 hq3, hqD⟩
        · rw [List.nodup_append]
          refine ⟨nd, by simp, fun a ha b hb e => ?_⟩
          obtain rfl : b = q := by simpa using hb
          subst e
          obtain ⟨iy, hiy⟩ := List.mem_iff_getElem?.mp ha
          rw [hr iy _ hiy] at hq3
          cases hq3
        · by_cases hyl : y < ps.length
          · rw [List.getElem?_append_left hyl] at hy
            have := hr y q' hy
            rw [upd_ne (h0 q' (List.mem_of_getElem? hy)).2]
            exact e36 _ _ this
          · rw [List.getElem?_append_right (by omega)] at hy
            have hy0 : y - ps.length = 0 := by
              have := (List.getElem?_eq_some_iff.mp hy).1
              simp at this
              omega
            rw [hy0] at hy
            obtain rfl : q = q' := by simpa using hy
            have : y = i := by omega
            subst this
            rw [upd_ne hqD]
            exact hq
    · have e0 : i = n := by omega
      subst e0
      refine .inl ⟨w.stop H3 (Fz.ex e3), k D ps H3 ⟨.ex (e2.trans e3), fresh_back e2 hD, id, fun q hq => ⟨fresh_back e2 (h0 q hq).1, id, (h0 q hq).2⟩, nd, hl, hd, hr⟩⟩
end
end G
set_option maxRecDepth 100000
set_option maxHeartbeats 4000000
/-! W5: the law's row of numbers: _law_taken, _law_pick. -/
namespace G
open PySem PySem.Spec PyProof.Rows L2 Evl
section
variable {P : Program} {w : World} {K : PySem.W.Frag} {mg : Str → Option Value} {base : Heap} {A : Ad}
/-- a list of ints that is never written to -/
def SqLF (K : PySem.W.Frag) (H : Hp) (a : Addr) (xs : List V) : Prop :=
  (∃ o, H a = some (.frz o (.lst xs))) ∨ ∃ (o : Obj) (its : Array Value) (n : Nat), K.lookup a = some o ∧ o.cls = .type "list" ∧ o.dict = none ∧ o.data = .seq its n ∧ its.size ≤ sizeLine ∧ Vals xs its.toList
theorem SqLF.l {H : Hp} {a : Addr} {xs : List V} (h : SqLF K H a xs) : SqL K H a xs := h.imp .inr id
theorem SqLF.mono {H H1 : Hp} {a : Addr} {xs : List V} (f : Fz H H1) (h : SqLF K H a xs) : SqLF K H1 a xs := h.imp (fun ⟨o, h⟩ => ⟨o, f _ _ trivial h⟩) id
theorem SqLF.of {H : Hp} {a : Addr} {xs : List V} (ho : Only H) (h : SqL K H a xs) : SqLF K H a xs := by
  rcases h with (h | ⟨o, h⟩) | h
  · rcases ho a with e | ⟨o, ys, e⟩
    · rw [e] at h
      cases h
    · rw [e] at h
      cases h
  · exact .inl ⟨o, h⟩
  · exact .inr h
/-- the law's row -/
def RowAt (K : PySem.W.Frag) (H : Hp) (p : Addr) : Prop := ∃ (sa : Addr) (ns : List Int) (i st mo : Int), H p = some (.lst [.ref sa, .int i, .int st, .int mo]) ∧ SqLF K H sa (ns.map V.int) ∧ 0 ≤ i
theorem RowAt.step {B : Addr → Prop} {H H1 : Hp} {p : Addr} (h : RowAt K H p) (e : ExB B H H1) (n : ¬ B p) : RowAt K H1 p := by
  obtain ⟨sa, ns, i, st, mo, a, b, c⟩ := h
  exact ⟨sa, ns, i, st, mo, e.at_ _ _ n a, b.mono e.fz, c⟩
theorem RowAt.ext {H H1 : Hp} {p : Addr} (h : RowAt K H p) (e : Ex H H1) : RowAt K H1 p := h.step (B := fun _ => False) (.ex e) id
def spT (K : PySem.W.Frag) : Sp := fun vs H Q _ => ∃ p many, vs = [.ref p, .int many] ∧ RowAt K H p ∧ 0 < many ∧ many < 1000 ∧ ∀ t H', 0 ≤ t → t < many → ExB (fun x => x = p) H H' → RowAt K H' p → Q (.int t) H'
def spPick (K : PySem.W.Frag) : Sp := fun vs H Q _ => ∃ p u ms, vs = [.ref p, u] ∧ RowAt K H p ∧ (rowL ms).is u H ∧ ms ≠ [] ∧ ms.length < 1000 ∧ ∀ t H', t ∈ ms → ExB (fun x => x = p) H H' → RowAt K H' p → Q (.int t) H'
section
variable {σ : L2.St} {H : Hp} {te : TE} {xs : List V} {p : Addr} {j k : Nat} {v : V} {D : Ends} {tz : TS} {g : TG}
theorem d_lix (hp : H p = some (.lst xs)) (hσ : σ[j]? = some (some (.ref p))) (hk : EvD te σ H (.int (k : Int))) (hx : xs[k]? = some v) : EvD (tOp (rIx K) (tVar j) te) σ H (.v v) := fun H1 e Q q =>
  ⟨_, hσ, hk H1 e _ fun u H2 e2 r2 => .inl ⟨p, xs, (k : Int), v, rfl, r2, .inl (.inl (e2 _ _ (e _ _ hp))), atI_nat hx, q v H2 e2 rfl⟩⟩
theorem s_setW (hp : H p = some (.lst xs)) (hσ : σ[j]? = some (some (.ref p))) (h : EvD te σ H (.v v)) (hk : k < xs.length) (q : ∀ H1, ExB (fun x => x = p) H H1 → H1 p = some (.lst (xs.set k v)) → D.nx σ H1) : tAsg te (gSub (tVar j) (tC (.int (k : Int))) rSetL) D σ H :=
  h.go fun u H1 e1 r1 => by
    obtain rfl : u = v := r1
    exact ⟨_, hσ, p, xs, (k : Int), k, rfl, rfl, e1 _ _ hp, ixN_nat hk, q _ ((ExB.ex e1).trans (.mut rfl (e1 _ _ hp) fun h => h)) upd_same⟩
theorem q_setW (hp : H p = some (.lst xs)) (hσ : σ[j]? = some (some (.ref p))) (h : EvD te σ H (.v v)) (hk : k < xs.length) (q : ∀ H1, ExB (fun x => x = p) H H1 → H1 p = some (.lst (xs.set k v)) → tz D σ H1) : tSeq (tAsg te (gSub (tVar j) (tC (.int (k : Int))) rSetL)) tz D σ H :=
  s_setW (D := { D with nx := tz D }) hp hσ h hk q
end
theorem CMul_small {i j : Int} (h1 : -100000 < j) (h2 : j < 100000) : CMul i j := .inr ⟨Int.lt_trans (by decide) h1, Int.lt_trans h2 (by decide)⟩
theorem ok_law_taken (T : Txt K mg A) : FnOk P w K mg base CX0 1 (A.a 21) (A.d 21) ["_law_row", "_law_many"] (spT K) := by
  refine T.d_law_taken.F.ok sc21 (fun vs H Q E h => ?_) (fun cdv A outer s H vs Q E hr h => ?_)
  · obtain ⟨p, many, rfl, _⟩ := h
    rfl
  · obtain ⟨p, many, rfl, ⟨sa, ns, i, st, mo, hp, hs, hi⟩, hm0, hm1, kq⟩ := h
    refine ⟨_, (pss_cons (ps_if (pt_cmpR op_gt (pe_ix (ixK K rfl) (pv 0) pe_int (fun _ _ => rfl)) pe_int (nomark _)) (pss_cons (ps_set (i := 3) sc21.nd rfl (Or.inl rfl) (pe_op op_mod (pe_callTy call_intA (by rfl) T.z_int (by decide +kernel) (pa_cons (pe_ix (ixK K rfl) (pv 0) pe_int (fun _ _ => rfl)) pa_nil)) (pv 1)))
      (pss_cons (ps_asg (pe_op op_fdiv (pe_ix (ixK K rfl) (pv 0) pe_int (fun _ _ => rfl)) (pv 1)) (pg_sub (pv 0) pe_int set_list))
      (pss_one (ps_ret (pv 3))))) pss_nil)
      (pss_cons (ps_asg (pe_op op_add (pe_ix (ixK K rfl) (pv 0) pe_int (fun _ _ => rfl)) pe_int) (pg_sub (pv 0) pe_int set_list))
      (pss_cons (ps_if (pt_cmpR op_gt (pe_ix (ixK K rfl) (pv 0) pe_int (fun _ _ => rfl)) (pe_callB (lenK K rfl) (by rfl) T.z_len (by decide +kernel) (pa_cons (pe_ix (ixK K rfl) (pv 0) pe_int (fun _ _ => rfl)) pa_nil)) (nomark _)) (pss_cons (ps_asg (pe_op op_mod (pe_callTy call_intA (by rfl) T.z_int (by decide +kernel) (pa_cons (pe_op op_add (pe_op op_mul (pe_ix (ixK K rfl) (pv 0) pe_int (fun _ _ => rfl)) pe_int) pe_int) pa_nil)) pe_int) (pg_sub (pv 0) pe_int set_list))
      (pss_one (ps_ret (pe_op op_mod (pe_callTy call_intA (by rfl) T.z_int (by decide +kernel) (pa_cons (pe_op op_fdiv (pe_ix (ixK K rfl) (pv 0) pe_int (fun _ _ => rfl)) pe_int) pa_nil)) (pv 1))))) pss_nil)
      (pss_cons (ps_set (i := 2) sc21.nd rfl (Or.inl rfl) (pe_ix (ixK K rfl) (pe_ix (ixK K rfl) (pv 0) pe_int (fun _ _ => rfl)) (pe_op op_sub (pe_ix (ixK K rfl) (pv 0) pe_int (fun _ _ => rfl)) pe_int) (fun _ _ => rfl)))
      (pss_cons (ps_asg (pe_op op_mod (pe_callTy call_intA (by rfl) T.z_int (by decide +kernel) (pa_cons (pe_op op_add (pe_op op_add (pe_op op_mul (pe_ix (ixK K rfl) (pv 0) pe_int (fun _ _ => rfl)) pe_int) (pv 2)) pe_int) pa_nil)) pe_int) (pg_sub (pv 0) pe_int set_list))
      (pss_cons (ps_if (pt_cmpR op_ge (pv 2) (pe_op op_pow pe_int pe_int) (nomark _)) (pss_one (ps_asg (pe_op op_fdiv (pv 2) (pv 1)) (pg_sub (pv 0) pe_int set_list))) pss_nil)
      (pss_one (ps_ret (pe_op op_mod (pe_callTy call_intA (by rfl) T.z_int (by decide +kernel) (pa_cons (pv 2) pa_nil)) (pv 1)))))))))), ?_⟩
    have hdiv : CDiv 0 many ∧ True := ⟨⟨hm0, by omega⟩, trivial⟩
    refine q_when (d_test (d_I0 (d_lix (k := 3) hp rfl d_c rfl) d_c)) (fun hb H1 e1 => ?_) (fun hb H1 e1 => ?_)
    · have hp1 := e1 _ _ hp
      refine q_asgD (R := .int (mo % many)) (d_I (by exact hm0) (d_intI (d_lix (k := 3) hp1 rfl d_c rfl)) (d_varV rfl)) fun v H2 e2 rv => ?_
      obtain rfl : v = V.int (mo % many) := rv
      have hp2 := e2 _ _ hp1
      refine q_setW (k := 3) (v := .int (mo / many)) hp2 rfl (d_I ⟨hm0, by omega⟩ (d_lix (k := 3) hp2 rfl d_c rfl) (d_varV rfl)) (by simp) fun H3 e3 h3 => ?_
      refine s_retD (d_varV rfl) fun v H4 e4 rv => ?_
      obtain rfl := rv
      have E := ((ExB.ex (e1.trans e2)).trans e3).trans (ExB.ex e4)
      exact kq _ H4 (Int.emod_nonneg _ (by omega)) (Int.emod_lt_of_pos _ hm0) E ⟨sa, ns, i, st, mo / many, e4 _ _ h3, hs.mono E.fz, hi⟩
    · have hp1 := e1 _ _ hp
      refine q_setW (k := 1) (v := .int (i + 1)) hp1 rfl (d_I0 (g := fun i j => .int (i + j)) (d_lix (k := 1) hp1 rfl d_c rfl) d_c) (by simp) fun H2 e2 h2 => ?_
      have E2 := (ExB.ex e1).trans e2
      have hs2 := hs.mono E2.fz
      have hlen : EvD (tCB (rLenA K) (tCons (tOp (rIx K) (tVar 0) (tC (.int 0))) tNil)) (start N_law_taken [.ref p, .int many]) H2 (.int ((ns.length : Nat) : Int)) :=
        d_cb1 (d_lix (k := 0) h2 rfl d_c rfl) fun v H3 e3 rv Q q => by
          obtain rfl : v = V.ref sa := rv
          refine ⟨sa, ns.map V.int, rfl, .inl (hs2.mono (Fz.ex e3)).l, q _ H3 (Ex.refl _) ?_⟩
          show V.int _ = V.int _
          rw [List.length_map]
      refine q_when (d_test (d_I0 (d_lix (k := 1) h2 rfl d_c rfl) hlen)) (fun hb H3 e3 => ?_) (fun hb H3 e3 => ?_)
      · have h3 := e3 _ _ h2
        refine q_setW (k := 2) (v := .int ((st * 48271 + 11) % 2147483647)) h3 rfl (d_I (by decide) (d_intI (d_I0 (g := fun i j => .int (i + j)) (d_I (g := fun i j => .int (i * j)) (CMul_small (by decide) (by decide)) (d_lix (k := 2) h3 rfl d_c rfl) d_c) d_c)) d_c) (by simp) fun H4 e4 h4 => ?_
        refine s_retD (R := .int ((st * 48271 + 11) % 2147483647 / 7 % many)) (d_I (by exact hm0) (d_intI (d_I (g := fun i j => .int (i / j)) ⟨by decide, by decide⟩ (d_lix (k := 2) h4 rfl d_c rfl) d_c)) (d_varV rfl)) fun v H5 e5 rv => ?_
        obtain rfl : v = V.int _ := rv
        have E := ((E2.trans (ExB.ex e3)).trans e4).trans (ExB.ex e5)
        exact kq _ H5 (Int.emod_nonneg _ (by omega)) (Int.emod_lt_of_pos _ hm0) E ⟨sa, ns, i + 1, _, mo, e5 _ _ h4, hs.mono E.fz, by omega⟩
      · have h3 := e3 _ _ h2
        have hb' : ¬ ((ns.length : Nat) : Int) < i + 1 := of_decide_eq_false hb
        have hlt : i.toNat < ns.length := by omega
        have hcell : EvD (tOp (rIx K) (tOp (rIx K) (tVar 0) (tC (.int 0))) (tOp (rI0 fun i j => .int (i - j)) (tOp (rIx K) (tVar 0) (tC (.int 1))) (tC (.int 1)))) (start N_law_taken [.ref p, .int many]) H3 (.int (ns.getD i.toNat 0)) := fun H4 e4 Q q =>
          (d_lix (K := K) (k := 0) h3 (j := 0) rfl d_c rfl) H4 e4 _ fun v H5 e5 rv =>
            (d_is (d_I0 (g := fun i j => .int (i - j)) (d_lix (K := K) (k := 1) h3 (j := 0) rfl d_c rfl) d_c) (by show V.int (i + 1 - 1) = V.int ((i.toNat : Nat) : Int); rw [Int.add_sub_cancel, Int.toNat_of_nonneg hi])) H5 (e4.trans e5) _ fun u H6 e6 ru => by
              obtain rfl : v = V.ref sa := rv
              obtain rfl : u = V.int ((i.toNat : Nat) : Int) := ru
              refine .inl ⟨sa, ns.map V.int, _, .int (ns.getD i.toNat 0), rfl, rfl, (hs2.mono (Fz.ex (((e3.trans e4).trans e5).trans e6))).l, atI_nat (j := i.toNat) ?_, q _ H6 (e5.trans e6) rfl⟩
              rw [List.getElem?_map, getD_at hlt]
              rfl
        refine q_asgD hcell fun v H4 e4 rv => ?_
        obtain rfl : v = V.int _ := rv
        generalize ns.getD i.toNat 0 = cell
        have h4 := e4 _ _ h3
        refine q_setW (k := 2) (v := .int ((st * 48271 + cell + 11) % 2147483647)) h4 rfl (d_I (by decide) (d_intI (d_I0 (g := fun i j => .int (i + j)) (d_I0 (g := fun i j => .int (i + j)) (d_I (g := fun i j => .int (i * j)) (CMul_small (by decide) (by decide)) (d_lix (k := 2) h4 rfl d_c rfl) d_c) (d_varV rfl)) d_c)) d_c) (by simp) fun H5 e5 h5 => ?_
        have E5 := (E2.trans (ExB.ex (e3.trans e4))).trans e5
        refine q_when (d_test (d_I0 (d_varV rfl) (d_I (g := fun i j => .int (i ^ j.toNat)) (by refine ⟨?_, ?_, ?_⟩ <;> decide) d_c d_c))) (fun hb H6 e6 => ?_) (fun hb H6 e6 => ?_)
        · have h6 := e6 _ _ h5
          refine s_setW (k := 3) (v := .int (cell / many)) h6 rfl (d_I ⟨hm0, by omega⟩ (d_varV rfl) (d_varV rfl)) (by simp) fun H7 e7 h7 => ?_
          refine s_retD (R := .int (cell % many)) (d_I (g := fun i j => .int (i % j)) (by exact hm0) (d_intI (i := cell) (d_varV rfl)) (d_varV rfl)) fun v H8 e8 rv => ?_
          obtain rfl : v = V.int _ := rv
          have E := ((E5.trans (ExB.ex e6)).trans e7).trans (ExB.ex e8)
          exact kq _ H8 (Int.emod_nonneg _ (by omega)) (Int.emod_lt_of_pos _ hm0) E ⟨sa, ns, i + 1, _, _, e8 _ _ h7, hs.mono E.fz, by omega⟩
        · refine s_retD (R := .int (cell % many)) (d_I (g := fun i j => .int (i % j)) (by exact hm0) (d_intI (i := cell) (d_varV rfl)) (d_varV rfl)) fun v H8 e8 rv => ?_
          obtain rfl : v = V.int _ := rv
          have E := E5.trans (ExB.ex (e6.trans e8))
          exact kq _ H8 (Int.emod_nonneg _ (by omega)) (Int.emod_lt_of_pos _ hm0) E ⟨sa, ns, i + 1, _, _, e8 _ _ (e6 _ _ h5), hs.mono E.fz, by omega⟩
/-! what takes from the row -/
def EvR (K : PySem.W.Frag) (te : TE) (σ : L2.St) (H0 : Hp) (p : Addr) (G : Int → Prop) : Prop := ∀ H, Fz H0 H → RowAt K H p → ∀ Q : VK, (∀ t H', G t → ExB (fun x => x = p) H H' → RowAt K H' p → Q (.int t) H') → te σ H Q
section
variable {σ : L2.St} {H0 : Hp} {p : Addr} {ta tb : TE} {F G : Int → Prop} {j : Nat} {E : XK}
theorem r_taken (hσ : σ[j]? = some (some (.ref p))) {many : Int} (h : ∀ H, Fz H0 H → EvD ta σ H (.int many)) (h0 : 0 < many) (h1 : many < 1000) : EvR K (tCall (spT K) [] E (tCons (tVar j) (tCons ta tNil))) σ H0 p fun t => 0 ≤ t ∧ t < many := fun H f hr Q q =>
  ⟨_, hσ, (h H f).go fun v H1 e1 rv => ⟨p, many, by rw [show v = V.int many from rv]; rfl, hr.ext e1, h0, h1, fun t H2 a b e r => q t H2 ⟨a, b⟩ ((ExB.ex e1).trans e) r⟩⟩
theorem r_pick (hσ : σ[j]? = some (some (.ref p))) {ms : List Int} (h : ∀ H, Fz H0 H → EvD ta σ H (rowL ms)) (h0 : ms ≠ []) (h1 : ms.length < 1000) : EvR K (tCall (spPick K) [] E (tCons (tVar j) (tCons ta tNil))) σ H0 p fun t => t ∈ ms := fun H f hr Q q =>
  ⟨_, hσ, (h H f).go fun v H1 e1 rv => ⟨p, v, ms, rfl, hr.ext e1, rv, h0, h1, fun t H2 a e r => q t H2 a ((ExB.ex e1).trans e) r⟩⟩
theorem r_I0 {g : Int → Int → Int} (ha : EvR K ta σ H0 p F) (hb : EvR K tb σ H0 p G) : EvR K (tOp (rI0 fun i j => .int (g i j)) ta tb) σ H0 p fun t => ∃ a b, F a ∧ G b ∧ t = g a b := fun H f hr Q q =>
  ha H f hr _ fun a H1 fa e1 r1 => hb H1 (f.trans e1.fz) r1 _ fun b H2 gb e2 r2 => ⟨a, b, rfl, rfl, q _ H2 ⟨a, b, fa, gb, rfl⟩ (e1.trans e2) r2⟩
theorem r_I {C : Int → Int → Prop} {g : Int → Int → Int} (hc : ∀ a b, F a → G b → C a b) (ha : EvR K ta σ H0 p F) (hb : EvR K tb σ H0 p G) : EvR K (tOp (rI C fun i j => .int (g i j)) ta tb) σ H0 p fun t => ∃ a b, F a ∧ G b ∧ t = g a b := fun H f hr Q q =>
  ha H f hr _ fun a H1 fa e1 r1 => hb H1 (f.trans e1.fz) r1 _ fun b H2 gb e2 r2 => ⟨a, b, rfl, rfl, hc a b fa gb, q _ H2 ⟨a, b, fa, gb, rfl⟩ (e1.trans e2) r2⟩
theorem r_d {i : Int} (h : ∀ H, Fz H0 H → EvD ta σ H (.int i)) : EvR K ta σ H0 p fun t => t = i := fun H f hr Q q => (h H f).go fun v H1 e1 rv => by
  rw [show v = V.int i from rv]
  exact q i H1 rfl (.ex e1) (hr.ext e1)
theorem EvR.le (h : EvR K ta σ H0 p F) (l : ∀ t, F t → G t) : EvR K ta σ H0 p G := fun H f hr Q q => h H f hr Q fun t H1 a => q t H1 (l t a)
theorem EvR.go {H : Hp} (h : EvR K ta σ H p F) (hr : RowAt K H p) {Q : VK} (q : ∀ t H', F t → ExB (fun x => x = p) H H' → RowAt K H' p → Q (.int t) H') : ta σ H Q := h H (Fz.refl H) hr Q q
end
theorem ok_law_pick (T : Txt K mg A) : FnOk P w K mg base CX0 2 (A.a 22) (A.d 22) ["_law_row", "_law_things"] (spPick K) := by
  refine T.d_law_pick.F.ok sc22 (fun vs H Q E h => ?_) (fun cdv A outer s H vs Q E hr h => ?_)
  · obtain ⟨p, u, ms, rfl, _⟩ := h
    rfl
  · obtain ⟨p, u, ms, rfl, hrow, hu, hne, hl, kq⟩ := h
    refine ⟨_, (pss_one (ps_ret (pe_ix (ixK K rfl) (pv 1) (pe_call (ok_law_taken T) (hr.mono (by decide)) (by rfl) T.d_law_taken.g T.d_law_taken.F.kp T.d_law_taken.b .nil pass0 (pa_cons (pv 0) (pa_cons (pe_callB (lenK K rfl) (by rfl) T.z_len (by decide +kernel) (pa_cons (pv 1) pa_nil)) pa_nil))) (fun _ _ => rfl)))), ?_⟩
    obtain ⟨q, vs, rfl, b, c⟩ := id hu
    have hvs := all2_ints c
    subst hvs
    have hpos : 0 < ms.length := List.length_pos_iff.mpr hne
    refine ⟨_, rfl, ?_⟩
    refine (r_taken (K := K) (E := E0) (ta := tCB (rLenA K) (tCons (tVar 1) tNil)) (H0 := H) (p := p) (j := 0) (σ := start N_law_pick [.ref p, .ref q]) (many := (ms.length : Int)) rfl (fun H1 f => ?_) (by omega) (by omega)).go hrow fun t H1 ht e1 r1 => ?_
    · refine d_eqI (d_len (K := K) (Rs := ms.map Rp.int) (d_var rfl (Rp.lst_seq ((rowL ms).mono f hu)))) (by rw [List.length_map])
    · obtain ⟨h0, h1⟩ := ht
      have hlt : t.toNat < ms.length := by omega
      have et : t = ((t.toNat : Nat) : Int) := by omega
      refine .inl ⟨q, ms.map V.int, t, .int (ms.getD t.toNat 0), rfl, rfl, (fz_f e1.fz b).l, ?_, kq _ H1 ?_ e1 r1⟩
      · rw [et]
        refine atI_nat (j := t.toNat) ?_
        rw [List.getElem?_map, getD_at hlt]
        rfl
      · have : ms.getD t.toNat 0 = ms[t.toNat] := by simp [hlt]
        rw [this]
        exact List.getElem_mem hlt
end
end G
set_option maxRecDepth 100000
set_option maxHeartbeats 4000000
/-! W6: _law_web. -/
namespace G
open PySem PySem.Spec PyProof.Rows L2 Evl
section
variable {P : Program} {w : World} {K : PySem.W.Frag} {mg : Str → Option Value} {base : Heap} {A : Ad}
/-- a web of numbers of at most s -/
structure WebS (n : Nat) (s : Int) (w : Mx) : Prop where
  sq : Sq n w
  pos : 1 ≤ n
  bd : Bd s w
  anti : ∀ y z, y < n → z < n → at2 w y z = -(at2 w z y)
def Anti (n : Nat) (s : Int) (F : Nat → Nat → Int) : Prop := ∀ y z, y < n → z < n → F y z = -(F z y) ∧ -s ≤ F y z ∧ F y z ≤ s
theorem Anti.web {n : Nat} {s : Int} {F : Nat → Nat → Int} (h : Anti n s F) (hn : 1 ≤ n) : WebS n s (mOf n F) :=
  ⟨mOf_sq n F, hn, mOf_bd fun y z hy hz => (h y z hy hz).2, fun y z hy hz => by rw [mOf_at hy hz, mOf_at hz hy]; exact (h y z hy hz).1⟩
theorem Anti.set {n : Nat} {s : Int} {F : Nat → Nat → Int} (h : Anti n s F) {y z : Nat} (ne : y ≠ z) {t : Int} (h1 : -s ≤ t) (h2 : t ≤ s) : Anti n s (upd2 (upd2 F y z t) z y (0 - t)) := by
  intro a b ha hb
  have hab := h a b ha hb
  unfold upd2
  by_cases e1 : a = z ∧ b = y
  · have n1 : ¬ (b = z ∧ a = y) := by omega
    have n2 : b = y ∧ a = z := by omega
    rw [if_pos e1, if_neg n1, if_pos n2]
    omega
  · by_cases e2 : a = y ∧ b = z
    · have n1 : b = z ∧ a = y := by omega
      rw [if_neg e1, if_pos e2, if_pos n1]
      omega
    · have n1 : ¬ (b = z ∧ a = y) := by omega
      have n2 : ¬ (b = y ∧ a = z) := by omega
      rw [if_neg e1, if_neg e2, if_neg n1, if_neg n2]
      exact hab
def StW (K : PySem.W.Frag) (H0 : Hp) (p pt : Addr) (ps : List Addr) (n : Nat) (s : Int) (H : Hp) : Prop := H0 p ≠ none ∧ RowAt K H p ∧ ∃ F, TabW (fun x => x = p) H0 pt ps n F H ∧ Anti n s F
section
variable {H0 H H1 : Hp} {p pt : Addr} {ps : List Addr} {n : Nat} {s : Int} {σ : L2.St} {D : Ends}
theorem StW.step (h : StW K H0 p pt ps n s H) (e : ExB (fun x => x = p) H H1) (r : RowAt K H1 p) : StW K H0 p pt ps n s H1 :=
  let ⟨a, _, F, t, g⟩ := h
  ⟨a, r, F, t.step e, g⟩
theorem StW.ext (h : StW K H0 p pt ps n s H) (e : Ex H H1) : StW K H0 p pt ps n s H1 := h.step (.ex e) (h.2.1.ext e)
theorem StW.fz (h : StW K H0 p pt ps n s H) : Fz H0 H := let ⟨_, _, _, t, _⟩ := h; t.ex.fz
theorem s_cell {y z : Nat} {t : Int} {m : Nat} (hm : m = 2) (h : StW K H0 p pt ps n s H) (h3 : σ[3]? = some (some (.ref pt))) (h7 : σ[7]? = some (some (.int (y : Int)))) (h4 : σ[4]? = some (some (.int (z : Int)))) (h9 : σ[9]? = some (some (.int t)))
    (hy : y < n) (hz : z < n) (ne : y ≠ z) (h1 : -s ≤ t) (h2 : t ≤ s) (k : ∀ H1, StW K H0 p pt ps n s H1 → Fz H H1 → D.nx σ H1) :
    tAsg (tTup (tCons (tVar 9) (tCons (tOp (rI0 fun i j => .int (i - j)) (tC (.int 0)) (tVar 9)) tNil))) (gTup K m (gCons (gSub (tOp (rIx K) (tVar 3) (tVar 7)) (tVar 4) rSetL) (gCons (gSub (tOp (rIx K) (tVar 3) (tVar 4)) (tVar 7) rSetL) gNil))) D σ H := by
  obtain ⟨hp, hr, F, tw, ga⟩ := h
  refine tw.s2 h3 h7 h4 hy hz hm (d_varV h9) (d_I0 (g := fun i j => .int (i - j)) d_c (d_varV h9)) fun H1 e1 t1 => k H1 ⟨hp, hr.step e1 fun hm => ?_, _, t1, ga.set ne h1 h2⟩ e1.fz
  exact hp (tw.q0 p hm).1
theorem s_asgR {te : TE} {G : Int → Prop} {i : Nat} (h : EvR K te σ H p G) (hr : RowAt K H p) (k : ∀ t H', G t → ExB (fun x => x = p) H H' → RowAt K H' p → D.nx (σ.set i (some (.int t))) H') : tAsg te (gName i) D σ H :=
  h.go hr k
theorem q_pairR {ta tb : TE} {F G : Int → Prop} {i j m : Nat} {tz : TS} (hm : m = 2) (ha : EvR K ta σ H p F) (hb : EvR K tb σ H p G) (hr : RowAt K H p) (k : ∀ t u H', F t → G u → ExB (fun x => x = p) H H' → RowAt K H' p → tz D ((σ.set i (some (.int t))).set j (some (.int u))) H') :
    tSeq (tAsg (tTup (tCons ta (tCons tb tNil))) (gTup K m (gCons (gName i) (gCons (gName j) gNil)))) tz D σ H := by
  subst hm
  exact ha.go hr fun t H1 ft e1 r1 => hb H1 e1.fz r1 _ fun u H2 gu e2 r2 => ⟨sz_of (by show 2 ≤ 100000; decide), fun q hq => ⟨q, _, rfl, SqT.of upd_same, rfl, _, _, rfl, _, _, rfl, rfl,
    k t u _ ft gu ((e1.trans e2).trans (.ex (Ex.new hq))) (r2.ext (Ex.new hq))⟩⟩
theorem q_parR {ta tb : TE} {F G : Int → Prop} {i j : Nat} {tz : TS} (ha : EvR K ta σ H p F) (hb : EvR K tb σ H p G) (hr : RowAt K H p) (k : ∀ t u H', F t → G u → ExB (fun x => x = p) H H' → RowAt K H' p → tz D ((σ.set i (some (.int t))).set j (some (.int u))) H') :
    tSeq (tPar i j (tCons ta (tCons tb tNil))) tz D σ H :=
  ha.go hr fun t H1 ft e1 r1 => hb H1 e1.fz r1 _ fun u H2 gu e2 r2 => ⟨_, _, rfl, k t u _ ft gu (e1.trans e2) r2⟩
theorem i_rngZ {tr : TA} {n : Nat} (h : EvDA tr σ H [.int 1, .int (n : Int)]) (hn : n ≤ 1000) : EvI (iRng2 tr) σ H (n - 1) (fun i => .int ((i + 1 : Nat) : Int)) := by
  have q := i_rng2 h (by omega) (by omega) (by omega) (by omega)
  have e1 : ((n : Int) - 1).toNat = n - 1 := by omega
  have e2 : (fun i : Nat => Rp.int (1 + (i : Int))) = fun i => .int ((i + 1 : Nat) : Int) := by
    funext i
    congr 1
    congr 1
    omega
  rw [e1, e2] at q
  exact q
theorem TabW.rebase {F : Nat → Nat → Int} (t : TabW (fun _ => False) H0 pt ps n F H) (hp : H0 p ≠ none) : TabW (fun x => x = p) H0 pt ps n F H :=
  ⟨t.ex.mono fun _ h => h.elim, t.pt0, fun h => hp (h ▸ t.pt0), fun q hq => ⟨(t.q0 q hq).1, fun h => hp (h ▸ (t.q0 q hq).1), (t.q0 q hq).2.2⟩, t.nd, t.len, t.at_, t.row⟩
theorem q_whenG {b : Bool} {t : TT} {tu tz : TS} (h : EvT t σ H b) (h1 : b = true → ∀ H1, Ex H H1 → tu { D with nx := fun σ' H' => Gh H' (tz D σ') } σ H1) (h2 : b = false → ∀ H1, Ex H H1 → Gh H1 (tz D σ)) : tSeq (tGhS (tIfS t tu tNext)) tz D σ H :=
  s_if (D := { D with nx := fun σ' H' => Gh H' (tz D σ') }) h h1 h2
theorem q_tabR {wi : TI} {te : TE} {tt : TT} {E : Nat → Rp} {vs : List Nat} {i j : Nat} {tz : TS} (hI : EvI wi σ H n E) (F : Nat → Nat → Int) (hn : n ≤ 1000000) (hw : ∀ x, wipe ((wipe σ vs).set j (some x)) vs = wipe σ vs) (ht : ∀ σ H, EvT tt σ H true)
    (he : ∀ (i : Nat) (x : V) H1, Ex H H1 → i < n → (E i).is x H1 → ∀ Q : VK, (∀ q H2, Ex H1 H2 → H1 q = none → H2 q = some (.lst (rowV n (F i))) → Q (.ref q) H2) → te ((wipe σ vs).set j (some x)) H1 Q)
    (k : ∀ pt ps H', TabW (fun _ => False) H pt ps n F H' → tz D (σ.set i (some (.ref pt))) H') : tSeq (tGhS (tAsg (tLc wi (gName j) tt te vs) (gName i))) tz D σ H :=
  n_lcR (Q := fun x H1 => Gh H1 (tz D (σ.set i (some x)))) hI F hn hw ht he fun pt ps H' t => Gh.done (k pt ps H' t)
/-- tuple([tuple(l) for l in t]) -/
theorem d_frozenC {i j : Nat} {vs : List Nat} {tt : TT} {m : Mx} {v : V} (hl : m.length ≤ 1000) (hσ : σ[i]? = some (some v)) (hv : (matS K m).is v H) (hw : ∀ x, wipe ((wipe σ vs).set j (some x)) vs = wipe σ vs) (hj : ∀ x, ((wipe σ vs).set j (some x))[j]? = some (some x)) (ht : ∀ σ H, EvT tt σ H true) :
    EvD (tCB (rTupA K) (tCons (tFr (tLc (iSeq K (tVar i)) (gName j) tt (tCB (rTupA K) (tCons (tVar j) tNil)) vs)) tNil)) σ H (matT K m) := by
  refine d_tupL ?_
  rw [← map_range_getD [] (rowT K) m]
  exact d_lcA (i_map (P := rowS K) [] (d_var hσ hv)) _ (by omega) hw (fun i x H2 e2 hi hx => d_tupS (d_var (hj x) hx)) ht
end
def spWeb (K : PySem.W.Frag) : Sp := fun vs H Q _ => ∃ (p : Addr) (most s : Int), vs = [.ref p, .int most, .int s] ∧ RowAt K H p ∧ 1 ≤ most ∧ most ≤ 6 ∧ 1 ≤ s ∧ s ≤ 2 ∧
  ∀ v (n : Nat) w H', (n : Int) ≤ most → WebS n s w → ExB (fun x => x = p) H H' → RowAt K H' p → (matT K w).is v H' → Q v H'
theorem pn_mul {a b s : Int} (ha : a = 0 ∨ a = 1 ∨ a = -1) (h1 : 1 ≤ b) (h2 : b ≤ s) : -s ≤ a * b ∧ a * b ≤ s := by
  rcases ha with rfl | rfl | rfl <;> omega
theorem b2_01 (b : Bool) : b2 b = 0 ∨ b2 b = 1 := by cases b <;> decide
theorem ok_law_web (T : Txt K mg A) : FnOk P w K mg base CX0 3 (A.a 24) (A.d 24) ["_law_row", "_law_most", "_law_strong"] (spWeb K) := by
  refine T.d_law_web.F.ok sc24 (fun vs H Q E h => ?_) (fun cdv A outer s H vs Q E hr h => ?_)
  · obtain ⟨p, most, s, rfl, _⟩ := h
    rfl
  · obtain ⟨p, most, st, rfl, hrow, hm1, hm2, hs1, hs2, kq⟩ := h
    refine ⟨_, (pss_cons (ps_asg (pe_tup (pa_cons (pe_op op_add pe_int (pe_call (ok_law_taken T) (hr.mono (by decide)) (by rfl) T.d_law_taken.g T.d_law_taken.F.kp T.d_law_taken.b .nil pass0 (pa_cons (pv 0) (pa_cons (pv 1) pa_nil)))) (pa_cons (pe_call (ok_law_taken T) (hr.mono (by decide)) (by rfl) T.d_law_taken.g T.d_law_taken.F.kp T.d_law_taken.b .nil pass0 (pa_cons (pv 0) (pa_cons pe_int pa_nil))) pa_nil))) (pg_tup rfl (pgs_cons (pg_name (i := 5) sc24.nd rfl (Or.inr rfl)) (pgs_cons (pg_name (i := 6) sc24.nd rfl (Or.inl rfl)) pgs_nil))))
      (pss_cons (ps_gh (ps_setLc (i := 3) (own := [("_law_x", 8)]) (g := gName 8) rfl sc24.nd rfl rfl (sw_true rfl rfl rfl (by decide +kernel)) (pi_range1 (by rfl) T.z_range (pa_cons (pv 5) pa_nil)) (blkOk_by (N := N_law_web) (sc := defScope s_law_web) (by decide +kernel)) (fun _ _ _ _ _ => pg_name (i := 8) sc24.nd rfl (Or.inl rfl)) (fun _ _ _ _ _ => pts_nil) (fun _ _ _ _ _ => (pe_op op_rep (pe_lst (pa_cons pe_int pa_nil)) (pv 5)))))
      (pss_cons (ps_for PassesOwn.never rfl (pi_range2 (by rfl) T.z_range (pa_cons pe_int (pa_cons (pv 5) pa_nil))) (pg_name (i := 4) sc24.nd rfl (Or.inl rfl)) (pss_one (ps_for PassesOwn.never rfl (pi_range1 (by rfl) T.z_range (pa_cons (pv 4) pa_nil)) (pg_name (i := 7) sc24.nd rfl (Or.inl rfl)) (pss_cons (ps_set (i := 9) sc24.nd rfl (Or.inl rfl) pe_int)
      (pss_cons (ps_if (pt_cmpR op_lt (pv 6) pe_int (nomark _)) (pss_one (ps_set (i := 9) sc24.nd rfl (Or.inl rfl) (pe_op op_mul (pe_call (ok_law_pick T) (hr.mono (by decide)) (by rfl) T.d_law_pick.g T.d_law_pick.F.kp T.d_law_pick.b .nil pass0 (pa_cons (pv 0) (pa_cons (pe_fr (pe_lst (pa_cons pe_int (pa_cons pe_int (pa_cons pe_int (pa_cons (pe_op op_sub pe_int pe_int) pa_nil)))))) pa_nil))) (pe_op op_add pe_int (pe_call (ok_law_taken T) (hr.mono (by decide)) (by rfl) T.d_law_taken.g T.d_law_taken.F.kp T.d_law_taken.b .nil pass0 (pa_cons (pv 0) (pa_cons (pv 2) pa_nil))))))) (pss_one (ps_if (pt_cmpR op_eq (pv 6) pe_int (nomark _)) (pss_one (ps_set (i := 9) sc24.nd rfl (Or.inl rfl) (pe_op op_mul (pe_call (ok_law_pick T) (hr.mono (by decide)) (by rfl) T.d_law_pick.g T.d_law_pick.F.kp T.d_law_pick.b .nil pass0 (pa_cons (pv 0) (pa_cons (pe_fr (pe_lst (pa_cons pe_int (pa_cons (pe_op op_sub pe_int pe_int) pa_nil)))) pa_nil))) (pe_callTy call_intA (by rfl) T.z_int (by decide +kernel) (pa_cons (pe_cmpR op_eq (pv 7) (pe_op op_sub (pv 4) pe_int) (nomark _)) pa_nil))))) (pss_one (ps_if (pt_cmpR op_eq (pv 6) pe_int (nomark _)) (pss_one (ps_set (i := 9) sc24.nd rfl (Or.inl rfl) (pe_op op_sub (pe_callTy call_intA (by rfl) T.z_int (by decide +kernel) (pa_cons (pe_cmpR op_eq (pv 7) (pe_op op_sub (pv 4) pe_int) (nomark _)) pa_nil)) (pe_callTy call_intA (by rfl) T.z_int (by decide +kernel) (pa_cons (pe_and (pe_cmpR op_eq (pv 7) pe_int (nomark _)) (pe_and (pe_cmpR op_eq (pv 4) (pe_op op_sub (pv 5) pe_int) (nomark _)) (pe_one (pe_cmpR op_gt (pv 5) pe_int (nomark _))))) pa_nil))))) pss_nil)))))
      (pss_one (ps_asg (pe_tup (pa_cons (pv 9) (pa_cons (pe_op op_sub pe_int (pv 9)) pa_nil))) (pg_tup rfl (pgs_cons (pg_sub (pe_ix (ixK K rfl) (pv 3) (pv 7) (fun _ _ => rfl)) (pv 4) set_list) (pgs_cons (pg_sub (pe_ix (ixK K rfl) (pv 3) (pv 4) (fun _ _ => rfl)) (pv 7) set_list) pgs_nil))))))))))
      (pss_cons (ps_gh (ps_if (pt_cmpR op_eq (pv 6) pe_int (nomark _)) (pss_one (ps_for PassesOwn.never rfl (pi_range2 (by rfl) T.z_range (pa_cons pe_int (pa_cons (pv 5) pa_nil))) (pg_name (i := 4) sc24.nd rfl (Or.inl rfl)) (pss_cons (ps_par (i := 7) (j := 9) rfl sc24.nd rfl rfl (by decide) rfl rfl (pa_cons (pe_call (ok_law_taken T) (hr.mono (by decide)) (by rfl) T.d_law_taken.g T.d_law_taken.F.kp T.d_law_taken.b .nil pass0 (pa_cons (pv 0) (pa_cons (pv 4) pa_nil))) (pa_cons (pe_call (ok_law_pick T) (hr.mono (by decide)) (by rfl) T.d_law_pick.g T.d_law_pick.F.kp T.d_law_pick.b .nil pass0 (pa_cons (pv 0) (pa_cons (pe_fr (pe_lst (pa_cons pe_int (pa_cons (pe_op op_sub pe_int pe_int) pa_nil)))) pa_nil))) pa_nil)) (by rfl))
      (pss_one (ps_asg (pe_tup (pa_cons (pv 9) (pa_cons (pe_op op_sub pe_int (pv 9)) pa_nil))) (pg_tup rfl (pgs_cons (pg_sub (pe_ix (ixK K rfl) (pv 3) (pv 7) (fun _ _ => rfl)) (pv 4) set_list) (pgs_cons (pg_sub (pe_ix (ixK K rfl) (pv 3) (pv 4) (fun _ _ => rfl)) (pv 7) set_list) pgs_nil)))))))) pss_nil))
      (pss_one (ps_ret (pe_callTy (tupK K rfl) (by rfl) T.z_tuple (by decide +kernel) (pa_cons (pe_fr (pe_lc (own := [("_law_line", 10)]) (g := gName 10) rfl sc24.nd (piK K rfl (pv 3)) (blkOk_by (N := N_law_web) (sc := defScope s_law_web) (by decide +kernel)) (fun _ _ _ _ _ => pg_name (i := 10) sc24.nd rfl (Or.inl rfl)) (fun _ _ _ _ _ => pts_nil) (fun _ _ _ _ _ => (pe_callTy (tupK K rfl) (by rfl) T.z_tuple (by decide +kernel) (pa_cons (pv 10) pa_nil))))) pa_nil)))))))), ?_⟩
    refine q_pairR rfl (r_I0 (g := fun i j => i + j) (r_d fun H1 f => d_c) (r_taken (E := E0) rfl (fun H1 f => d_varV rfl) (by omega) (by omega))) (r_taken (E := E0) rfl (fun H1 f => d_c) (by omega) (by omega)) hrow fun nI way H1 hn hway E1 r1 => ?_
    obtain ⟨a, b, rfl, ⟨hb0, hb1⟩, rfl⟩ := hn
    obtain ⟨n, hnn⟩ : ∃ n : Nat, (1 : Int) + b = (n : Int) := ⟨(1 + b).toNat, by omega⟩
    show tSeq _ _ _ ((((start N_law_web [.ref p, .int most, .int st]).set 5 (some (.int (1 + b)))).set 6 (some (.int way)))) H1
    rw [hnn]
    have hn1 : 1 ≤ n := by omega
    have hn6 : n ≤ 6 := by omega
    have hp1 : H1 p ≠ none := fun h => by
      obtain ⟨_, _, _, _, _, h2, _⟩ := r1
      rw [h] at h2
      cases h2
    refine q_tabR (F := fun _ _ => 0) (n := n) (i_rng1 (k := (n : Int)) (d_cons (d_varV rfl) d_nil) (by omega) (by omega)) (by omega) (fun x => rfl) (fun _ _ => t_yes) (fun i x H2 e2 hi hx Q q => ?_) fun pt ps H2 t2 => ?_
    · refine ⟨by show 1 ≤ sizeLine; decide, fun l hl => ⟨_, rfl, l, (n : Int), [.int 0], rfl, rfl, upd_same, by omega, by omega, ?_, fun l2 hl2 => ?_⟩⟩
      · show 1 * n ≤ sizeLine
        have : sizeLine ≥ 100 := by decide
        omega
      · have hl2' : H2 l2 = none := fresh_back (Ex.new hl) hl2
        refine q l2 _ ((Ex.new hl).trans (Ex.new hl2)) hl2' ?_
        rw [upd_same]
        congr 2
        have : ∀ k : Nat, (List.replicate k [V.int 0]).flatten = rowV k fun _ => 0 := by
          intro k
          refine List.ext_getElem (by simp [rowV]) fun a h1 h2 => ?_
          simp [rowV]
        exact this n
    have S2 : StW K H1 p pt ps n st H2 := ⟨hp1, r1.step t2.ex (fun h => h), _, t2.rebase hp1, fun y z _ _ => ⟨rfl, by omega, by omega⟩⟩
    have hlst : ∀ (H' : Hp) (σ' : L2.St), EvD (tFr (tLst (tCons (tC (.int 1)) (tCons (tOp (rI0 fun i j => .int (i - j)) (tC (.int 0)) (tC (.int 1))) tNil)))) σ' H' (rowL [1, -1]) := fun H' σ' =>
      d_lst (d_cons (R := .int 1) d_c (d_cons (R := .int (-1)) (d_I0 (g := fun i j => .int (i - j)) d_c d_c) d_nil)) (by show 2 ≤ 100000; decide)
    have hlst4 : ∀ (H' : Hp) (σ' : L2.St), EvD (tFr (tLst (tCons (tC (.int 0)) (tCons (tC (.int 0)) (tCons (tC (.int 1)) (tCons (tOp (rI0 fun i j => .int (i - j)) (tC (.int 0)) (tC (.int 1))) tNil)))))) σ' H' (rowL [0, 0, 1, -1]) := fun H' σ' =>
      d_lst (d_cons (R := .int 0) d_c (d_cons (R := .int 0) d_c (d_cons (R := .int 1) d_c (d_cons (R := .int (-1)) (d_I0 (g := fun i j => .int (i - j)) d_c d_c) d_nil)))) (by show 4 ≤ 100000; decide)
    refine q_forD (n := n - 1) (E := fun i => .int ((i + 1 : Nat) : Int)) (i_rngZ (d_cons d_c (d_cons (d_varV rfl) d_nil)) (by omega)) fun H3 e3 => ⟨fun i σ' H' => ∃ s4 s7 s8 s9 s10, σ' = [some (.ref p), some (.int most), some (.int st), some (.ref pt), s4, some (.int (n : Int)), some (.int way), s7, s8, s9, s10] ∧ Fz H3 H' ∧ StW K H1 p pt ps n st H',
      ⟨_, _, _, _, _, rfl, Fz.refl _, S2.ext e3⟩, fun i σ' H' ⟨_, _, _, _, _, _, f, _⟩ => f, ?_, ?_⟩
    · rintro i x σ' H4 H5 hi ⟨s4, s7, s8, s9, s10, rfl, f3, S4⟩ e5 rx
      obtain rfl : x = V.int ((i + 1 : Nat) : Int) := rx
      show tFor _ _ _ _ _ _
      refine s_forD (n := i + 1) (E := fun j => .int (j : Int)) (i_rng1 (k := ((i + 1 : Nat) : Int)) (d_cons (d_varV rfl) d_nil) (by omega) (by omega)) fun H6 e6 => ⟨fun l σ' H' => ∃ s7 s8 s9 s10, σ' = [some (.ref p), some (.int most), some (.int st), some (.ref pt), some (.int ((i + 1 : Nat) : Int)), some (.int (n : Int)), some (.int way), s7, s8, s9, s10] ∧ Fz H3 H' ∧ Fz H6 H' ∧ StW K H1 p pt ps n st H',
        ⟨_, _, _, _, rfl, (f3.trans (Fz.ex e5)).trans (Fz.ex e6), Fz.refl _, (S4.ext e5).ext e6⟩, fun i σ' H' ⟨_, _, _, _, _, _, f, _⟩ => f, ?_, ?_⟩
      · rintro l y σ' H7 H8 hl ⟨s7, s8, s9, s10, rfl, g3, g6, S7⟩ e8 ry
        obtain rfl : y = V.int (l : Int) := ry
        have S8 := S7.ext e8
        refine q_asgD (R := .int 0) d_c fun v H9 e9 rv => ?_
        obtain rfl : v = V.int 0 := rv
        have S9 := S8.ext e9
        have G3 := (g3.trans (Fz.ex e8)).trans (Fz.ex e9)
        have G6 := (g6.trans (Fz.ex e8)).trans (Fz.ex e9)
        refine q_ifD (d_test (d_I0 (d_varV rfl) d_c)) (fun hb H10 e10 => ?_) (fun hb H10 e10 => ?_)
        · have S10 := S9.ext e10
          refine s_asgR (p := p) (r_I (g := fun i j => i * j) (fun a b ha hb => ?_) (r_pick (E := E0) rfl (fun H f => hlst4 _ _) (by simp) (by simp)) (r_I0 (g := fun i j => i + j) (r_d fun H f => d_c) (r_taken (E := E0) rfl (fun H f => d_varV rfl) (by omega) (by omega)))) S10.2.1 fun t H11 ht e11 r11 => ?_
          · refine CMul_small ?_ ?_
            · obtain ⟨c, d, rfl, ⟨h1, h2⟩, rfl⟩ := hb
              omega
            · obtain ⟨c, d, rfl, ⟨h1, h2⟩, rfl⟩ := hb
              omega
          obtain ⟨a, b, ha, ⟨c, d, rfl, ⟨h1, h2⟩, rfl⟩, rfl⟩ := ht
          obtain ⟨q1, q2⟩ := pn_mul (a := a) (b := 1 + d) (s := st) (by simpa [or_assoc] using ha) (by omega) (by omega)
          exact s_cell rfl (S10.step e11 r11) rfl rfl rfl rfl (by omega) (by omega) (by omega) q1 q2 fun H12 S12 f12 => ⟨_, _, _, _, rfl, ((G3.trans (Fz.ex e10)).trans e11.fz).trans f12, ((G6.trans (Fz.ex e10)).trans e11.fz).trans f12, S12⟩
        · have S10 := S9.ext e10
          refine s_ifD (d_test (d_eq (by rfl) (d_varV rfl) d_c)) (fun hb H11 e11 => ?_) (fun hb H11 e11 => ?_)
          · have S11 := S10.ext e11
            refine s_asgR (p := p) (r_I (g := fun i j => i * j) (fun a b ha hb => ?_) (r_pick (E := E0) rfl (fun H f => hlst _ _) (by simp) (by simp)) (r_d (i := b2 (decide ((V.int (l : Int)) = V.int (((i + 1 : Nat) : Int) - 1)))) fun H f => d_intB (d_eq (by rfl) (d_varV rfl) (d_I0 (g := fun i j => .int (i - j)) (d_varV rfl) d_c)))) S11.2.1 fun t H12 ht e12 r12 => ?_
            · have := b2_01 (decide ((V.int (l : Int)) = V.int (((i + 1 : Nat) : Int) - 1)))
              exact CMul_small (by omega) (by omega)
            obtain ⟨a, b, ha, rfl, rfl⟩ := ht
            have ha' : a = 1 ∨ a = -1 := by simpa using ha
            have hb2 := b2_01 (decide ((V.int (l : Int)) = V.int (((i + 1 : Nat) : Int) - 1)))
            generalize b2 (decide ((V.int (l : Int)) = V.int (((i + 1 : Nat) : Int) - 1))) = bb at hb2 r12 e12 ⊢
            have hq : -st ≤ a * bb ∧ a * bb ≤ st := by
              rcases ha' with rfl | rfl <;> rcases hb2 with rfl | rfl <;> omega
            exact s_cell rfl (S11.step e12 r12) rfl rfl rfl rfl (by omega) (by omega) (by omega) hq.1 hq.2 fun H13 S13 f13 => ⟨_, _, _, _, rfl, ((G3.trans (Fz.ex (e10.trans e11))).trans e12.fz).trans f13, ((G6.trans (Fz.ex (e10.trans e11))).trans e12.fz).trans f13, S13⟩
          · have S11 := S10.ext e11
            refine s_when (d_test (d_eq (by rfl) (d_varV rfl) d_c)) (fun hb H12 e12 => ?_) (fun hb H12 e12 => ?_)
            · have S12 := S11.ext e12
              have b1 := b2_01 (decide ((V.int (l : Int)) = V.int (((i + 1 : Nat) : Int) - 1)))
              have b3 := b2_01 (decide ((V.int (l : Int)) = V.int 0) && (decide ((V.int ((i + 1 : Nat) : Int)) = V.int ((n : Int) - 1)) && decide (2 < (n : Int))))
              refine q_asgD (R := .int (b2 (decide ((V.int (l : Int)) = V.int (((i + 1 : Nat) : Int) - 1))) - b2 (decide ((V.int (l : Int)) = V.int 0) && (decide ((V.int ((i + 1 : Nat) : Int)) = V.int ((n : Int) - 1)) && decide (2 < (n : Int))))))
                (d_I0 (g := fun i j => .int (i - j)) (d_intB (d_eq (by rfl) (d_varV rfl) (d_I0 (g := fun i j => .int (i - j)) (d_varV rfl) d_c))) (d_intB (d_andV (d_eq (by rfl) (d_varV rfl) d_c) fun _ => d_andV (d_eq (by rfl) (d_varV rfl) (d_I0 (g := fun i j => .int (i - j)) (d_varV rfl) d_c)) fun _ => d_I0 (g := fun i j => .bl (decide (j < i))) (d_varV rfl) d_c))) fun v H13 e13 rv => ?_
              obtain rfl : v = V.int _ := rv
              generalize b2 (decide ((V.int (l : Int)) = V.int (((i + 1 : Nat) : Int) - 1))) = x1 at b1
              generalize b2 (decide ((V.int (l : Int)) = V.int 0) && (decide ((V.int ((i + 1 : Nat) : Int)) = V.int ((n : Int) - 1)) && decide (2 < (n : Int)))) = x2 at b3
              exact s_cell rfl (S12.ext e13) rfl rfl rfl rfl (by omega) (by omega) (by omega) (by omega) (by omega) fun H14 S14 f14 => ⟨_, _, _, _, rfl, (G3.trans (Fz.ex (((e10.trans e11).trans e12).trans e13))).trans f14, (G6.trans (Fz.ex (((e10.trans e11).trans e12).trans e13))).trans f14, S14⟩
            · exact s_cell rfl (S11.ext e12) rfl rfl rfl rfl (by omega) (by omega) (by omega) (by omega) (by omega) fun H13 S13 f13 => ⟨_, _, _, _, rfl, (G3.trans (Fz.ex ((e10.trans e11).trans e12))).trans f13, (G6.trans (Fz.ex ((e10.trans e11).trans e12))).trans f13, S13⟩
      · rintro σ' H7 ⟨s7, s8, s9, s10, rfl, g3, g6, S7⟩
        exact ⟨_, _, _, _, _, rfl, g3, S7⟩
    · rintro σ' H4 ⟨s4, s7, s8, s9, s10, rfl, f3, S4⟩
      have fin : ∀ {σ' H5} {D : Ends}, D.rt = Q → (∃ s4 s7 s8 s9 s10, σ' = [some (.ref p), some (.int most), some (.int st), some (.ref pt), s4, some (.int (n : Int)), some (.int way), s7, s8, s9, s10]) → StW K H1 p pt ps n st H5 →
          Gh H5 (tRet (tCB (rTupA K) (tCons (tFr (tLc (iSeq K (tVar 3)) (gName 10) (fun _ H Q => Q true H) (tCB (rTupA K) (tCons (tVar 10) tNil)) [10])) tNil)) D σ') := by
        rintro σ' H5 D hD ⟨s4, s7, s8, s9, s10, rfl⟩ ⟨_, r5, F, t5, g5⟩
        refine t5.fr.bind fun H6 ⟨E6, E56, hm⟩ => .done ?_
        have np : ¬ (p = pt ∨ p ∈ ps) := fun h => by
          rcases h with h | h
          · exact t5.ptB h.symm
          · exact (t5.q0 p h).2.1 rfl
        refine s_retD (d_frozenC (m := mOf n F) (by rw [(mOf_sq n F).len]; omega) rfl (matL_S _ _ _ hm) (fun x => rfl) (fun x => rfl) fun _ _ => t_yes) fun v H7 e7 r7 => ?_
        rw [hD]
        exact kq v n (mOf n F) H7 (by omega) (g5.web hn1) ((E1.trans E6).trans (.ex e7)) ((r5.step E56 np).ext e7) r7
      refine q_whenG (d_test (d_eq (by rfl) (d_varV rfl) d_c)) (fun hb H5 e5 => ?_) (fun hb H5 e5 => fin rfl ⟨_, _, _, _, _, rfl⟩ (S4.ext e5))
      refine s_forD (n := n - 1) (E := fun i => .int ((i + 1 : Nat) : Int)) (i_rngZ (d_cons d_c (d_cons (d_varV rfl) d_nil)) (by omega)) fun H6 e6 => ⟨fun i σ' H' => ∃ s4 s7 s8 s9 s10, σ' = [some (.ref p), some (.int most), some (.int st), some (.ref pt), s4, some (.int (n : Int)), some (.int way), s7, s8, s9, s10] ∧ Fz H6 H' ∧ StW K H1 p pt ps n st H',
        ⟨_, _, _, _, _, rfl, Fz.refl _, (S4.ext e5).ext e6⟩, fun i σ' H' ⟨_, _, _, _, _, _, f, _⟩ => f, ?_, fun σ' H' ⟨s4, s7, s8, s9, s10, e, _, S⟩ => fin rfl ⟨_, _, _, _, _, e⟩ S⟩
      rintro i x σ' H7 H8 hi ⟨s4, s7, s8, s9, s10, rfl, f6, S7⟩ e8 rx
      obtain rfl : x = V.int ((i + 1 : Nat) : Int) := rx
      have S8 := S7.ext e8
      refine q_parR (p := p) (r_taken (E := E0) rfl (fun H f => d_varV rfl) (by omega) (by omega)) (r_pick (E := E0) rfl (fun H f => hlst _ _) (by simp) (by simp)) S8.2.1 fun t u H9 ht hu e9 r9 => ?_
      obtain ⟨l, rfl⟩ : ∃ l : Nat, t = (l : Int) := ⟨t.toNat, by omega⟩
      have hu' : u = 1 ∨ u = -1 := by simpa using hu
      exact s_cell rfl (S8.step e9 r9) rfl rfl rfl rfl (by omega) (by omega) (by omega) (by omega) (by omega) fun H10 S10 f10 => ⟨_, _, _, _, _, rfl, ((f6.trans (Fz.ex e8)).trans e9.fz).trans f10, S10⟩
end
end G
set_option maxRecDepth 100000
set_option maxHeartbeats 4000000
/-! W7: _law_turn, _law_frame_turn, _law_column, _law_greens. -/
namespace G
open PySem PySem.Spec PyProof.Rows L2 Evl
/-! the law's turn, in plain Lean -/
def both (m : Mx) (x y z : Nat) : Int := if 0 < at2 m y x ∧ 0 < at2 m x z then at2 m y x * at2 m x z else 0
def turnG (m : Mx) (x y0 z0 a b : Nat) : Int := at2 m a b + (if a < y0 ∨ (a = y0 ∧ b < z0) then both m x a b else 0) - (if b < y0 ∨ (b = y0 ∧ a < z0) then both m x b a else 0)
def turnL (m : Mx) (x n y0 a b : Nat) : Int := if (a = x ∧ b < y0) ∨ (b = x ∧ a < y0) then 0 - at2 m a b else turnG m x n 0 a b
theorem addedBy_eq (l r : Int) : addedBy l r = (if 0 < l ∧ 0 < r then l * r else 0) - (if l < 0 ∧ r < 0 then l * r else 0) := by
  unfold addedBy iabs
  by_cases h1 : l < 0
  · rw [if_pos h1]
    have n1 : ¬ (0 < l ∧ 0 < r) := by omega
    rw [if_neg n1]
    by_cases h2 : r < 0
    · rw [if_pos h2, if_pos ⟨h1, h2⟩, Int.neg_mul, Int.mul_neg]
      omega
    · have n2 : ¬ (l < 0 ∧ r < 0) := by omega
      rw [if_neg h2, if_neg n2, Int.neg_mul]
      omega
  · rw [if_neg h1]
    have n2 : ¬ (l < 0 ∧ r < 0) := by omega
    rw [if_neg n2]
    by_cases h2 : r < 0
    · have n1 : ¬ (0 < l ∧ 0 < r) := by omega
      rw [if_pos h2, if_neg n1, Int.mul_neg]
      omega
    · rw [if_neg h2]
      by_cases h3 : 0 < l ∧ 0 < r
      · rw [if_pos h3]
        omega
      · rw [if_neg h3]
        have : l = 0 ∨ r = 0 := by omega
        rcases this with rfl | rfl <;> simp
theorem both_sub {n : Nat} {m : Mx} (anti : ∀ y z, y < n → z < n → at2 m y z = -(at2 m z y)) {x a b : Nat} (hx : x < n) (ha : a < n) (hb : b < n) : both m x a b - both m x b a = addedBy (at2 m a x) (at2 m x b) := by
  rw [addedBy_eq]
  unfold both
  rw [anti b x hb hx, anti x a hx ha]
  have e : (0 < -at2 m x b ∧ 0 < -at2 m a x) ↔ (at2 m a x < 0 ∧ at2 m x b < 0) := by omega
  simp only [e]
  congr 1
  split
  · rw [Int.neg_mul_neg, Int.mul_comm]
  · rfl
theorem turnG_no {m : Mx} {x y z : Nat} (h : ¬ (0 < at2 m y x ∧ 0 < at2 m x z)) (a b : Nat) : turnG m x y z a b = turnG m x y (z + 1) a b := by
  have hb : both m x y z = 0 := by unfold both; rw [if_neg h]
  unfold turnG
  congr 1
  · congr 1
    by_cases e : a = y ∧ b = z
    · obtain ⟨rfl, rfl⟩ := e
      rw [hb]
      split <;> split <;> rfl
    · have : (a < y ∨ (a = y ∧ b < z)) ↔ (a < y ∨ (a = y ∧ b < z + 1)) := by omega
      simp only [this]
  · by_cases e : b = y ∧ a = z
    · obtain ⟨rfl, rfl⟩ := e
      rw [hb]
      split <;> split <;> rfl
    · have : (b < y ∨ (b = y ∧ a < z)) ↔ (b < y ∨ (b = y ∧ a < z + 1)) := by omega
      simp only [this]
theorem turnG_yes {m : Mx} {x y z : Nat} (ne : y ≠ z) (h : 0 < at2 m y x ∧ 0 < at2 m x z) (a b : Nat) :
    upd2 (upd2 (turnG m x y z) y z (turnG m x y z y z + at2 m y x * at2 m x z)) z y (turnG m x y z z y - at2 m y x * at2 m x z) a b = turnG m x y (z + 1) a b := by
  have hb : both m x y z = at2 m y x * at2 m x z := by unfold both; rw [if_pos h]
  unfold upd2
  by_cases e1 : a = z ∧ b = y
  · obtain ⟨rfl, rfl⟩ := e1
    rw [if_pos ⟨rfl, rfl⟩, ← hb]
    unfold turnG
    have c1 : (a < b ∨ (a = b ∧ b < a)) ↔ (a < b ∨ (a = b ∧ b < a + 1)) := by omega
    have c2 : ¬ (b < b ∨ (b = b ∧ a < a)) := by omega
    have c3 : (b < b ∨ (b = b ∧ a < a + 1)) := by omega
    rw [if_neg c2, if_pos c3]
    simp only [c1]
    omega
  · rw [if_neg e1]
    by_cases e2 : a = y ∧ b = z
    · obtain ⟨rfl, rfl⟩ := e2
      rw [if_pos ⟨rfl, rfl⟩, ← hb]
      unfold turnG
      have c1 : (b < a ∨ (b = a ∧ a < b)) ↔ (b < a ∨ (b = a ∧ a < b + 1)) := by omega
      have c2 : ¬ (a < a ∨ (a = a ∧ b < b)) := by omega
      have c3 : (a < a ∨ (a = a ∧ b < b + 1)) := by omega
      rw [if_neg c2, if_pos c3]
      simp only [c1]
      omega
    · rw [if_neg e2]
      unfold turnG
      have c1 : (a < y ∨ (a = y ∧ b < z)) ↔ (a < y ∨ (a = y ∧ b < z + 1)) := by omega
      have c2 : (b < y ∨ (b = y ∧ a < z)) ↔ (b < y ∨ (b = y ∧ a < z + 1)) := by omega
      simp only [c1, c2]
theorem turnG_row {m : Mx} {x y n a b : Nat} (ha : a < n) (hb : b < n) : turnG m x y n a b = turnG m x (y + 1) 0 a b := by
  unfold turnG
  have c1 : (a < y ∨ (a = y ∧ b < n)) ↔ (a < y + 1 ∨ (a = y + 1 ∧ b < 0)) := by omega
  have c2 : (b < y ∨ (b = y ∧ a < n)) ↔ (b < y + 1 ∨ (b = y + 1 ∧ a < 0)) := by omega
  simp only [c1, c2]
theorem turnG_zero {m : Mx} {x a b : Nat} : at2 m a b = turnG m x 0 0 a b := by
  unfold turnG
  have c1 : ¬ (a < 0 ∨ (a = 0 ∧ b < 0)) := by omega
  have c2 : ¬ (b < 0 ∨ (b = 0 ∧ a < 0)) := by omega
  rw [if_neg c1, if_neg c2]
  omega
theorem turnL_zero {m : Mx} {x n a b : Nat} : turnG m x n 0 a b = turnL m x n 0 a b := by
  unfold turnL
  rw [if_neg]
  omega
theorem turnL_step {m : Mx} {x n y a b : Nat} : upd2 (upd2 (turnL m x n y) x y (0 - at2 m x y)) y x (0 - at2 m y x) a b = turnL m x n (y + 1) a b := by
  unfold upd2
  by_cases e1 : a = y ∧ b = x
  · obtain ⟨rfl, rfl⟩ := e1
    rw [if_pos ⟨rfl, rfl⟩]
    unfold turnL
    rw [if_pos]
    omega
  · rw [if_neg e1]
    by_cases e2 : a = x ∧ b = y
    · obtain ⟨rfl, rfl⟩ := e2
      rw [if_pos ⟨rfl, rfl⟩]
      unfold turnL
      rw [if_pos]
      omega
    · rw [if_neg e2]
      unfold turnL
      have c : ((a = x ∧ b < y) ∨ (b = x ∧ a < y)) ↔ ((a = x ∧ b < y + 1) ∨ (b = x ∧ a < y + 1)) := by omega
      simp only [c]
theorem turnL_end {n : Nat} {m : Mx} (hl : m.length = n) (anti : ∀ y z, y < n → z < n → at2 m y z = -(at2 m z y)) {x : Nat} (hx : x < n) : mOf n (turnL m x n n) = behindTurn m x := by
  unfold behindTurn
  rw [hl]
  refine mOf_congr (G := fun y z => if x = y ∨ x = z then -(at2 m y z) else at2 m y z + addedBy (at2 m y x) (at2 m x z)) fun a b ha hb => ?_
  unfold turnL
  by_cases e : x = a ∨ x = b
  · have c : (a = x ∧ b < n) ∨ (b = x ∧ a < n) := by omega
    rw [if_pos c]
    show _ = if x = a ∨ x = b then -(at2 m a b) else _
    rw [if_pos e]
    omega
  · have c : ¬ ((a = x ∧ b < n) ∨ (b = x ∧ a < n)) := by omega
    rw [if_neg c]
    show _ = if x = a ∨ x = b then -(at2 m a b) else at2 m a b + addedBy (at2 m a x) (at2 m x b)
    rw [if_neg e, ← both_sub anti hx ha hb]
    unfold turnG
    have c1 : a < n ∨ (a = n ∧ b < 0) := by omega
    have c2 : b < n ∨ (b = n ∧ a < 0) := by omega
    rw [if_pos c1, if_pos c2]
    omega
section
variable {P : Program} {w : World} {K : PySem.W.Frag} {mg : Str → Option Value} {base : Heap} {A : Ad}
section
variable {σ : L2.St} {H : Hp} {D : Ends} {tz tu : TS} {wi : TI} {n : Nat} {E : Nat → Rp} {g : TG}
theorem q_forG (hI : EvI wi σ H n E) (k : ∀ H2, Ex H H2 → ∃ Pv : Nat → L2.St → Hp → Prop, Pv 0 σ H2 ∧ (∀ i σ' H', Pv i σ' H' → Fz H2 H') ∧
    (∀ i x σ' H' H'', i < n → Pv i σ' H' → Ex H' H'' → (E i).is x H'' → g x σ' H'' fun σ2 H3 => tu { D with nx := Pv (i + 1), ct := Pv (i + 1), bk := fun σ' H' => Gh H' (tz D σ') } σ2 H3) ∧ (∀ σ' H', Pv n σ' H' → Gh H' (tz D σ'))) : tSeq (tGhS (tFor wi g tu)) tz D σ H :=
  s_forD (D := { D with nx := fun σ' H' => Gh H' (tz D σ') }) hI k
end
def pLawTurn (K : PySem.W.Frag) : Pre := fun vs H R => ∃ v n m x, vs = [v, .int (x : Nat)] ∧ (matT K m).is v H ∧ GoodW n m ∧ x < n ∧ R = matT K (behindTurn m x)
theorem ok_law_turn (T : Txt K mg A) : FnOk P w K mg base CX0 1 (A.a 25) (A.d 25) ["_law_web_here", "_law_x"] (spD (pLawTurn K)) := by
  refine T.d_law_turn.F.ok sc25 (fun vs H Q E h => ?_) (fun cdv A outer s H vs Q E hr h => ?_)
  · obtain ⟨R, ⟨v, n, m, x, rfl, _⟩, _⟩ := h
    rfl
  · obtain ⟨R, ⟨v, n, m, x, rfl, hv, hg, hx, rfl⟩, kq⟩ := h
    refine ⟨_, (pss_cons (ps_par (i := 3) (j := 4) rfl sc25.nd rfl rfl (by decide) rfl rfl (pa_cons (pe_callB (lenK K rfl) (by rfl) T.z_len (by decide +kernel) (pa_cons (pv 0) pa_nil)) (pa_cons (pe_lc (own := [("_law_line", 6)]) (g := gName 6) rfl sc25.nd (piK K rfl (pv 0)) (blkOk_by (N := N_law_turn) (sc := defScope s_law_turn) (by decide +kernel)) (fun _ _ _ _ _ => pg_name (i := 6) sc25.nd rfl (Or.inl rfl)) (fun _ _ _ _ _ => pts_nil) (fun _ _ _ _ _ => (pe_callTy (lstK K rfl) (by rfl) T.z_list (by decide +kernel) (pa_cons (pv 6) pa_nil)))) pa_nil)) (by rfl))
      (pss_cons (ps_for PassesOwn.never rfl (pi_range1 (by rfl) T.z_range (pa_cons (pv 3) pa_nil)) (pg_name (i := 2) sc25.nd rfl (Or.inl rfl)) (pss_one (ps_for PassesOwn.never rfl (pi_range1 (by rfl) T.z_range (pa_cons (pv 3) pa_nil)) (pg_name (i := 5) sc25.nd rfl (Or.inl rfl)) (pss_one (ps_if (PW.pt (pw_and (pt_cmpR op_gt (pe_ix (ixK K rfl) (pe_ix (ixK K rfl) (pv 0) (pv 2) (fun _ _ => rfl)) (pv 1) (fun _ _ => rfl)) pe_int (nomark _)) (pw_and1 (pt_cmpR op_gt (pe_ix (ixK K rfl) (pe_ix (ixK K rfl) (pv 0) (pv 1) (fun _ _ => rfl)) (pv 5) (fun _ _ => rfl)) pe_int (nomark _))))) (pss_cons (ps_set (i := 7) sc25.nd rfl (Or.inl rfl) (pe_op op_mul (pe_ix (ixK K rfl) (pe_ix (ixK K rfl) (pv 0) (pv 2) (fun _ _ => rfl)) (pv 1) (fun _ _ => rfl)) (pe_ix (ixK K rfl) (pe_ix (ixK K rfl) (pv 0) (pv 1) (fun _ _ => rfl)) (pv 5) (fun _ _ => rfl))))
      (pss_one (ps_asg (pe_tup (pa_cons (pe_op op_add (pe_ix (ixK K rfl) (pe_ix (ixK K rfl) (pv 4) (pv 2) (fun _ _ => rfl)) (pv 5) (fun _ _ => rfl)) (pv 7)) (pa_cons (pe_op op_sub (pe_ix (ixK K rfl) (pe_ix (ixK K rfl) (pv 4) (pv 5) (fun _ _ => rfl)) (pv 2) (fun _ _ => rfl)) (pv 7)) pa_nil))) (pg_tup rfl (pgs_cons (pg_sub (pe_ix (ixK K rfl) (pv 4) (pv 2) (fun _ _ => rfl)) (pv 5) set_list) (pgs_cons (pg_sub (pe_ix (ixK K rfl) (pv 4) (pv 5) (fun _ _ => rfl)) (pv 2) set_list) pgs_nil)))))) pss_nil)))))
      (pss_cons (ps_gh (ps_for PassesOwn.never rfl (pi_range1 (by rfl) T.z_range (pa_cons (pv 3) pa_nil)) (pg_name (i := 2) sc25.nd rfl (Or.inl rfl)) (pss_one (ps_asg (pe_tup (pa_cons (pe_op op_sub pe_int (pe_ix (ixK K rfl) (pe_ix (ixK K rfl) (pv 0) (pv 1) (fun _ _ => rfl)) (pv 2) (fun _ _ => rfl))) (pa_cons (pe_op op_sub pe_int (pe_ix (ixK K rfl) (pe_ix (ixK K rfl) (pv 0) (pv 2) (fun _ _ => rfl)) (pv 1) (fun _ _ => rfl))) pa_nil))) (pg_tup rfl (pgs_cons (pg_sub (pe_ix (ixK K rfl) (pv 4) (pv 1) (fun _ _ => rfl)) (pv 2) set_list) (pgs_cons (pg_sub (pe_ix (ixK K rfl) (pv 4) (pv 2) (fun _ _ => rfl)) (pv 1) set_list) pgs_nil)))))))
      (pss_one (ps_ret (pe_callTy (tupK K rfl) (by rfl) T.z_tuple (by decide +kernel) (pa_cons (pe_fr (pe_lc (own := [("_law_line", 6)]) (g := gName 6) rfl sc25.nd (piK K rfl (pv 4)) (blkOk_by (N := N_law_turn) (sc := defScope s_law_turn) (by decide +kernel)) (fun _ _ _ _ _ => pg_name (i := 6) sc25.nd rfl (Or.inl rfl)) (fun _ _ _ _ _ => pts_nil) (fun _ _ _ _ _ => (pe_callTy (tupK K rfl) (by rfl) T.z_tuple (by decide +kernel) (pa_cons (pv 6) pa_nil))))) pa_nil))))))), ?_⟩
    have hn := hg.le
    have hn1 := hg.pos
    have hnn : ((n : Int)).toNat = n := rfl
    refine (d_eqI (d_len (K := K) (d_var rfl (Rp.tup_seq hv))) (c := (n : Int)) (by rw [List.length_map, hg.sq.len])).go fun vn H1 e1 rn => ?_
    obtain rfl : vn = V.int (n : Int) := rn
    have hv1 := (matT K m).mono (Fz.ex e1) hv
    have hI : EvI (iSeq K (tVar 0)) (start N_law_turn [v, .int (x : Nat)]) H1 n (fun i => rowS K (m.getD i [])) := by
      have := i_map (P := rowS K) (xs := m) [] (d_var (i := 0) (σ := start N_law_turn [v, .int (x : Nat)]) rfl (matT_S _ _ _ hv1))
      rw [hg.sq.len] at this
      exact this
    refine n_lcR (F := at2 m) (n := n) hI (by omega) (fun x => rfl) (fun _ _ => t_yes) (fun i y H2 e2 hi hy Q q => ?_) fun pt ps H2 t2 => ?_
    · obtain ⟨a, rfl, hsq⟩ := rowS_sq hy
      refine ⟨_, rfl, a, _, rfl, hsq, fun l hl => q l _ (Ex.new hl) hl ?_⟩
      rw [upd_same]
      congr 2
      refine List.ext_getElem (by simp [rowV]; rw [← List.getD_eq_getElem?_getD, hg.sq.rowLen hi]) fun a h1 h2 => ?_
      simp only [List.getElem_map, rowV, List.getElem_range]
      congr 1
      have : a < (m.getD i []).length := by simpa using h1
      unfold at2
      rw [List.getD_eq_getElem?_getD (l := m.getD i []), List.getElem?_eq_getElem this]
      rfl
    refine ⟨_, _, rfl, ?_⟩
    have hat : ∀ {σ' : L2.St} {H' : Hp} {i j a b : Nat}, Fz H1 H' → σ'[0]? = some (some v) → σ'[i]? = some (some (.int (a : Int))) → σ'[j]? = some (some (.int (b : Int))) → a < n → b < n → EvD (tOp (rIx K) (tOp (rIx K) (tVar 0) (tVar i)) (tVar j)) σ' H' (.int (at2 m a b)) := fun f h0 hi hj ha hb =>
      d_at hg.sq (d_var h0 (matT_S _ _ _ ((matT K m).mono f hv1))) (d_varV hi) (d_varV hj) ha hb
    have t2' := t2.congr (G := turnG m x 0 0) fun y z _ _ => turnG_zero
    refine q_forD (n := n) (E := fun i => .int (i : Int)) (i_rng1 (k := (n : Int)) (d_cons (d_varV rfl) d_nil) (by omega) (by omega)) fun H3 e3 => ⟨fun i σ' H' => ∃ s2 s5 s6 s7, σ' = [some v, some (.int (x : Nat)), s2, some (.int (n : Int)), some (.ref pt), s5, s6, s7] ∧ Fz H3 H' ∧ TabW (fun _ => False) H1 pt ps n (turnG m x i 0) H',
      ⟨_, _, _, _, rfl, Fz.refl _, t2'.ext e3⟩, fun i σ' H' ⟨_, _, _, _, _, f, _⟩ => f, ?_, ?_⟩
    · rintro y xv σ' H4 H5 hy ⟨s2, s5, s6, s7, rfl, f3, t4⟩ e5 rx
      obtain rfl : xv = V.int (y : Int) := rx
      show tFor _ _ _ _ _ _
      refine s_forD (n := n) (E := fun i => .int (i : Int)) (i_rng1 (k := (n : Int)) (d_cons (d_varV rfl) d_nil) (by omega) (by omega)) fun H6 e6 => ⟨fun z σ' H' => ∃ s5 s6 s7, σ' = [some v, some (.int (x : Nat)), some (.int (y : Int)), some (.int (n : Int)), some (.ref pt), s5, s6, s7] ∧ Fz H3 H' ∧ Fz H6 H' ∧ TabW (fun _ => False) H1 pt ps n (turnG m x y z) H',
        ⟨_, _, _, rfl, (f3.trans (Fz.ex e5)).trans (Fz.ex e6), Fz.refl _, (t4.ext e5).ext e6⟩, fun i σ' H' ⟨_, _, _, _, _, f, _⟩ => f, ?_, ?_⟩
      · rintro z xv σ' H7 H8 hz ⟨s5, s6, s7, rfl, g3, g6, t7⟩ e8 rz
        obtain rfl : xv = V.int (z : Int) := rz
        have t8 := t7.ext e8
        have G3 := g3.trans (Fz.ex e8)
        have G6 := g6.trans (Fz.ex e8)
        refine s_when (et_and (d_test (d_I0 (hat t8.ex.fz rfl rfl rfl hy hx) d_c)) fun _ => d_test (d_I0 (hat t8.ex.fz rfl rfl rfl hx hz) d_c)) (fun hb H9 e9 => ?_) (fun hb H9 e9 => ?_)
        · rw [Bool.and_eq_true] at hb
          have hb1 : 0 < at2 m y x := of_decide_eq_true hb.1
          have hb2 : 0 < at2 m x z := of_decide_eq_true hb.2
          have ne : y ≠ z := fun e => by
            subst e
            have := hg.anti x y hx hy
            omega
          have t9 := t8.ext e9
          have bd := hg.bd.at (by decide) y x
          refine q_asgD (R := .int (at2 m y x * at2 m x z)) (d_I (g := fun i j => .int (i * j)) (.inl ⟨Int.lt_of_lt_of_le (by decide) bd.1, Int.lt_of_le_of_lt bd.2 (by decide)⟩) (hat t9.ex.fz rfl rfl rfl hy hx) (hat t9.ex.fz rfl rfl rfl hx hz)) fun u H10 e10 ru => ?_
          obtain rfl : u = V.int _ := ru
          have t10 := t9.ext e10
          refine t10.s2 (j := 2) (l := 5) rfl rfl rfl hy hz rfl (d_I0 (g := fun i j => .int (i + j)) (t10.get rfl (d_varV rfl) (d_varV rfl) hy hz) (d_varV rfl)) (d_I0 (g := fun i j => .int (i - j)) (t10.get rfl (d_varV rfl) (d_varV rfl) hz hy) (d_varV rfl)) fun H11 e11 t11 => ?_
          exact ⟨_, _, _, rfl, ((G3.trans (Fz.ex e9)).trans (Fz.ex e10)).trans e11.fz, ((G6.trans (Fz.ex e9)).trans (Fz.ex e10)).trans e11.fz, t11.congr fun a b _ _ => turnG_yes ne ⟨hb1, hb2⟩ a b⟩
        · have hb' : ¬ (0 < at2 m y x ∧ 0 < at2 m x z) := by
            rintro ⟨h1, h2⟩
            rw [decide_eq_true h1, decide_eq_true h2] at hb
            cases hb
          exact ⟨_, _, _, rfl, G3.trans (Fz.ex e9), G6.trans (Fz.ex e9), (t8.ext e9).congr fun a b _ _ => turnG_no hb' a b⟩
      · rintro σ' H7 ⟨s5, s6, s7, rfl, g3, g6, t7⟩
        exact ⟨_, _, _, _, rfl, g3, t7.congr fun a b ha hb => turnG_row ha hb⟩
    · rintro σ' H4 ⟨s2, s5, s6, s7, rfl, f3, t4⟩
      refine q_forG (n := n) (E := fun i => .int (i : Int)) (i_rng1 (k := (n : Int)) (d_cons (d_varV rfl) d_nil) (by omega) (by omega)) fun H5 e5 => ⟨fun i σ' H' => ∃ s2 s5 s6 s7, σ' = [some v, some (.int (x : Nat)), s2, some (.int (n : Int)), some (.ref pt), s5, s6, s7] ∧ Fz H5 H' ∧ TabW (fun _ => False) H1 pt ps n (turnL m x n i) H',
        ⟨_, _, _, _, rfl, Fz.refl _, (t4.ext e5).congr fun a b _ _ => turnL_zero⟩, fun i σ' H' ⟨_, _, _, _, _, f, _⟩ => f, ?_, ?_⟩
      · rintro y xv σ' H6 H7 hy ⟨s2, s5, s6, s7, rfl, f5, t6⟩ e7 rx
        obtain rfl : xv = V.int (y : Int) := rx
        have t7 := t6.ext e7
        refine t7.s2 (j := 1) (l := 2) rfl rfl rfl hx hy rfl (d_I0 (g := fun i j => .int (i - j)) d_c (hat t7.ex.fz rfl rfl rfl hx hy)) (d_I0 (g := fun i j => .int (i - j)) d_c (hat t7.ex.fz rfl rfl rfl hy hx)) fun H8 e8 t8 => ?_
        exact ⟨_, _, _, _, rfl, (f5.trans (Fz.ex e7)).trans e8.fz, t8.congr fun a b _ _ => turnL_step⟩
      · rintro σ' H6 ⟨s2, s5, s6, s7, rfl, f5, t6⟩
        refine t6.fr.bind fun H7 ⟨E7, E67, hm⟩ => .done ?_
        rw [turnL_end hg.sq.len hg.anti hx] at hm
        refine s_retD (d_frozenC (m := behindTurn m x) (by rw [(hg.sq.behind x).len]; omega) rfl (matL_S _ _ _ hm) (fun x => rfl) (fun x => rfl) fun _ _ => t_yes) fun v H8 e8 r8 => ?_
        exact kq v H8 ((e1.trans E7.toEx).trans e8) r8
end
end G
set_option maxRecDepth 100000
set_option maxHeartbeats 4000000
/-! W8: _law_frame_turn, _law_column, _law_greens. -/
namespace G
open PySem PySem.Spec PyProof.Rows L2 Evl
section
variable {P : Program} {w : World} {K : PySem.W.Frag} {mg : Str → Option Value} {base : Heap} {A : Ad}
/-- a list of one's own, fixed, onto another -/
theorem s_appF {σ : L2.St} {H0 H1 H : Hp} {p q : Addr} {i j : Nat} {Rs Ss : List Rp} {D : Ends} (w : LcW H0 p Rs H1) (hσ : σ[j]? = some (some (.ref p))) (w2 : LcW H1 q Ss H) (hσ2 : σ[i]? = some (some (.ref q))) (hl : Rs.length ≤ 1000000)
    (k : ∀ H2, Fz H H2 → LcW H0 p (Rs ++ [.lst Ss]) H2 → D.nx σ H2) : tDrop (tBM K "list" rAppend (tVar j) (tCons (tFr (tVar i)) tNil)) D σ H := by
  have w' := w.ext w2.2.1
  obtain ⟨_, _, acc, hp, _⟩ := id w'
  obtain ⟨_, _, acc2, hq, _⟩ := id w2
  refine ⟨.ref p, hσ, .inl ⟨rfl, acc, sq_of hp⟩, ⟨.ref q, hσ2, q, acc2, rfl, hq, fun o => ?_⟩⟩
  obtain ⟨h1, h2⟩ := w2.fr (o := o) acc2 hq
  have f2 : Fz H (upd H q (.frz o (.lst acc2))) := Fz.mut hq fun z => z
  obtain ⟨acc', a1, a2, a3⟩ := (w.ext h1).push h2 hl
  exact ⟨p, acc', .ref q, rfl, rfl, a1, a2, k _ (f2.trans (Fz.mut a1 fun z => z)) a3⟩
theorem q_appF {σ : L2.St} {H0 H1 H : Hp} {p q : Addr} {i j : Nat} {Rs Ss : List Rp} {D : Ends} {tz : TS} (w : LcW H0 p Rs H1) (hσ : σ[j]? = some (some (.ref p))) (w2 : LcW H1 q Ss H) (hσ2 : σ[i]? = some (some (.ref q))) (hl : Rs.length ≤ 1000000)
    (k : ∀ H2, Fz H H2 → LcW H0 p (Rs ++ [.lst Ss]) H2 → tz D σ H2) : tSeq (tDrop (tBM K "list" rAppend (tVar j) (tCons (tFr (tVar i)) tNil))) tz D σ H := s_appF (D := { D with nx := tz D }) w hσ w2 hσ2 hl k
def pLawFrameTurn (K : PySem.W.Frag) : Pre := fun vs H R => ∃ v u n m t x, vs = [v, u, .int (x : Nat)] ∧ (matT K m).is v H ∧ (matL t).is u H ∧ Sq n m ∧ Sq n t ∧ Bd 1000 m ∧ Bd 1000 t ∧ n ≤ 100 ∧ x < n ∧ R = matL (frameLines m t x)
theorem ok_law_frame_turn (T : Txt K mg A) : FnOk P w K mg base CX0 1 (A.a 26) (A.d 26) ["_law_web_here", "_law_table", "_law_x"] (spD (pLawFrameTurn K)) := by
  refine T.d_law_frame_turn.F.ok sc26 (fun vs H Q E h => ?_) (fun cdv A outer s H vs Q E hr h => ?_)
  · obtain ⟨R, ⟨v, u, n, m, t, x, rfl, _⟩, _⟩ := h
    rfl
  · obtain ⟨R, ⟨v, u, n, m, t, x, rfl, hv, hu, hq, hqt, hbm, hbd, hn, hx, rfl⟩, k⟩ := h
    refine ⟨_, (pss_cons (ps_set (i := 3) sc26.nd rfl (Or.inl rfl) (pe_lst pa_nil))
      (pss_cons (ps_for PassesOwn.never rfl (piK K rfl (pv 1)) (pg_name (i := 4) sc26.nd rfl (Or.inl rfl)) (pss_cons (ps_set (i := 5) sc26.nd rfl (Or.inl rfl) (pe_lst pa_nil))
      (pss_cons (ps_for PassesOwn.never rfl (pi_range1 (by rfl) T.z_range (pa_cons (pe_callB (lenK K rfl) (by rfl) T.z_len (by decide +kernel) (pa_cons (pv 0) pa_nil)) pa_nil)) (pg_name (i := 6) sc26.nd rfl (Or.inl rfl)) (pss_cons (ps_set (i := 7) sc26.nd rfl (Or.inl rfl) (pe_op op_fdiv (pe_op op_add (pe_op op_mul (pe_callB call_absA (by rfl) T.z_abs (by decide +kernel) (pa_cons (pe_ix (ixK K rfl) (pv 4) (pv 2) (fun _ _ => rfl)) pa_nil)) (pe_ix (ixK K rfl) (pe_ix (ixK K rfl) (pv 0) (pv 2) (fun _ _ => rfl)) (pv 6) (fun _ _ => rfl))) (pe_op op_mul (pe_ix (ixK K rfl) (pv 4) (pv 2) (fun _ _ => rfl)) (pe_callB call_absA (by rfl) T.z_abs (by decide +kernel) (pa_cons (pe_ix (ixK K rfl) (pe_ix (ixK K rfl) (pv 0) (pv 2) (fun _ _ => rfl)) (pv 6) (fun _ _ => rfl)) pa_nil)))) pe_int))
      (pss_one (ps_expr (pe_bm PySem.F.plainAttrs_list PySem.F.slot_list_append PySem.F.type_list_append mt_append (pv 5) (pa_cons (pe_ifExp (pt_cmpR op_eq (pv 6) (pv 2) (nomark _)) (pe_op op_sub pe_int (pe_ix (ixK K rfl) (pv 4) (pv 2) (fun _ _ => rfl))) (pe_op op_add (pe_ix (ixK K rfl) (pv 4) (pv 6) (fun _ _ => rfl)) (pv 7))) pa_nil))))))
      (pss_one (ps_expr (pe_bm PySem.F.plainAttrs_list PySem.F.slot_list_append PySem.F.type_list_append mt_append (pv 3) (pa_cons (pe_fr (pv 5)) pa_nil)))))))
      (pss_one (ps_ret (pe_fr (pv 3)))))), ?_⟩
    refine q_newW fun p H1 w1 => ?_
    refine q_forD (i_map (P := rowL) [] (d_var rfl (Rp.lst_seq ((matL t).mono w1.fz hu)))) fun H2 e2 => ⟨fun i σ' H' => ∃ s4 s5 s6 s7, σ' = [some v, some u, some (.int (x : Nat)), some (.ref p), s4, s5, s6, s7] ∧ Fz H1 H' ∧ Fz H2 H' ∧ LcW H p ((List.range i).map fun i => rowL (frameLine m x (t.getD i []))) H',
      ⟨_, _, _, _, rfl, Fz.ex e2, Fz.refl _, w1.ext e2⟩, fun i σ' H' ⟨_, _, _, _, _, _, f, _⟩ => f, ?_, ?_⟩
    · rintro i y σ' H3 H4 hi ⟨s4, s5, s6, s7, rfl, f1, f2, w3⟩ e4 ry
      have hi' : i < n := by rw [← hqt.len]; exact hi
      have hll := hqt.rowLen hi'
      have hlm : t.getD i [] ∈ t := by
        have e : t.getD i [] = t[i] := by simp [hi]
        rw [e]
        exact List.getElem_mem hi
      have f04 := (w1.fz.trans f1).trans (Fz.ex e4)
      refine q_newW fun q H5 w5 => ?_
      have ry5 := (rowL (t.getD i [])).mono w5.fz ry
      have hv5 := (matT K m).mono (f04.trans w5.fz) hv
      have hR := i_rng1 (k := (n : Int)) (σ := [some v, some u, some (.int (x : Nat)), some (.ref p), some y, some (.ref q), s6, s7]) (H := H5) (tr := tCons (tCB (rLenA K) (tCons (tVar 0) tNil)) tNil) (d_cons (d_eqI (d_len (K := K) (d_var rfl (Rp.tup_seq hv5))) (by rw [List.length_map, hq.len])) d_nil) (Int.natCast_nonneg n) (by omega)
      refine q_forD (n := n) hR fun H6 e6 => ⟨fun z σ' H' => ∃ s6 s7, σ' = [some v, some u, some (.int (x : Nat)), some (.ref p), some y, some (.ref q), s6, s7] ∧ Fz H5 H' ∧ Fz H6 H' ∧ LcW H4 q ((List.range z).map fun z => Rp.int (if z = x then -((t.getD i []).getD z 0) else (t.getD i []).getD z 0 + addedBy ((t.getD i []).getD x 0) (at2 m x z))) H',
        ⟨_, _, rfl, Fz.ex e6, Fz.refl _, w5.ext e6⟩, fun i σ' H' ⟨_, _, _, _, f, _⟩ => f, ?_, ?_⟩
      · rintro z xv σ' H7 H8 hz ⟨s6, s7, rfl, g5, g6, w7⟩ e8 rz
        obtain rfl : xv = V.int (z : Int) := rz
        have w8 := w7.ext e8
        have hL : ∀ {H' : Hp}, Ex H8 H' → (rowS K (t.getD i [])).is y H' := fun e => rowL_S _ _ _ ((rowL _).mono ((g5.trans (Fz.ex e8)).trans (Fz.ex e)) ry5)
        have hM : ∀ {H' : Hp}, Ex H8 H' → (matS K m).is v H' := fun e => matT_S _ _ _ ((matT K m).mono ((g5.trans (Fz.ex e8)).trans (Fz.ex e)) hv5)
        have bl := hbd.getD (by decide) hlm x
        have bm := hbm.at (by decide) x z
        have b3 := iabs_le bl
        refine q_asgD (R := .int (addedBy ((t.getD i []).getD x 0) (at2 m x z))) (d_I (g := fun i j => .int (i / j)) (C := CDiv) ⟨by decide, by decide⟩ (d_I0 (g := fun i j => .int (i + j)) (d_I (g := fun i j => .int (i * j)) (C := CMul) (.inl ⟨Int.lt_of_lt_of_le (by decide) b3.1, Int.lt_of_le_of_lt b3.2 (by decide)⟩) (d_abs (d_get (d_var rfl (hL (Ex.refl _))) (d_varV rfl) (by omega))) (d_at hq (d_var rfl (hM (Ex.refl _))) (d_varV rfl) (d_varV rfl) hx hz))
          (d_I (g := fun i j => .int (i * j)) (C := CMul) (.inl ⟨Int.lt_of_lt_of_le (by decide) bl.1, Int.lt_of_le_of_lt bl.2 (by decide)⟩) (d_get (d_var rfl (hL (Ex.refl _))) (d_varV rfl) (by omega)) (d_abs (d_at hq (d_var rfl (hM (Ex.refl _))) (d_varV rfl) (d_varV rfl) hx hz)))) d_c) fun u H9 e9 ru => ?_
        obtain rfl : u = V.int _ := ru
        have w9 := w8.ext e9
        refine s_appW w9 rfl (R := .int (if z = x then -((t.getD i []).getD z 0) else (t.getD i []).getD z 0 + addedBy ((t.getD i []).getD x 0) (at2 m x z))) ?_ ?_ fun H10 f10 w10 => ⟨_, _, rfl, ((g5.trans (Fz.ex e8)).trans (Fz.ex e9)).trans f10, ((g6.trans (Fz.ex e8)).trans (Fz.ex e9)).trans f10, ?_⟩
        · refine d_if (d_test (d_eq rfl (d_varV rfl) (d_varV rfl))) (fun hb => ?_) (fun hb => ?_)
          · have h : ((z : Nat) : Int) = ((x : Nat) : Int) := by
              have := of_decide_eq_true hb
              injection this
            have h' : z = x := by omega
            subst h'
            rw [if_pos rfl]
            exact d_is (d_I0 (g := fun i j => .int (i - j)) d_c (d_get (d_var rfl (hL e9)) (d_varV rfl) (by omega))) (by show V.int (0 - _) = V.int _; rw [Int.zero_sub])
          · have h : ¬ z = x := fun q => of_decide_eq_false hb (by rw [q])
            rw [if_neg h]
            exact d_I0 (g := fun i j => .int (i + j)) (d_get (d_var rfl (hL e9)) (d_varV rfl) (by omega)) (d_varV rfl)
        · rw [List.length_map, List.length_range]
          omega
        · rw [range_snoc]
          exact w10
      · rintro σ' H7 ⟨s6, s7, rfl, g5, g6, w7⟩
        refine s_appF (w3.ext e4) rfl w7 rfl (by rw [List.length_map, List.length_range]; omega) fun H8 f8 w8 => ⟨_, _, _, _, rfl, ((f1.trans (Fz.ex e4)).trans w7.fz).trans f8, ((f2.trans (Fz.ex e4)).trans w7.fz).trans f8, ?_⟩
        rw [range_snoc]
        have e : rowL (frameLine m x (t.getD i [])) = .lst ((List.range n).map fun z => Rp.int (if z = x then -((t.getD i []).getD z 0) else (t.getD i []).getD z 0 + addedBy ((t.getD i []).getD x 0) (at2 m x z))) := by
          show Rp.lst _ = Rp.lst _
          unfold frameLine
          rw [hq.len, List.map_map]
          rfl
        rw [e]
        exact w8
    · rintro σ' H3 ⟨s4, s5, s6, s7, rfl, f1, f2, w3⟩
      refine s_retW w3 rfl fun H4 e4 r4 => k _ H4 e4 ?_
      unfold frameLines
      show (Rp.lst (List.map rowL _)).is _ _
      rw [List.map_map, ← map_range_getD [] _ t]
      exact r4
/-! _law_column, _law_greens -/
def pColumn (K : PySem.W.Frag) : Pre := fun vs H R => ∃ v n t x, vs = [v, .int (x : Nat)] ∧ (matS K t).is v H ∧ Sq n t ∧ n ≤ 100 ∧ x < n ∧ R = rowL (col t x)
theorem ok_law_column (T : Txt K mg A) : FnOk P w K mg base CX0 1 (A.a 28) (A.d 28) ["_law_table", "_law_x"] (spD (pColumn K)) := by
  refine T.d_law_column.F.ok sc28 (fun vs H Q E h => ?_) (fun cdv A outer s H vs Q E hr h => ?_)
  · obtain ⟨R, ⟨v, n, t, x, rfl, _⟩, _⟩ := h
    rfl
  · obtain ⟨R, ⟨v, n, t, x, rfl, hv, hq, hn, hx, rfl⟩, k⟩ := h
    refine ⟨_, (pss_one (ps_ret (pe_fr (pe_lc (own := [("_law_line", 2)]) (g := gName 2) rfl sc28.nd (piK K rfl (pv 0)) (blkOk_by (N := N_law_column) (sc := defScope s_law_column) (by decide +kernel)) (fun _ _ _ _ _ => pg_name (i := 2) sc28.nd rfl (Or.inl rfl)) (fun _ _ _ _ _ => pts_nil) (fun _ _ _ _ _ => (pe_ix (ixK K rfl) (pv 2) (pv 1) (fun _ _ => rfl))))))), ?_⟩
    refine s_retD ?_ k
    unfold col
    show EvD _ _ _ (Rp.lst _)
    rw [List.map_map, ← map_range_getD [] _ t]
    refine d_lcA (i_map (P := rowS K) [] (d_var rfl hv)) _ (by rw [hq.len]; omega) (fun x => rfl) (fun i vi H3 e3 hi ri => ?_) (fun _ _ => t_yes)
    have hi' : i < n := by rw [← hq.len]; exact hi
    exact d_get (d_var rfl ri) (d_varV rfl) (by rw [hq.rowLen hi']; exact hx)
theorem ok_law_greens (T : Txt K mg A) : FnOk P w K mg base CX0 2 (A.a 29) (A.d 29) ["_law_table"] (spD (pGreens K)) := by
  refine T.d_law_greens.F.ok sc29 (fun vs H Q E h => ?_) (fun cdv A outer s H vs Q E hr h => ?_)
  · obtain ⟨R, ⟨v, n, t, rfl, _⟩, _⟩ := h
    rfl
  · obtain ⟨R, ⟨v, n, t, rfl, hv, hq, h1, hn, rfl⟩, k⟩ := h
    refine ⟨_, (pss_one (ps_ret (pe_fr (pe_lc (own := [("_law_x", 1)]) (g := gName 1) rfl sc29.nd (pi_range1 (by rfl) T.z_range (pa_cons (pe_callB (lenK K rfl) (by rfl) T.z_len (by decide +kernel) (pa_cons (pv 0) pa_nil)) pa_nil)) (blkOk_by (N := N_law_greens) (sc := defScope s_law_greens) (by decide +kernel)) (fun _ _ _ _ _ => pg_name (i := 1) sc29.nd rfl (Or.inl rfl)) (fun _ _ _ _ _ => pts_one (pt_cmpR op_ge (pe_callB (minK K rfl rfl) (by rfl) T.z_min (by decide +kernel) (pa_cons (pe_call (ok_law_column T) (hr.mono (by decide)) (by rfl) T.d_law_column.g T.d_law_column.F.kp T.d_law_column.b .nil pass0 (pa_cons (pv 0) (pa_cons (pv 1) pa_nil))) pa_nil)) pe_int (nomark _))) (fun _ _ _ _ _ => (pv 1)))))), ?_⟩
    refine s_retD (R := rowL ((greensOf t).map fun x : Nat => (x : Int))) ?_ k
    have hE : rowL ((greensOf t).map fun x : Nat => (x : Int)) = Rp.lst (kept n (isGreen t) fun i => Rp.int (i : Int)) := by
      show Rp.lst _ = Rp.lst _
      unfold kept greensOf
      rw [List.map_map, hq.len]
      rfl
    rw [hE]
    have hR := i_rng1 (k := (n : Int)) (σ := start N_law_greens [v]) (H := H) (tr := tCons (tCB (rLenA K) (tCons (tVar 0) tNil)) tNil) (d_cons (d_eqI (d_len (K := K) (d_var rfl (matS_seq hv))) (by rw [List.length_map, hq.len])) d_nil) (Int.natCast_nonneg n) (by omega)
    have e0 : ((n : Int)).toNat = n := by simp
    rw [e0] at hR
    refine d_lcN hR (isGreen t) _ (by omega) (fun x => rfl) (fun x vx H2 e2 hx rx => ?_) (fun x vx H2 e2 hx hg rx => d_var rfl rx)
    obtain rfl : vx = V.int (x : Int) := rx
    refine d_test (d_I0 (g := fun i j => .bl (decide (j ≤ i))) (d_minL (ns := col t x) (d_call2 (d_var rfl ((matS K t).mono (Fz.ex e2) hv)) (d_varV rfl) fun a b H3 e3 ra rb => ⟨a, n, t, x, by rw [show b = V.int (x : Nat) from rb], ra, hq, hn, hx, rfl⟩) ?_) d_c)
    unfold col
    rw [List.length_map, hq.len]
    exact h1
end
end G
set_option maxRecDepth 100000
set_option maxHeartbeats 4000000
/-! W9: _law_frames. -/
namespace G
open PySem PySem.Spec PyProof.Rows L2 Evl
def fit (w t : Mx) : Int := imax ((w ++ t).map fun r => imax (r.map iabs))
theorem imax_le_iff {ns : List Int} (h : 0 < ns.length) (c : Int) : imax ns ≤ c ↔ ∀ a, a ∈ ns → a ≤ c :=
  ⟨fun h1 a ha => Int.le_trans (le_imax ha) h1, fun h1 => h1 _ (imax_mem h)⟩
theorem fit_ok {n : Nat} {w t : Mx} (hw : Sq n w) (ht : Sq n t) (hn : 1 ≤ n) : fit w t ≤ 1000 ↔ (isSmall w && isSmall t) = true := by
  have hrow : ∀ r, r ∈ w ++ t → r.length = n := fun r hr => by
    rcases List.mem_append.mp hr with h | h
    · exact hw.row r h
    · exact ht.row r h
  have hl : 0 < ((w ++ t).map fun r => imax (r.map iabs)).length := by
    rw [List.length_map, List.length_append, hw.len]
    omega
  unfold fit
  rw [imax_le_iff hl, Bool.and_eq_true]
  have e : ∀ m : Mx, isSmall m = true ↔ ∀ r, r ∈ m → ∀ a, a ∈ r → iabs a ≤ 1000 := fun m => by
    unfold isSmall smallLine
    rw [List.all_eq_true]
    refine ⟨fun h r hr a ha => of_decide_eq_true (List.all_eq_true.mp (h r hr) a ha), fun h r hr => List.all_eq_true.mpr fun a ha => decide_eq_true (h r hr a ha)⟩
  have e2 : (∀ a, a ∈ ((w ++ t).map fun r => imax (r.map iabs)) → a ≤ 1000) ↔ ∀ r, r ∈ w ++ t → ∀ a, a ∈ r → iabs a ≤ 1000 := by
    refine ⟨fun h r hr a ha => ?_, fun h a ha => ?_⟩
    · have h1 := h _ (List.mem_map.mpr ⟨r, hr, rfl⟩)
      exact (imax_le_iff (by rw [List.length_map, hrow r hr]; omega) _).mp h1 _ (List.mem_map.mpr ⟨a, ha, rfl⟩)
    · obtain ⟨r, hr, rfl⟩ := List.mem_map.mp ha
      refine (imax_le_iff (by rw [List.length_map, hrow r hr]; omega) _).mpr fun b hb => ?_
      obtain ⟨c, hc, rfl⟩ := List.mem_map.mp hb
      exact h r hr c hc
  rw [e2, e, e]
  exact ⟨fun h => ⟨fun r hr => h r (List.mem_append_left _ hr), fun r hr => h r (List.mem_append_right _ hr)⟩, fun h r hr => (List.mem_append.mp hr).elim (h.1 r) (h.2 r)⟩
theorem GoodW.behind {n : Nat} {m : Mx} (g : GoodW n m) {x : Nat} (hx : x < n) (hs : isSmall (behindTurn m x) = true) : GoodW n (behindTurn m x) := by
  refine ⟨g.sq.behind x, g.pos, g.le, isSmall_iff.mp hs, fun y z hy hz => ?_⟩
  have e : behindTurn m x = mOf n fun y z => if x = y ∨ x = z then -(at2 m y z) else at2 m y z + addedBy (at2 m y x) (at2 m x z) := by
    unfold behindTurn
    rw [g.sq.len]
    rfl
  rw [e, mOf_at hy hz, mOf_at hz hy]
  have c : (x = y ∨ x = z) ↔ (x = z ∨ x = y) := or_comm
  have a1 := g.anti y z hy hz
  show (if x = y ∨ x = z then -(at2 m y z) else at2 m y z + addedBy (at2 m y x) (at2 m x z)) = -(if x = z ∨ x = y then -(at2 m z y) else at2 m z y + addedBy (at2 m z x) (at2 m x y))
  simp only [c]
  split
  · omega
  · rw [← both_sub g.anti hx hy hz, ← both_sub g.anti hx hz hy]
    omega
section
variable {P : Program} {w : World} {K : PySem.W.Frag} {mg : Str → Option Value} {base : Heap} {A : Ad}
section
variable {σ : L2.St} {H : Hp}
theorem q_new1 {te : TE} {R : Rp} {i : Nat} {tz : TS} {D : Ends} (h : EvD te σ H R) (k : ∀ p H1, LcW H p [R] H1 → tz D (σ.set i (some (.ref p))) H1) : tSeq (tAsg (tLst (tCons te tNil)) (gName i)) tz D σ H :=
  h.go fun z H2 e2 rz => ⟨by show 1 ≤ sizeLine; decide, fun p hp => k p _ ⟨fresh_back e2 hp, e2.trans (Ex.new hp), [z], upd_same, .cons (R.mono (Fz.new hp) rz) .nil⟩⟩
theorem seqAsg {te : TE} {g : TG} {tz : TS} {D : Ends} (h : te σ H fun x H1 => g x σ H1 (tz D)) : tSeq (tAsg te g) tz D σ H := h
theorem q_pairD {tr : TA} {A B : Rp} {i j m : Nat} {tz : TS} {D : Ends} (hm : m = 2) (h : EvDA tr σ H [A, B]) (k : ∀ a b H1, Ex H H1 → A.is a H1 → B.is b H1 → tz D ((σ.set i (some a)).set j (some b)) H1) :
    tSeq (tAsg (tTup tr) (gTup K m (gCons (gName i) (gCons (gName j) gNil)))) tz D σ H := by
  subst hm
  refine seqAsg ((d_tup (K := K) h (by show 2 ≤ 100000; decide)).go fun y H7 e7 ry => ?_)
  obtain ⟨q, vs, rfl, hq, hall⟩ := ry
  obtain ⟨a', b', rfl, qa, qb⟩ := all2_2 hall
  exact ⟨q, _, rfl, hq, rfl, _, _, rfl, _, _, rfl, rfl, k a' b' H7 e7 qa qb⟩
theorem lstS_le (m : Mx) : (Rp.lst (m.map (rowT K))).le (Rp.lst (m.map (rowS K))) := fun _ _ ⟨p, vs, a, b, c⟩ => ⟨p, vs, a, b, c.lemap rowT_S⟩
theorem lstL_le (m : Mx) : (matL m).le (Rp.lst (m.map (rowS K))) := fun _ _ ⟨p, vs, a, b, c⟩ => ⟨p, vs, a, b, c.lemap rowL_S⟩
theorem d_fit {a b l o : Nat} {vs1 vs2 : List Nat} {tt tt2 : TT} {n : Nat} {w t : Mx} {v u : V} (hn : 1 ≤ n) (hn2 : n ≤ 100) (hw : Sq n w) (ht : Sq n t) (ha : σ[a]? = some (some v)) (hb : σ[b]? = some (some u)) (rv : (matT K w).is v H) (ru : (matL t).is u H)
    (w1 : ∀ x, wipe ((wipe σ vs1).set l (some x)) vs1 = wipe σ vs1) (g1 : ∀ x, ((wipe σ vs1).set l (some x))[l]? = some (some x))
    (w2 : ∀ x y, wipe ((wipe ((wipe σ vs1).set l (some x)) vs2).set o (some y)) vs2 = wipe ((wipe σ vs1).set l (some x)) vs2) (g2 : ∀ x y, ((wipe ((wipe σ vs1).set l (some x)) vs2).set o (some y))[o]? = some (some y)) (t1 : ∀ σ H, EvT tt σ H true) (t2 : ∀ σ H, EvT tt2 σ H true) :
    EvD (tCB (rMax K) (tCons (tFr (tLc (iSeq K (tFr (tOp rCatF (tFr (tCB (rLstA K) (tCons (tVar a) tNil))) (tVar b)))) (gName l) tt (tCB (rMax K) (tCons (tFr (tLc (iSeq K (tVar l)) (gName o) tt2 (tCB rAbs (tCons (tVar o) tNil)) vs2)) tNil)) vs1)) tNil)) σ H (.int (fit w t)) := by
  have hrow : ∀ i, i < (w ++ t).length → ((w ++ t).getD i []).length = n := fun i hi => by
    have e : (w ++ t).getD i [] = (w ++ t)[i] := by rw [List.getD_eq_getElem?_getD, List.getElem?_eq_getElem hi]; rfl
    rw [e]
    rcases List.mem_append.mp (List.getElem_mem hi) with h | h
    · exact hw.row _ h
    · exact ht.row _ h
  have hlen : (w ++ t).length = n + n := by rw [List.length_append, hw.len, ht.len]
  unfold fit
  refine d_maxL ?_ (by rw [List.length_map, hlen]; omega)
  show EvD _ _ _ (Rp.lst _)
  rw [List.map_map, ← map_range_getD [] _ (w ++ t)]
  have hsrc : EvD (tFr (tOp rCatF (tFr (tCB (rLstA K) (tCons (tVar a) tNil))) (tVar b))) σ H (Rp.seq K ((w ++ t).map (rowS K))) := by
    rw [List.map_append]
    refine (d_catL ((d_lstS (d_var ha (Rp.tup_seq rv))).le (lstS_le w)) ((d_var hb ru).le (lstL_le t)) ?_).le fun _ _ => Rp.lst_seq
    rw [List.length_map, List.length_map, hw.len, ht.len]
    omega
  refine d_lcA (i_map (P := rowS K) [] hsrc) _ (by omega) w1 (fun i x H2 e2 hi hx => ?_) t1
  refine d_maxL (ns := ((w ++ t).getD i []).map iabs) ?_ (by rw [List.length_map, hrow i hi]; omega)
  show EvD _ _ _ (Rp.lst _)
  rw [List.map_map, ← map_range_getD 0 _ ((w ++ t).getD i [])]
  refine d_lcA (i_map (P := Rp.int) 0 (d_var (g1 x) hx)) _ (by rw [hrow i hi]; omega) (w2 x) (fun j y H3 e3 hj hy => ?_) t2
  obtain rfl : y = V.int _ := hy
  exact d_abs (d_varV (g2 x _))
theorem n_firstC {jy jx : Nat} {vs1 vs2 : List Nat} {tt tt2 : TT} {tl : TE} {n : Nat} (hn : n ≤ 100) (hl : EvD tl σ H (.int (n : Int)))
    (hl2 : ∀ y H1, Ex H H1 → EvD tl ((wipe σ vs1).set jy (some y)) H1 (.int (n : Int)))
    (w1 : ∀ x, wipe ((wipe σ vs1).set jy (some x)) vs1 = wipe σ vs1)
    (w2 : ∀ x y, wipe ((wipe ((wipe σ vs1).set jy (some x)) vs2).set jx (some y)) vs2 = wipe ((wipe σ vs1).set jy (some x)) vs2) (g1 : ∀ x y, ((wipe ((wipe σ vs1).set jy (some x)) vs2).set jx (some y))[jy]? = some (some x)) (g2 : ∀ x y, ((wipe ((wipe σ vs1).set jy (some x)) vs2).set jx (some y))[jx]? = some (some y)) (t1 : ∀ σ H, EvT tt σ H true) (t2 : ∀ σ H, EvT tt2 σ H true) :
    EvN (tLc (iRng1 (tCons tl tNil)) (gName jy) tt (tFr (tLc (iRng1 (tCons tl tNil)) (gName jx) tt2 (tCB rIntA (tCons (tOp rEq (tVar jx) (tVar jy)) tNil)) vs2)) vs1) σ H ((firstFrame n).map rowL) := by
  unfold firstFrame
  rw [List.map_map]
  refine n_lcA (i_rng1 (d_cons hl d_nil) (Int.natCast_nonneg n) (by omega)) _ (by omega) w1 (fun y vy H2 e2 hy ry => ?_) t1
  obtain rfl : vy = V.int (y : Int) := ry
  show EvD _ _ _ (Rp.lst _)
  rw [List.map_map]
  refine d_lcA (i_rng1 (d_cons (hl2 _ _ e2) d_nil) (Int.natCast_nonneg n) (by omega)) _ (by omega) (w2 _) (fun x vx H3 e3 hx rx => ?_) t2
  obtain rfl : vx = V.int (x : Int) := rx
  refine d_intB (d_eqB (d_eq rfl (d_varV (g2 _ _)) (d_varV (g1 _ _))) ?_)
  by_cases h : x = y
  · subst h
    simp
  · have : ¬ (V.int (x : Int) = V.int (y : Int)) := fun q => h (by injection q; omega)
    rw [decide_eq_false this, decide_eq_false h]
end
theorem turns_good {n : Nat} : ∀ {row : List Nat} {w t : Mx}, GoodW n w → Along w t row → GoodW n (turns w t row).1
  | [], _, _, h, _ => h
  | x :: r, w, t, h, ⟨a, b, c, d⟩ => turns_good (row := r) (h.behind (by rw [← h.sq.len]; exact a) b) d
abbrev wtRp (K : PySem.W.Frag) (s : Mx × Mx) : Rp := Rp.tup K [matT K s.1, matL s.2]
def pFrames (K : PySem.W.Frag) : Pre := fun vs H R => ∃ v u n m row, vs = [v, u] ∧ (matT K m).is v H ∧ (rowN K row).is u H ∧ GoodW n m ∧ row.length ≤ 1000 ∧ Along m (firstFrame n) row ∧
  R = Rp.lst ((List.range (row.length + 1)).map fun i => wtRp K (turns m (firstFrame n) (row.take i)))
theorem ok_law_frames (T : Txt K mg A) : FnOk P w K mg base CX0 2 (A.a 27) (A.d 27) ["_law_web_here", "_law_told"] (spD (pFrames K)) := by
  refine T.d_law_frames.F.ok sc27 (fun vs H Q E h => ?_) (fun cdv A outer s H vs Q E hr h => ?_)
  · obtain ⟨R, ⟨v, u, n, m, row, rfl, _⟩, _⟩ := h
    rfl
  · obtain ⟨R, ⟨v, u, n, m, row, rfl, hv, hu, hg, hrow, hal, rfl⟩, k⟩ := h
    refine ⟨_, (pss_cons (ps_gh (ps_setLc (i := 2) (own := [("_law_y", 5)]) (g := gName 5) rfl sc27.nd rfl rfl (sw_true rfl rfl rfl (by decide +kernel)) (pi_range1 (by rfl) T.z_range (pa_cons (pe_callB (lenK K rfl) (by rfl) T.z_len (by decide +kernel) (pa_cons (pv 0) pa_nil)) pa_nil)) (blkOk_by (N := N_law_frames) (sc := defScope s_law_frames) (by decide +kernel)) (fun _ _ _ _ _ => pg_name (i := 5) sc27.nd rfl (Or.inr rfl)) (fun _ _ _ _ _ => pts_nil) (fun _ _ _ _ _ => (pe_fr (pe_lc (own := [("_law_x", 4)]) (g := gName 4) rfl sc27.nd (pi_range1 (by rfl) T.z_range (pa_cons (pe_callB (lenK K rfl) (by rfl) T.z_len (by decide +kernel) (pa_cons (pv 0) pa_nil)) pa_nil)) (blkOk_by (N := N_law_frames) (sc := relS _ (defScope s_law_frames)) (by decide +kernel)) (fun _ _ _ _ _ => pg_name (i := 4) sc27.nd rfl (Or.inl rfl)) (fun _ _ _ _ _ => pts_nil) (fun _ _ _ _ _ => (pe_callTy call_intA (by rfl) T.z_int (by decide +kernel) (pa_cons (pe_cmpR op_eq (pv 4) (pv 5) (nomark _)) pa_nil))))))))
      (pss_cons (ps_set (i := 3) sc27.nd rfl (Or.inl rfl) (pe_lst (pa_cons (pe_tup (pa_cons (pv 0) (pa_cons (pv 2) pa_nil))) pa_nil)))
      (pss_cons (ps_for PassesOwn.never rfl (piK K rfl (pv 1)) (pg_name (i := 4) sc27.nd rfl (Or.inl rfl)) (pss_cons (ps_asg (pe_tup (pa_cons (pe_call (ok_law_turn T) (hr.mono (by decide)) (by rfl) T.d_law_turn.g T.d_law_turn.F.kp T.d_law_turn.b .nil pass0 (pa_cons (pv 0) (pa_cons (pv 4) pa_nil))) (pa_cons (pe_call (ok_law_frame_turn T) (hr.mono (by decide)) (by rfl) T.d_law_frame_turn.g T.d_law_frame_turn.F.kp T.d_law_frame_turn.b .nil pass0 (pa_cons (pv 0) (pa_cons (pv 2) (pa_cons (pv 4) pa_nil)))) pa_nil))) (pg_tup rfl (pgs_cons (pg_name (i := 0) sc27.nd rfl (Or.inr rfl)) (pgs_cons (pg_name (i := 2) sc27.nd rfl (Or.inl rfl)) pgs_nil))))
      (pss_cons (ps_if (pt_cmpR op_gt (pe_callB (maxK K rfl rfl) (by rfl) T.z_max (by decide +kernel) (pa_cons (pe_fr (pe_lc (own := [("_law_line", 6)]) (g := gName 6) rfl sc27.nd (piK K rfl (pe_fr (pe_op op_catF (pe_fr (pe_callTy (lstK K rfl) (by rfl) T.z_list (by decide +kernel) (pa_cons (pv 0) pa_nil))) (pv 2)))) (blkOk_by (N := N_law_frames) (sc := defScope s_law_frames) (by decide +kernel)) (fun _ _ _ _ _ => pg_name (i := 6) sc27.nd rfl (Or.inl rfl)) (fun _ _ _ _ _ => pts_nil) (fun _ _ _ _ _ => (pe_callB (maxK K rfl rfl) (by rfl) T.z_max (by decide +kernel) (pa_cons (pe_fr (pe_lc (own := [("_law_many", 7)]) (g := gName 7) rfl sc27.nd (piK K rfl (pv 6)) (blkOk_by (N := N_law_frames) (sc := relS _ (defScope s_law_frames)) (by decide +kernel)) (fun _ _ _ _ _ => pg_name (i := 7) sc27.nd rfl (Or.inl rfl)) (fun _ _ _ _ _ => pts_nil) (fun _ _ _ _ _ => (pe_callB call_absA (by rfl) T.z_abs (by decide +kernel) (pa_cons (pv 7) pa_nil))))) pa_nil))))) pa_nil)) pe_int (nomark _)) (pss_one (ps_ret pe_non)) pss_nil)
      (pss_one (ps_expr (pe_bm PySem.F.plainAttrs_list PySem.F.slot_list_append PySem.F.type_list_append mt_append (pv 3) (pa_cons (pe_tup (pa_cons (pv 0) (pa_cons (pv 2) pa_nil))) pa_nil)))))))
      (pss_one (ps_ret (pe_fr (pv 3))))))), ?_⟩
    have hn := hg.le
    have hlen : ∀ {σ' : L2.St} {H' : Hp}, Fz H H' → σ'[0]? = some (some v) → EvD (tCB (rLenA K) (tCons (tVar 0) tNil)) σ' H' (.int (n : Int)) := fun f h =>
      d_eqI (d_len (K := K) (d_var h (Rp.tup_seq ((matT K m).mono f hv)))) (by rw [List.length_map, hg.sq.len])
    refine q_setLc (Rs := (firstFrame n).map rowL) (n_firstC (n := n) (by omega) (hlen (Fz.refl _) rfl) (fun y H1 e1 => hlen (Fz.ex e1) rfl) (fun x => rfl) (fun x y => rfl) (fun x y => rfl) (fun x y => rfl) (fun _ _ => t_yes) (fun _ _ => t_yes)) fun t0 H1 e1 r0 => ?_
    -- found = [(web, table)]
    refine q_new1 (R := wtRp K (m, firstFrame n)) (d_tup (d_cons (d_var rfl ((matT K m).mono (Fz.ex e1) hv)) (d_cons (d_var rfl r0) d_nil)) (by show 2 ≤ 100000; decide)) fun p H3 w0' => ?_
    have e3 : Ex H1 H3 := w0'.2.1
    have w0 := w0'.back e1
    have hsrc : EvI (iSeq K (tVar 1)) [some v, some u, some t0, some (.ref p), none, none, none, none] H3 row.length (fun i => Rp.int ((row.getD i 0 : Nat) : Int)) := by
      have h := i_map (σ := [some v, some u, some t0, some (.ref p), none, none, none, none]) (H := H3) (xs := row) (P := fun x : Nat => Rp.int (x : Int)) 0 (tl := tVar 1) (K := K) (d_var rfl (by
        have := (rowN K row).mono w0.fz hu
        have h2 := Rp.tup_seq this
        rw [List.map_map] at h2
        exact h2))
      exact h
    refine q_forD hsrc fun H4 e4 => ⟨fun i σ' H' => ∃ a b s4 s5 s6 s7, σ' = [some a, some u, some b, some (.ref p), s4, s5, s6, s7] ∧ Fz H4 H' ∧ (matT K (turns m (firstFrame n) (row.take i)).1).is a H' ∧ (matL (turns m (firstFrame n) (row.take i)).2).is b H' ∧ LcW H p ((List.range (i + 1)).map fun i => wtRp K (turns m (firstFrame n) (row.take i))) H',
      ⟨v, t0, _, _, _, _, rfl, Fz.refl _, (matT K m).mono (Fz.ex ((e1.trans e3).trans e4)) hv, (matL _).mono (Fz.ex (e3.trans e4)) r0, w0.ext e4⟩, fun i σ' H' ⟨_, _, _, _, _, _, _, f, _⟩ => f, ?_, ?_⟩
    · rintro i x σ' H5 H6 hi ⟨a, b, s4, s5, s6, s7, rfl, f, ra, rb, wl⟩ e6 rx
      have hxx : row.getD i 0 = row[i] := by simp [hi]
      obtain rfl : x = V.int ((row[i] : Nat) : Int) := by
        rw [← hxx]
        exact rx
      have st := turns_sq (row := row.take i) hg.sq (firstFrame_sq n)
      have gt := turns_good (row := row.take i) (t := firstFrame n) hg (hal.take i)
      have bt := turns_bd (row := row.take i) hg.bd (firstFrame_bd n) (hal.take i)
      obtain ⟨h1, h2, h3⟩ := hal.at hg.sq (firstFrame_sq n) hi
      have htk : turns m (firstFrame n) (row.take (i + 1)) = (behindTurn (turns m (firstFrame n) (row.take i)).1 row[i], frameLines (turns m (firstFrame n) (row.take i)).1 (turns m (firstFrame n) (row.take i)).2 row[i]) := by
        rw [List.take_succ_eq_append_getElem hi, turns_snoc]
      generalize turns m (firstFrame n) (row.take i) = s at st gt bt h2 h3 htk ra rb
      generalize row[i] = x0 at h1 h2 h3 htk
      have ra6 := (matT K _).mono (Fz.ex e6) ra
      have rb6 := (matL _).mono (Fz.ex e6) rb
      refine q_pairD (A := matT K (behindTurn s.1 x0)) (B := matL (frameLines s.1 s.2 x0)) rfl (d_cons (d_call2 (d_var rfl ra6) (d_varV rfl) fun y z H7 e7 ry rz => ⟨y, n, _, x0, by rw [show z = V.int (x0 : Int) from rz], ry, gt, h1, rfl⟩)
        (d_cons (d_call3 (d_var rfl ra6) (d_var rfl rb6) (d_varV rfl) fun y z o H7 e7 ry rz ro => ⟨y, z, n, _, _, x0, by rw [show o = V.int (x0 : Int) from ro], ry, rz, st.1, st.2, bt.1, bt.2, by omega, h1, rfl⟩) d_nil)) fun a' b' H7 e7 qa qb => ?_
      have s1 := st.1.behind x0
      have s2 := st.1.lines st.2 x0
      refine q_when (d_test (d_I0 (g := fun i j => .bl (decide (j < i))) (d_fit hg.pos (by omega) s1 s2 rfl rfl qa qb (fun x => rfl) (fun x => rfl) (fun x y => rfl) (fun x y => rfl) (fun _ _ => t_yes) (fun _ _ => t_yes)) d_c)) (fun hb H8 e8 => ?_) (fun hb H8 e8 => ?_)
      · have hb' : 1000 < fit (behindTurn s.1 x0) (frameLines s.1 s.2 x0) := of_decide_eq_true hb
        have := (fit_ok s1 s2 hg.pos).mpr (by rw [h2, h3]; rfl)
        omega
      · refine s_appW ((wl.ext e6).ext (e7.trans e8)) rfl (R := wtRp K (behindTurn s.1 x0, frameLines s.1 s.2 x0)) (d_tup (d_cons (d_var rfl ((matT K _).mono (Fz.ex e8) qa)) (d_cons (d_var rfl ((matL _).mono (Fz.ex e8) qb)) d_nil)) (by show 2 ≤ 100000; decide)) (by rw [List.length_map, List.length_range]; omega) fun H9 f9 w9 => ?_
        refine ⟨a', b', _, _, _, _, rfl, ((f.trans (Fz.ex e6)).trans (Fz.ex (e7.trans e8))).trans f9, ?_, ?_, ?_⟩
        · rw [htk]
          exact (matT K _).mono ((Fz.ex e8).trans f9) qa
        · rw [htk]
          exact (matL _).mono ((Fz.ex e8).trans f9) qb
        · rw [range_snoc, htk]
          exact w9
    · rintro σ' H5 ⟨a, b, s4, s5, s6, s7, rfl, f, ra, rb, wl⟩
      exact s_retW wl rfl fun H6 e6 r6 => k _ H6 e6 r6
end
end G
set_option maxRecDepth 100000
set_option maxHeartbeats 4000000
/-! W10: _law_green_row. -/
namespace G
open PySem PySem.Spec PyProof.Rows L2 Evl
abbrev LSt := List Nat × Mx × Mx
def lawAdd (s : LSt) : List LSt := ((greensOf s.2.2).filter fun x => isSmall (behindTurn s.2.1 x) && isSmall (frameLines s.2.1 s.2.2 x) && decide (s.1.length < 6)).map fun x => (s.1 ++ [x], behindTurn s.2.1 x, frameLines s.2.1 s.2.2 x)
def lawEnd (s : LSt) : Bool := decide (greensOf s.2.2 = [])
def lawLevel (here : List LSt) : Option (List Nat) := (here.find? lawEnd).map (·.1)
def lawNext (here : List LSt) : List LSt := here.flatMap lawAdd
def lawLoop : Nat → List LSt → Option (List Nat)
  | 0, _ => none
  | k + 1, here => match lawLevel here with
    | some r => some r
    | none => lawLoop k (lawNext here)
def law0 (w : Mx) : List LSt := [([], w, firstFrame w.length)]
def lawRow (w : Mx) : Option (List Nat) := lawLoop 7 (law0 w)
def lawLv (w : Mx) : Nat → List LSt
  | 0 => law0 w
  | t + 1 => lawNext (lawLv w t)
theorem lawLoop_at (m : Mx) : ∀ t, t ≤ 7 → (∀ s, s < t → lawLevel (lawLv m s) = none) → lawRow m = lawLoop (7 - t) (lawLv m t)
  | 0, _, _ => rfl
  | t + 1, ht, h => by
    rw [lawLoop_at m t (by omega) fun s hs => h s (by omega)]
    have e : 7 - t = (7 - (t + 1)) + 1 := by omega
    rw [e]
    show (match lawLevel (lawLv m t) with | some r => some r | none => lawLoop (7 - (t + 1)) (lawNext (lawLv m t))) = _
    rw [h t (by omega)]
    rfl
/-- what holds of a state at level t -/
structure LOk (n t : Nat) (s : LSt) : Prop where
  len : s.1.length = t
  web : GoodW n s.2.1
  sq : Sq n s.2.2
  bd : Bd 1000 s.2.2
theorem lawAdd_ok {n t : Nat} {s s' : LSt} (h : LOk n t s) (hs : s' ∈ lawAdd s) : LOk n (t + 1) s' := by
  unfold lawAdd at hs
  obtain ⟨x, hx, rfl⟩ := List.mem_map.mp hs
  obtain ⟨h1, h2⟩ := List.mem_filter.mp hx
  rw [Bool.and_eq_true, Bool.and_eq_true] at h2
  have hlt := List.mem_range.mp (List.mem_filter.mp h1).1
  rw [h.sq.len] at hlt
  exact ⟨by show (s.1 ++ [x]).length = t + 1; rw [List.length_append, h.len]; rfl, h.web.behind hlt h2.1.1, h.web.sq.lines h.sq x, isSmall_iff.mp h2.1.2⟩
theorem lawAdd_len {n t : Nat} {s : LSt} (h : LOk n t s) : (lawAdd s).length ≤ n := by
  unfold lawAdd
  rw [List.length_map]
  exact Nat.le_trans (List.length_filter_le _ _) (greens_len h.sq)
theorem flat_len {α β : Type} {f : α → List β} {n : Nat} : ∀ {l : List α}, (∀ x, x ∈ l → (f x).length ≤ n) → (l.flatMap f).length ≤ n * l.length
  | [], _ => by simp
  | x :: l, h => by
    rw [List.flatMap_cons, List.length_append, List.length_cons, Nat.mul_succ]
    have := h x (by simp)
    have := flat_len (l := l) fun y hy => h y (List.mem_cons_of_mem _ hy)
    omega
theorem lawLv_ok {n : Nat} {m : Mx} (g : GoodW n m) : ∀ t, (∀ s, s ∈ lawLv m t → LOk n t s) ∧ (lawLv m t).length ≤ n ^ t
  | 0 => by
    refine ⟨fun s hs => ?_, by simp [lawLv, law0]⟩
    have : s = ([], m, firstFrame m.length) := by simpa [lawLv, law0] using hs
    subst this
    rw [g.sq.len]
    exact ⟨rfl, g, firstFrame_sq n, firstFrame_bd n⟩
  | t + 1 => by
    obtain ⟨h1, h2⟩ := lawLv_ok g t
    refine ⟨fun s hs => ?_, ?_⟩
    · obtain ⟨a, ha, hb⟩ := List.mem_flatMap.mp hs
      exact lawAdd_ok (h1 a ha) hb
    · refine Nat.le_trans (flat_len (n := n) fun x hx => lawAdd_len (h1 x hx)) ?_
      rw [Nat.pow_succ, Nat.mul_comm]
      exact Nat.mul_le_mul_right n h2
theorem find_at {α : Type} {p : α → Bool} : ∀ {l : List α} {i : Nat} (h : i < l.length), (∀ s, s ∈ l.take i → p s = false) → p l[i] = true → l.find? p = some l[i]
  | x :: l, 0, _, _, h2 => by
    rw [List.find?_cons, show p x = true from h2]
    rfl
  | x :: l, i + 1, h, h1, h2 => by
    rw [List.find?_cons, h1 x (by simp)]
    exact find_at (l := l) (i := i) (by simpa using h) (fun s hs => h1 s (by simp [hs])) h2
section
variable {P : Program} {w : World} {K : PySem.W.Frag} {mg : Str → Option Value} {base : Heap} {A : Ad}
abbrev lstRp (K : PySem.W.Frag) (s : LSt) : Rp := Rp.tup K [rowN K s.1, matT K s.2.1, matL s.2.2]
def pLawGreen (K : PySem.W.Frag) : Pre := fun vs H R => ∃ v n m, vs = [v] ∧ (matT K m).is v H ∧ GoodW n m ∧ R = optRow K (lawRow m)
theorem ok_law_green_row (T : Txt K mg A) : FnOk P w K mg base CX0 3 (A.a 30) (A.d 30) ["_law_web_here"] (spD (pLawGreen K)) := by
  refine T.d_law_green_row.F.ok sc30 (fun vs H Q E h => ?_) (fun cdv A outer s H vs Q E hr h => ?_)
  · obtain ⟨R, ⟨v, n, m, rfl, _⟩, _⟩ := h
    rfl
  · obtain ⟨R, ⟨v, n, m, rfl, hv, hg, rfl⟩, k⟩ := h
    refine ⟨_, (pss_cons (ps_set (i := 1) sc30.nd rfl (Or.inl rfl) (pe_fr (pe_lst (pa_cons (pe_tup (pa_cons (pe_tup pa_nil) (pa_cons (pv 0) (pa_cons (pe_fr (pe_lc (own := [("_law_y", 8)]) (g := gName 8) rfl sc30.nd (pi_range1 (by rfl) T.z_range (pa_cons (pe_callB (lenK K rfl) (by rfl) T.z_len (by decide +kernel) (pa_cons (pv 0) pa_nil)) pa_nil)) (blkOk_by (N := N_law_green_row) (sc := defScope s_law_green_row) (by decide +kernel)) (fun _ _ _ _ _ => pg_name (i := 8) sc30.nd rfl (Or.inr rfl)) (fun _ _ _ _ _ => pts_nil) (fun _ _ _ _ _ => (pe_fr (pe_lc (own := [("_law_x", 7)]) (g := gName 7) rfl sc30.nd (pi_range1 (by rfl) T.z_range (pa_cons (pe_callB (lenK K rfl) (by rfl) T.z_len (by decide +kernel) (pa_cons (pv 0) pa_nil)) pa_nil)) (blkOk_by (N := N_law_green_row) (sc := relS _ (defScope s_law_green_row)) (by decide +kernel)) (fun _ _ _ _ _ => pg_name (i := 7) sc30.nd rfl (Or.inl rfl)) (fun _ _ _ _ _ => pts_nil) (fun _ _ _ _ _ => (pe_callTy call_intA (by rfl) T.z_int (by decide +kernel) (pa_cons (pe_cmpR op_eq (pv 7) (pv 8) (nomark _)) pa_nil)))))))) pa_nil)))) pa_nil))))
      (pss_cons (ps_for PassesOwn.never rfl (pi_range1 (by rfl) T.z_range (pa_cons pe_int pa_nil)) (pg_name (i := 2) sc30.nd rfl (Or.inl rfl)) (pss_cons (ps_set (i := 3) sc30.nd rfl (Or.inl rfl) (pe_lst pa_nil))
      (pss_cons (ps_for PassesOwn.never rfl (piK K rfl (pv 1)) (pg_tup rfl (pgs_cons (pg_name (i := 4) sc30.nd rfl (Or.inl rfl)) (pgs_cons (pg_name (i := 5) sc30.nd rfl (Or.inl rfl)) (pgs_cons (pg_name (i := 6) sc30.nd rfl (Or.inl rfl)) pgs_nil)))) (pss_cons (ps_if (pt_cmpR (eqDK K rfl hr.units) (pe_call (ok_law_greens T) (hr.mono (by decide)) (by rfl) T.d_law_greens.g T.d_law_greens.F.kp T.d_law_greens.b .nil pass0 (pa_cons (pv 6) pa_nil)) (pe_fr (pe_lst pa_nil)) (nomark _)) (pss_one (ps_ret (pv 4))) pss_nil)
      (pss_one (ps_for PassesOwn.never rfl (piK K rfl (pe_call (ok_law_greens T) (hr.mono (by decide)) (by rfl) T.d_law_greens.g T.d_law_greens.F.kp T.d_law_greens.b .nil pass0 (pa_cons (pv 6) pa_nil))) (pg_name (i := 7) sc30.nd rfl (Or.inl rfl)) (pss_cons (ps_par (i := 9) (j := 10) rfl sc30.nd rfl rfl (by decide) rfl rfl (pa_cons (pe_call (ok_law_turn T) (hr.mono (by decide)) (by rfl) T.d_law_turn.g T.d_law_turn.F.kp T.d_law_turn.b .nil pass0 (pa_cons (pv 5) (pa_cons (pv 7) pa_nil))) (pa_cons (pe_call (ok_law_frame_turn T) (hr.mono (by decide)) (by rfl) T.d_law_frame_turn.g T.d_law_frame_turn.F.kp T.d_law_frame_turn.b .nil pass0 (pa_cons (pv 5) (pa_cons (pv 6) (pa_cons (pv 7) pa_nil)))) pa_nil)) (by rfl))
      (pss_one (ps_if (PW.pt (pw_and (pt_cmpR op_le (pe_callB (maxK K rfl rfl) (by rfl) T.z_max (by decide +kernel) (pa_cons (pe_fr (pe_lc (own := [("_law_line", 11)]) (g := gName 11) rfl sc30.nd (piK K rfl (pe_fr (pe_op op_catF (pe_fr (pe_callTy (lstK K rfl) (by rfl) T.z_list (by decide +kernel) (pa_cons (pv 9) pa_nil))) (pv 10)))) (blkOk_by (N := N_law_green_row) (sc := defScope s_law_green_row) (by decide +kernel)) (fun _ _ _ _ _ => pg_name (i := 11) sc30.nd rfl (Or.inl rfl)) (fun _ _ _ _ _ => pts_nil) (fun _ _ _ _ _ => (pe_callB (maxK K rfl rfl) (by rfl) T.z_max (by decide +kernel) (pa_cons (pe_fr (pe_lc (own := [("_law_many", 12)]) (g := gName 12) rfl sc30.nd (piK K rfl (pv 11)) (blkOk_by (N := N_law_green_row) (sc := relS _ (defScope s_law_green_row)) (by decide +kernel)) (fun _ _ _ _ _ => pg_name (i := 12) sc30.nd rfl (Or.inl rfl)) (fun _ _ _ _ _ => pts_nil) (fun _ _ _ _ _ => (pe_callB call_absA (by rfl) T.z_abs (by decide +kernel) (pa_cons (pv 12) pa_nil))))) pa_nil))))) pa_nil)) pe_int (nomark _)) (pw_and1 (pt_cmpR op_lt (pe_callB (lenK K rfl) (by rfl) T.z_len (by decide +kernel) (pa_cons (pv 4) pa_nil)) pe_int (nomark _))))) (pss_one (ps_expr (pe_bm PySem.F.plainAttrs_list PySem.F.slot_list_append PySem.F.type_list_append mt_append (pv 3) (pa_cons (pe_tup (pa_cons (pe_op (catTK K rfl) (pv 4) (pe_tup (pa_cons (pv 7) pa_nil))) (pa_cons (pv 9) (pa_cons (pv 10) pa_nil)))) pa_nil)))) pss_nil)))))))
      (pss_one (ps_set (i := 1) sc30.nd rfl (Or.inl rfl) (pe_fr (pv 3)))))))
      (pss_one (ps_ret pe_non)))), ?_⟩
    have hn := hg.le
    have hn1 := hg.pos
    have hlen : ∀ {σ' : L2.St} {H' : Hp}, Fz H H' → σ'[0]? = some (some v) → EvD (tCB (rLenA K) (tCons (tVar 0) tNil)) σ' H' (.int (n : Int)) := fun f h =>
      d_eqI (d_len (K := K) (d_var h (Rp.tup_seq ((matT K m).mono f hv)))) (by rw [List.length_map, hg.sq.len])
    refine q_asgD (R := Rp.lst [lstRp K ([], m, firstFrame n)]) (d_lst (d_cons (d_tup (d_cons (d_tup (Rs := []) d_nil (by show 0 ≤ 100000; decide)) (d_cons (d_var rfl hv) (d_cons (n_firstC (n := n) (by omega) (hlen (Fz.refl _) rfl) (fun y H1 e1 => hlen (Fz.ex e1) rfl) (fun x => rfl) (fun x y => rfl) (fun x y => rfl) (fun x y => rfl) (fun _ _ => t_yes) (fun _ _ => t_yes)).d d_nil))) (by show 3 ≤ 100000; decide)) d_nil) (by show 1 ≤ 100000; decide)) fun l0 H1 e1 r0 => ?_
    refine q_forD (n := 7) (E := fun i => .int (i : Int)) (i_rng1 (k := 7) (d_cons d_c d_nil) (by decide) (by decide)) fun H2 e2 => ⟨fun t σ' H' => ∃ hd s2 s3 s4 s5 s6 s7 s8 s9 s10 s11 s12, σ' = [some v, some hd, s2, s3, s4, s5, s6, s7, s8, s9, s10, s11, s12] ∧ Ex H2 H' ∧ (Rp.lst ((lawLv m t).map (lstRp K))).is hd H' ∧ ∀ s, s < t → lawLevel (lawLv m s) = none,
      ⟨l0, _, _, _, _, _, _, _, _, _, _, _, rfl, Ex.refl _, ?_, fun s hs => by omega⟩, fun i σ' H' ⟨_, _, _, _, _, _, _, _, _, _, _, _, _, f, _⟩ => Fz.ex f, ?_, ?_⟩
    · have := (Rp.lst [lstRp K ([], m, firstFrame n)]).mono (Fz.ex e2) r0
      rw [← hg.sq.len] at this
      exact this
    · rintro t x σ' H3 H4 ht ⟨hd, s2, s3, s4, s5, s6, s7, s8, s9, s10, s11, s12, rfl, f, rd, hno⟩ e4 rx
      obtain ⟨lok, llen⟩ := lawLv_ok hg t
      have hcount : (lawLv m t).length ≤ 46656 := by
        refine Nat.le_trans llen ?_
        refine Nat.le_trans (Nat.pow_le_pow_left hn t) ?_
        exact Nat.le_trans (Nat.pow_le_pow_right (by decide) (show t ≤ 6 by omega)) (by decide)
      generalize hL : lawLv m t = here at lok llen hcount rd
      have rd4 := (Rp.lst (here.map (lstRp K))).mono (Fz.ex e4) rd
      refine q_newW fun p H5 w5 => ?_
      refine q_forD (i_map (P := lstRp K) ([], [], []) (d_var rfl (Rp.lst_seq ((Rp.lst (here.map (lstRp K))).mono w5.fz rd4)))) fun H6 e6 => ⟨fun i σ' H' => ∃ s4 s5 s6 s7 s8 s9 s10 s11 s12, σ' = [some v, some hd, some x, some (.ref p), s4, s5, s6, s7, s8, s9, s10, s11, s12] ∧ Fz H6 H' ∧ LcW H4 p ((lawNext (here.take i)).map (lstRp K)) H' ∧ ∀ s, s ∈ here.take i → lawEnd s = false,
        ⟨_, _, _, _, _, _, _, _, _, rfl, Fz.refl _, w5.ext e6, fun s hs => by simp at hs⟩, fun i σ' H' ⟨_, _, _, _, _, _, _, _, _, _, f, _⟩ => f, ?_, ?_⟩
      · rintro i y σ' H7 H8 hi ⟨s4, s5, s6, s7, s8, s9, s10, s11, s12, rfl, f6, w7, hne⟩ e8 ry
        have hgi : here.getD i ([], [], []) = here[i] := by simp [hi]
        have hmem := List.getElem_mem hi
        have htk : here.take (i + 1) = here.take i ++ [here[i]] := List.take_succ_eq_append_getElem hi
        have hfind := find_at (p := lawEnd) hi hne
        rw [hgi] at ry
        have hok := lok _ hmem
        have hl1 : (lawNext (here.take i)).length ≤ 6 * 46656 := by
          refine Nat.le_trans (flat_len (n := n) fun x hx => lawAdd_len (lok x (List.mem_of_mem_take hx))) ?_
          rw [List.length_take]
          exact Nat.mul_le_mul hn (by omega)
        generalize hst : here[i] = st at ry hok htk hfind
        obtain ⟨q, vs, rfl, hq, hall⟩ := ry
        obtain ⟨vt, vn, vl, rfl, rt, rn, rl⟩ := all2_3 hall
        refine ⟨q, _, rfl, hq, rfl, _, _, rfl, _, _, rfl, _, _, rfl, rfl, ?_⟩
        have hgr : ∀ {σ' : L2.St} {H' : Hp}, Fz H8 H' → σ'[6]? = some (some vl) → EvD (tCall (spD (pGreens K)) [] E0 (tCons (tVar 6) tNil)) σ' H' (rowL ((greensOf st.2.2).map fun x : Nat => (x : Int))) := fun f h =>
          d_call1 (A := matS K st.2.2) (d_var h (matL_S _ _ _ ((matL _).mono f rl))) fun a H2 e2 ra => ⟨a, n, _, rfl, ra, hok.sq, hn1, by omega, rfl⟩
        have hif := d_test (d_eqL (K := K) (ms := []) (hgr (Fz.refl _) rfl) (d_lst (Rs := []) (tr := tNil) (σ := [some v, some hd, some x, some (.ref p), some vt, some vn, some vl, s7, s8, s9, s10, s11, s12]) (H := H8) d_nil (by show 0 ≤ 100000; decide)))
        refine q_when hif (fun hb H9 e9 => ?_) (fun hb H9 e9 => ?_)
        · have hb' : greensOf st.2.2 = [] := List.map_eq_nil_iff.mp (of_decide_eq_true hb)
          have hres : lawRow m = some st.1 := by
            rw [lawLoop_at m t (by omega) hno, hL]
            have e : 7 - t = (7 - t - 1) + 1 := by omega
            rw [e]
            show (match lawLevel here with | some r => some r | none => lawLoop (7 - t - 1) (lawNext here)) = _
            unfold lawLevel
            rw [hfind (decide_eq_true hb')]
            rfl
          refine s_retD (d_var rfl ((rowN K st.1).mono (Fz.ex e9) rt)) fun u H10 e10 r10 => k u H10 ?_ ?_
          · exact ((((e1.trans e2).trans f).trans e4).trans (w7.2.1)).trans ((e8.trans e9).trans e10)
          · rw [hres]
            exact r10
        · have hb' : lawEnd st = false := by
            refine decide_eq_false fun h => ?_
            rw [h] at hb
            cases hb
          -- the inner loop
          have hsrc : EvI (iSeq K (tCall (spD (pGreens K)) [] E0 (tCons (tVar 6) tNil))) [some v, some hd, some x, some (.ref p), some vt, some vn, some vl, s7, s8, s9, s10, s11, s12] H9 (greensOf st.2.2).length (fun i => Rp.int (((greensOf st.2.2).getD i 0 : Nat) : Int)) := by
            refine i_map (xs := greensOf st.2.2) (P := fun x : Nat => Rp.int (x : Int)) 0 ?_
            refine (hgr (Fz.ex e9) rfl).le fun v H h => ?_
            have h2 := Rp.lst_seq (K := K) h
            rw [List.map_map] at h2
            exact h2
          have hglt : ∀ x, x ∈ greensOf st.2.2 → x < n := fun x hx => by
            have := List.mem_range.mp (List.mem_filter.mp hx).1
            rw [hok.sq.len] at this
            exact this
          have addp : ∀ l, (((greensOf st.2.2).take l).filter fun x => isSmall (behindTurn st.2.1 x) && isSmall (frameLines st.2.1 st.2.2 x) && decide (st.1.length < 6)).length ≤ n := fun l => by
            refine Nat.le_trans (List.length_filter_le _ _) ?_
            rw [List.length_take]
            have := greens_len hok.sq
            omega
          refine s_forD hsrc fun H10 e10 => ⟨fun l σ' H' => ∃ s7 s8 s9 s10 s11 s12, σ' = [some v, some hd, some x, some (.ref p), some vt, some vn, some vl, s7, s8, s9, s10, s11, s12] ∧ Fz H6 H' ∧ Fz H10 H' ∧
              LcW H4 p ((lawNext (here.take i) ++ (((greensOf st.2.2).take l).filter fun x => isSmall (behindTurn st.2.1 x) && isSmall (frameLines st.2.1 st.2.2 x) && decide (st.1.length < 6)).map fun x => (st.1 ++ [x], behindTurn st.2.1 x, frameLines st.2.1 st.2.2 x)).map (lstRp K)) H',
            ⟨_, _, _, _, _, _, rfl, f6.trans (Fz.ex ((e8.trans e9).trans e10)), Fz.refl _, ?_⟩, fun i σ' H' ⟨_, _, _, _, _, _, _, _, f, _⟩ => f, ?_, ?_⟩
          · have := ((w7.ext e8).ext e9).ext e10
            simpa using this
          · rintro l z σ' H11 H12 hl ⟨s7, s8, s9, s10, s11, s12, rfl, g6, g10, w11⟩ e12 rz
            have hxx : (greensOf st.2.2).getD l 0 = (greensOf st.2.2)[l] := by simp [hl]
            have hxm := List.getElem_mem hl
            have htl := List.take_succ_eq_append_getElem hl
            generalize (greensOf st.2.2)[l] = x0 at hxx hxm htl
            obtain rfl : z = V.int (x0 : Int) := by
              rw [← hxx]
              exact rz
            have hx := hglt _ hxm
            have F12 : Fz H8 H12 := ((Fz.ex (e9.trans e10)).trans g10).trans (Fz.ex e12)
            have rn12 := (matT K _).mono F12 rn
            have rl12 := (matL _).mono F12 rl
            refine q_parD (A := matT K (behindTurn st.2.1 x0)) (B := matL (frameLines st.2.1 st.2.2 x0)) (d_cons (d_call2 (d_var rfl rn12) (d_varV rfl) fun y z H7 e7 ry rz => ⟨y, n, _, x0, by rw [show z = V.int (x0 : Int) from rz], ry, hok.web, hx, rfl⟩)
              (d_cons (d_call3 (d_var rfl rn12) (d_var rfl rl12) (d_varV rfl) fun y z o H7 e7 ry rz ro => ⟨y, z, n, _, _, x0, by rw [show o = V.int (x0 : Int) from ro], ry, rz, hok.web.sq, hok.sq, hok.web.bd, hok.bd, by omega, hx, rfl⟩) d_nil)) fun a' b' H13 e13 qa qb => ?_
            have s1 := hok.web.sq.behind x0
            have s2 := hok.web.sq.lines hok.sq x0
            have hfit := fit_ok s1 s2 hn1
            have F13 := F12.trans (Fz.ex e13)
            have hand : EvT _ _ H13 (decide (fit (behindTurn st.2.1 x0) (frameLines st.2.1 st.2.2 x0) ≤ 1000) && decide (((st.1.map fun x : Nat => (x : Int)).map Rp.int).length < (6 : Int))) := et_and (d_test (d_I0 (g := fun i j => .bl (decide (i ≤ j))) (d_fit (K := K) (vs1 := [11]) (vs2 := [12]) (a := 9) (b := 10) (l := 11) (o := 12) (σ := [some v, some hd, some x, some (.ref p), some vt, some vn, some vl, some (.int (x0 : Int)), s8, some a', some b', s11, s12]) hn1 (by omega) s1 s2 rfl rfl qa qb (fun x => rfl) (fun x => rfl) (fun x y => rfl) (fun x y => rfl) (fun _ _ => t_yes) (fun _ _ => t_yes)) d_c)) fun _ => d_test (d_I0 (g := fun i j => .bl (decide (i < j))) (d_len (K := K) (d_var (i := 4) rfl (Rp.tup_seq ((rowN K st.1).mono F13 rt)))) d_c)
            have hcond : (decide (fit (behindTurn st.2.1 x0) (frameLines st.2.1 st.2.2 x0) ≤ 1000) && decide (((((st.1.map fun x : Nat => (x : Int)).map Rp.int).length : Nat) : Int) < (6 : Int))) = (isSmall (behindTurn st.2.1 x0) && isSmall (frameLines st.2.1 st.2.2 x0) && decide (st.1.length < 6)) := by
              rw [List.length_map, List.length_map]
              congr 1
              · rw [Bool.eq_iff_iff, decide_eq_true_iff, hfit]
              · refine decide_eq_decide.mpr ?_
                omega
            have hstep : ((greensOf st.2.2).take (l + 1)).filter (fun x => isSmall (behindTurn st.2.1 x) && isSmall (frameLines st.2.1 st.2.2 x) && decide (st.1.length < 6)) = ((greensOf st.2.2).take l).filter (fun x => isSmall (behindTurn st.2.1 x) && isSmall (frameLines st.2.1 st.2.2 x) && decide (st.1.length < 6)) ++ (if (isSmall (behindTurn st.2.1 x0) && isSmall (frameLines st.2.1 st.2.2 x0) && decide (st.1.length < 6)) = true then [x0] else []) := by
              rw [htl, List.filter_append, List.filter_cons]
              rfl
            rw [hcond] at hand
            refine s_when hand (fun hc H14 e14 => ?_) (fun hc H14 e14 => ?_)
            · rw [if_pos hc] at hstep
              have F14 := F13.trans (Fz.ex e14)
              refine s_appW (((w11.ext e12).ext e13).ext e14) rfl (R := lstRp K (st.1 ++ [x0], behindTurn st.2.1 x0, frameLines st.2.1 st.2.2 x0)) ?_ ?_ fun H15 f15 w15 => ⟨_, _, _, _, _, _, rfl, ((g6.trans (Fz.ex (e12.trans e13))).trans (Fz.ex e14)).trans f15, ((g10.trans (Fz.ex (e12.trans e13))).trans (Fz.ex e14)).trans f15, ?_⟩
              · refine d_tup (d_cons (d_eqR (d_catT (K := K) (Ss := [Rp.int (x0 : Int)]) (d_var (i := 4) rfl ((rowN K st.1).mono F14 rt)) (d_tup (d_cons (d_varV rfl) d_nil) (by show 1 ≤ 100000; decide)) ?_) ?_) (d_cons (d_var rfl ((matT K _).mono (Fz.ex e14) qa)) (d_cons (d_var rfl ((matL _).mono (Fz.ex e14) qb)) d_nil))) (by show 3 ≤ 100000; decide)
                · rw [List.length_map, List.length_map, hok.len]
                  show t + 1 ≤ 1000000
                  omega
                · show Rp.tup K _ = Rp.tup K _
                  rw [List.map_append, List.map_append]
                  rfl
              · rw [List.length_map, List.length_append, List.length_map]
                have := addp l
                omega
              · rw [hstep]
                simp only [List.map_append, List.append_assoc] at w15 ⊢
                exact w15
            · rw [if_neg (by rw [hc]; decide), List.append_nil] at hstep
              refine ⟨_, _, _, _, _, _, rfl, (g6.trans (Fz.ex (e12.trans e13))).trans (Fz.ex e14), (g10.trans (Fz.ex (e12.trans e13))).trans (Fz.ex e14), ?_⟩
              rw [hstep]
              exact ((w11.ext e12).ext e13).ext e14
          · rintro σ' H11 ⟨s7, s8, s9, s10, s11, s12, rfl, g6, g10, w11⟩
            refine ⟨_, _, _, _, _, _, _, _, _, rfl, g6, ?_, fun s hs => ?_⟩
            · have e : lawNext (here.take (i + 1)) = lawNext (here.take i) ++ lawAdd st := by
                unfold lawNext
                rw [htk, List.flatMap_append]
                simp
              rw [e]
              unfold lawAdd
              rw [List.take_length] at w11
              exact w11
            · rw [htk] at hs
              rcases List.mem_append.mp hs with hs | hs
              · exact hne s hs
              · obtain rfl : s = st := by simpa using hs
                exact hb'
      · rintro σ' H7 ⟨s4, s5, s6, s7, s8, s9, s10, s11, s12, rfl, f6, w7, hne⟩
        rw [List.take_length] at w7 hne
        refine w7.frV (j := 3) rfl fun H8 e8 r8 => ⟨.ref p, _, _, _, _, _, _, _, _, _, _, _, rfl, (f.trans e4).trans e8, ?_, fun s hs => ?_⟩
        · show (Rp.lst ((lawNext (lawLv m t)).map (lstRp K))).is _ H8
          rw [hL]
          exact r8
        · by_cases hst : s < t
          · exact hno s hst
          · have : s = t := by omega
            subst this
            rw [hL]
            unfold lawLevel
            rw [List.find?_eq_none.mpr fun x hx => by rw [hne x hx]; decide]
            rfl
    · rintro σ' H3 ⟨hd, s2, s3, s4, s5, s6, s7, s8, s9, s10, s11, s12, rfl, f, rd, hno⟩
      have hres : lawRow m = none := by
        rw [lawLoop_at m 7 (by omega) hno]
        rfl
      refine s_retD (R := .non) (d_c (v := V.non)) fun u H5 e5 r5 => k u H5 (((e1.trans e2).trans f).trans e5) ?_
      rw [hres]
      exact r5
end
end G
set_option maxRecDepth 100000
set_option maxHeartbeats 1000000
/-! G11: enumerate of a tuple; xs.remove; max of a tuple; comprehensions over a list of one's own. -/
namespace G
open PySem PySem.Spec PyProof.Rows L2 Evl

/-! ### enumerate(tuple) -/
theorem meets_enum1 {v : Value} {o : Obj} {H : Heap → Prop} (B : Begins v o H) :
    Meets (Builtin.«enumerate.__new__» ⟨[.type "enumerate", v], []⟩) (fun _ R s => H s.heap ∧
      R (.ok (.ret (.ref (s.heap.push o).objs.size))) { s with heap := (s.heap.push o).push { cls := .type "enumerate", data := .fields #[.none, .bool false, .ref s.heap.objs.size, rawInt 0, .none, .none] } }) :=
  .of_wp fun prog w A R s h => by
    obtain ⟨hp, g, d, tk, os⟩ := s; obtain ⟨h1, h⟩ := h
    have hsub := sub_enumerate
    have q1 : ∀ {A' : Around} {E : Value → Shared → Prop} {Q : Value → Shared → Prop}, Q (.ref hp.objs.size) ⟨hp.push o, g, d, tk, os⟩ → wpAny (model prog w) A' (pyIter v) Q E ⟨hp, g, d, tk, os⟩ :=
      fun q => B.iter prog w _ _ ⟨hp, g, d, tk, os⟩ _ h1 q
    wp_walk using q1
    refine wpAny_stack_any fun st => wpAny_pure ?_
    split
    · rename_i c _ _ _ _ _
      cases (c == Value.type "enumerate")
      · wp_walk using q1
        exact ⟨_, rfl, h⟩
      · wp_walk using q1
        exact ⟨_, rfl, h⟩
    · wp_walk using q1
      exact ⟨_, rfl, h⟩
theorem call_enum1 {prog : Program} {w : World} {A : Around} {E : Value → Shared → Prop} {s : Shared} {v : Value} {o : Obj} {H : Heap → Prop} {Q : Value → Shared → Prop} (B : Begins v o H) (h1 : H s.heap)
    (h : ∀ h', IsEnum h' (s.heap.objs.size + 1) s.heap.objs.size 0 .none → h'.get? s.heap.objs.size = some o → h'.objs.size = s.heap.objs.size + 2 →
      (∀ b o, s.heap.get? b = some o → h'.get? b = some o) → Q (.ref (s.heap.objs.size + 1)) { s with heap := h' }) :
    wpAny (model prog w) A (call (.type "enumerate") [v]) Q E s := by
  refine callType_new PySem.F.called_enumerate (by decide) (PySem.F.typeCall_enumerate_1 _) (PySem.F.newCall_enumerate_1 _) (fun obj => PySem.F.args_object_init_2 obj _) PySem.F.entry_enumerate_new
    (meets_enum1 B) ⟨h1, ?_⟩
  have hz : (s.heap.push o).objs.size = s.heap.objs.size + 1 := Heap.size_push ..
  show _ ∧ _
  rw [hz]
  have he : IsEnum ((s.heap.push o).push { cls := .type "enumerate", data := .fields #[.none, .bool false, .ref s.heap.objs.size, rawInt 0, .none, .none] }) (s.heap.objs.size + 1) s.heap.objs.size 0 .none := by
    have := Heap.get?_push_size (s.heap.push o) (o := { cls := .type "enumerate", data := .fields #[.none, .bool false, .ref s.heap.objs.size, rawInt 0, .none, .none] }) rfl
    rw [hz] at this; exact this
  refine ⟨⟨_, he, rfl⟩, h _ he (Heap.get?_push_of_some _ (Heap.get?_push_size _ B.free)) (by rw [Heap.size_push, hz]) fun b o x => Heap.get?_push_of_some _ (Heap.get?_push_of_some _ x)⟩
def IteT (K : PySem.W.Frag) (a : Addr) : It :=
  ⟨fun i H => ∃ (xs : List V) (x : V), SqT K H a xs ∧ xs[i]? = some x, fun i H v H' => ∃ T x, v = .ref T ∧ H T = none ∧ H' = upd H T (.tup [.int (i : Nat), x]) ∧ ∀ xs, SqT K H a xs → xs[i]? = some x, fun i H => ∃ xs : List V, SqT K H a xs ∧ xs.length ≤ i⟩
theorem turn_enumT {P : Program} {w : World} {K : PySem.W.Frag} {elts : List Expr} {kk : Nat} {tpos : Pos} (a e it : Addr) :
    Turn P w K (.Tuple elts kk tpos) (IteT K a) [e, it] e (fun i h => (∃ old, IsEnum h e it ((i : Nat) : Int) old) ∧ h.IsTupleIter it a i ∧ e ≠ it) where
  mem := by simp
  obj := fun i h st b hb => by
    obtain ⟨⟨old, he⟩, ⟨o, ho, hc, hd⟩, _⟩ := st
    have e' : b = e ∨ b = it := by simpa using hb
    rcases e' with z | z
    · rw [z]; exact ⟨_, he, fun v q => nomatch q⟩
    · rw [z]; exact ⟨o, ho, fun v q => by rw [hd] at q; cases q⟩
  keep := fun i h h' st k => let ⟨⟨old, he⟩, hi, hne⟩ := st; ⟨⟨old, k e (by simp) _ he⟩, hi.at fun o q => k it (by simp) o q, hne⟩
  item := by
    intro X hP hw hK hc i pins s σ H E I hf st hg
    subst hP hw hK
    obtain ⟨⟨old, he⟩, hit, hne⟩ := st
    obtain ⟨xs, x, hq, hx⟩ := hg
    obtain ⟨its, rv, p, hz⟩ := I.tuple hq
    obtain ⟨u, hu, ru⟩ := rv.get hx
    have hT0 : s.heap.IsTuple a its.toArray := p
    have hae : a ≠ e := fun z => by
      obtain ⟨o, ho, hc', _⟩ := hT0
      rw [z, he] at ho
      cases ho
      have hc2 : Value.type "enumerate" = Value.type "tuple" := hc'
      injection hc2 with h
      revert h
      decide
    have hai : a ≠ it := fun z => by
      obtain ⟨o, ho, hc', _⟩ := hT0
      obtain ⟨o2, ho2, hc2, _⟩ := hit
      rw [z, ho2] at ho
      cases ho
      rw [hc2] at hc'
      injection hc' with h
      revert h
      decide
    have hel : e < s.heap.objs.size := Heap.lt_size he
    have hil : it < s.heap.objs.size := by obtain ⟨_, q, _⟩ := hit; exact Heap.lt_size q
    have hlt : i < its.toArray.size := by
      have := (List.getElem?_eq_some_iff.mp hu).1
      simpa using this
    refine wpAny_pyNext_enum_itemC (Draws.tuple (A := X.A.in1) (I.ok.hd hc) it a hai its.toArray) he ⟨hit, hT0⟩ hlt hne (by simp [hne, Ne.symm hae]) fun x' h' tk hx' ho hst' hT hsz hk => ?_
    obtain rfl : u = x' := by
      have : its[i]? = some x' := by simpa using hx'
      rw [hu] at this
      exact Option.some.inj this
    refine ⟨_, rfl, wpAny_letOwnedTupleGo_enum (s := { s with heap := h', toks := tk + 1 }) ho fun h'' he' sb => ?_⟩
    have hT2 : h''.get? s.heap.objs.size = some { cls := .type "tuple", data := .seq #[.int i tk, u] } := (sb.2 _ (Nat.ne_of_gt hel)).trans hT
    have new : ObjOk X.prog X.w (upd H s.heap.objs.size (.tup [.int (i : Nat), x])) h'' s.heap.objs.size (.tup [.int (i : Nat), x]) :=
      ⟨by show 2 ≤ sizeLine; decide, [.int i tk, u], .cons ⟨_, rfl⟩ (.cons ru .nil), ⟨_, hT2, rfl, _, rfl⟩⟩
    have I1 : Inv X pins σ (upd H s.heap.objs.size (.tup [.int (i : Nat), x])) { s with heap := h'', toks := tk + 1 } :=
      I.turnedNew (ch := [e, it]) (fun b ob hb q => (sb.2 b (fun z => hb (by simp [z]))).trans (hk b ob (fun z => hb (by simp [z])) (fun z => hb (by simp [z])) q)) hf (Nat.le_refl _) new
    refine ⟨.ref s.heap.objs.size, _, I1, rfl, ⟨_, x, rfl, I.hok.fresh (Nat.le_refl _), rfl, fun ys hy => by rw [I.tuple_inj hy hq]; exact hx⟩, ⟨⟨u, ?_⟩, hst'.1.at fun o q => (sb.2 it (Ne.symm hne)).trans q, hne⟩, fun b hb => ?_⟩
    · have e1 : ((i + 1 : Nat) : Int) = (i : Int) + 1 := by omega
      rw [e1]; exact he'
    · have hb' : b < s.heap.objs.size := by
        have e' : b = e ∨ b = it := by simpa using hb
        rcases e' with z | z
        · rw [z]; exact hel
        · rw [z]; exact hil
      rw [upd_ne (Nat.ne_of_lt hb')]
      exact (hf b hb).1
  done := by
    intro X hP hw hK hc i pins s σ H E I hf st hg
    subst hP hw hK
    obtain ⟨⟨old, he⟩, hit, hne⟩ := st
    obtain ⟨xs, hq, hx⟩ := hg
    obtain ⟨its, rv, p, hz⟩ := I.tuple hq
    obtain ⟨f0, f1, f2, f3, f4, f5⟩ := hf it (by simp)
    have hl := rv.length
    have hT : s.TypeIs (.ref e) "enumerate" := ⟨_, he, rfl⟩
    unfold pyNext
    refine wpAny_bind (wpAny_attempt (wpAny_callSpecial?_slot (name := Str.ofString "__next__") hT PySem.F.slot_enumerate_next
      (wpAny_call_entry PySem.F.slot_enumerate_next hT PySem.F.entry_enumerate_next ?_ (PySem.F.args_enumerate_next_1 _))))
    show wpAny _ _ (field (.ref e) 2 >>= _) _ _ _
    refine wpAny_bind (wpAny_field he rfl (x := .ref it) rfl ?_)
    refine wpAny_bind (wpAny_nextOf_tuple_end (A := X.A.in1) (I.ok.hd hc) hit (show s.heap.IsTuple a its.toArray from p) (by simp; omega) fun h' x eb hx' => ?_)
    obtain ⟨o, ho, hc'⟩ := hx'
    refine wpAny_bind (wpAny_isInstance (T := "StopIteration") (b := true) ⟨o, ho, hc'⟩ isSubtype_stop ?_)
    exact wpAny_pure ⟨rfl, I.turned (t' := s.toks) (fun b o hb q => eb b o hb q) f0 f1 f3 f4 f5⟩
  self := fun A i s Q E st h => let ⟨⟨_, he⟩, _⟩ := st; wpAny_pyIter_enum he h
def iEnumT (K : PySem.W.Frag) (ta : TA) : TI := fun σ H R => ta σ H fun vs H1 => ∃ a xs, vs = [.ref a] ∧ SqT K H1 a xs ∧ R (IteT K a) H1
theorem pi_enumT {X : Cx} {e : Expr} {ta : TA} {p pos tpos : Pos} {elts : List Expr} {kk : Nat} (hg : Gl X "enumerate") (hm : X.mg "enumerate" = none) (ha : PA X [e] ta) (hs : starEach [e] X.env = [(false, eval e X.env)] := by rfl) :
    PI X (.Tuple elts kk tpos) (.Call (.Name "enumerate" p) [e] [] pos) (iEnumT X.K ta) := by
  refine ⟨fun pins s σ H R I h => ?_⟩
  refine Call_ (ld_blt I hg hm boot_enumerate (PyProof.Rows.callWith_type1 (thn (ha.run pos pins s σ H _ I h) fun us s1 ⟨vs, H1, I1, r1, q1⟩ => ?_) hs rfl))
  obtain ⟨a, xs, ex, hq, q⟩ := q1
  subst ex
  cases r1 with
  | cons r rr =>
    cases rr
    cases r
    obtain ⟨its, rv, p', hz⟩ := I1.tuple hq
    refine call_enum1 (begins_tuple a its.toArray) p' fun h' he hit hsz hk => wpAny_pyIter_enum he ?_
    have I2 : Inv X pins σ H1 { s1 with heap := h' } := I1.kept (t' := s1.toks) hk
    refine ⟨s1.heap.objs.size + 1, [s1.heap.objs.size + 1, s1.heap.objs.size], _, _, H1, rfl, I2, turn_enumT a (s1.heap.objs.size + 1) s1.heap.objs.size, ⟨⟨.none, he⟩, ⟨_, hit, rfl, rfl⟩, Nat.succ_ne_self _⟩, fun b hb => ?_, q⟩
    have e' : b = s1.heap.objs.size + 1 ∨ b = s1.heap.objs.size := by simpa using hb
    have hle : s1.heap.objs.size ≤ b := by
      rcases e' with z | z
      · rw [z]; exact Nat.le_add_right _ _
      · rw [z]; exact Nat.le_refl _
    exact I1.fpOk hle (I1.hok.fresh hle)
theorem enumTK {X : Cx} (K : PySem.W.Frag) (h : X.K = K) {e : Expr} {ta : TA} {p pos tpos : Pos} {elts : List Expr} {kk : Nat} (hg : Gl X "enumerate") (hm : X.mg "enumerate" = none) (ha : PA X [e] ta) (hs : starEach [e] X.env = [(false, eval e X.env)] := by rfl) :
    PI X (.Tuple elts kk tpos) (.Call (.Name "enumerate" p) [e] [] pos) (iEnumT K ta) := h ▸ pi_enumT hg hm ha hs
/-- pairs of place and item -/
theorem i_enumT {K : PySem.W.Frag} {σ : L2.St} {H : Hp} {tl : TE} {Rs : List Rp} {E : Nat → Rp} (h : EvD tl σ H (.tup K Rs)) (hE : ∀ (i : Nat) (R : Rp), Rs[i]? = some R → (Rp.tup K [.int (i : Int), R]).le (E i)) : EvI (iEnumT K (tCons tl tNil)) σ H Rs.length E := fun H1 e R q =>
  h H1 e _ fun v H2 e2 ⟨p, vs, ev, b, c⟩ => by
    subst ev
    refine ⟨p, vs, rfl, b, q _ H2 e2 ⟨fun H' i f hi => ?_, fun H' f => ?_, fun H' i x H'' f hi y => ?_⟩⟩
    · have hl := c.length
      exact ⟨vs, vs[i]'(by omega), fz_t f b, by simp [show i < vs.length by omega]⟩
    · exact ⟨vs, fz_t f b, by rw [c.length]; exact Nat.le_refl _⟩
    · obtain ⟨T, z, rfl, hT, rfl, hz⟩ := y
      have hx := hz vs (fz_t f b)
      obtain ⟨R', hR, hr⟩ := c.getV hx
      exact ⟨Ex.new hT, hE i R' hR _ _ ⟨T, _, rfl, SqT.of upd_same, .cons rfl (.cons (R'.mono (f.trans (Fz.new hT)) hr) .nil)⟩⟩

/-! ### xs.remove(k), k in xs -/
def noW : WX := fun _ _ _ _ => False
theorem remN {X : Cx} {o e : Expr} {to te : TE} {apos cpos : Pos} (K : PySem.W.Frag) (h : X.K = K) (hc : X.calm = true) (ho : PE X o to) (he : PE X e te) (hbase : attributeBase o "remove" X.env (eval o X.env) = eval o X.env := by rfl)
    (hfew : ((backTo cpos (starEach [e] X.env)).all (fun x => !x.1) && (backToKw cpos (keywordEach [] X.env)).all (fun x => x.1.isSome)
      && decide (([e] : List Expr).length + ([] : List Keyword).length + (if ([] : List Keyword).isEmpty then 0 else 1) < 30)) = true := by rfl)
    (hline : (apos.endLine == cpos.line) = true := by rfl) (hs : starEach [e] X.env = (false, eval e X.env) :: starEach [] X.env := by rfl) (hplain : (backTo cpos (starEach [] X.env)).any (·.1) = false := by rfl) :
    PE X (.Call (.Attribute o "remove" apos) [e] [] cpos) (tRemX K noW to te) :=
  h ▸ pe_remX (W := noW) hc (fun u s' ⟨_, _, _, _, _, _, _, _, _, _, _, _, _, _, _, _, w⟩ => w.elim) ho he hbase hfew hline hs hplain

/-! ### max of a tuple of ints -/
def rMaxT (K : PySem.W.Frag) : List V → Hp → VK → Prop := fun vs H Q => ∃ (a : Addr) (n : Int) (ns : List Int), vs = [V.ref a] ∧ SqT K H a ((n :: ns).map V.int) ∧ Q (.int (imax (n :: ns))) H
theorem reads_ints {h : Heap} : ∀ {ns : List Int} {us : List Value}, Vals (ns.map V.int) us → ∃ as, ReadsAll h us (ns.map PyData.int) as
  | [], _, .nil => ⟨_, .nil⟩
  | n :: ns, _, .cons r t => by
    obtain ⟨as, g⟩ := reads_ints (h := h) (ns := ns) t
    obtain ⟨k, rfl⟩ := (show ∃ t, _ = Value.int n t from r)
    exact ⟨_, .cons (.int n k) g⟩
theorem foldl_max (n : Int) : ∀ (ns : List Int) (m : Int), (m = n ∨ m ∈ ns) ∧ (∀ y, y = n ∨ y ∈ ns → y ≤ m) → ns.foldl max n = m
  | [], m, ⟨h1, h2⟩ => by
    rcases h1 with h | h
    · exact h.symm
    · cases h
  | a :: ns, m, ⟨h1, h2⟩ => by
    show ns.foldl max (max n a) = m
    have ha := h2 a (.inr (by simp))
    have hn := h2 n (.inl rfl)
    refine foldl_max (max n a) ns m ⟨?_, fun y hy => ?_⟩
    · rcases h1 with h | h
      · left
        omega
      · rcases List.mem_cons.mp h with h | h
        · left
          omega
        · exact .inr h
    · rcases hy with h | h
      · omega
      · exact h2 y (.inr (List.mem_cons_of_mem _ h))
theorem cr_maxT {X : Cx} (hc : X.calm = true) {k : Nat} (hr : Room k X.A) : CallR X (.builtin "max") (rMaxT X.K) := by
  intro pins s σ H vs us Q I rv0 hq
  obtain ⟨a, n, ns, rfl, hs, q⟩ := hq
  obtain ⟨its, rv, hl, _⟩ := I.tuple hs
  rw [Vals.ref1 rv0]
  have hu := hr.units
  obtain ⟨as, hra⟩ := reads_ints (h := s.heap) rv
  have hd := depth_ints (n :: ns)
  refine PySem.W.max_tuple_data (x := .int n) (xs := ns.map .int) (I.ok.hd hc) (show s.heap.IsTuple a its.toArray from hl) hra ⟨fun x hx y hy => ?_, fun x hx => ?_⟩ ?_ fun i v h' tk bs hv hrd hk => ?_
  · have hx' : x ∈ (n :: ns).map PyData.int := hx
    have hy' : y ∈ (n :: ns).map PyData.int := hy
    obtain ⟨i, _, rfl⟩ := List.mem_map.mp hx'
    obtain ⟨j, _, rfl⟩ := List.mem_map.mp hy'
    rfl
  · have hx' : x ∈ (n :: ns).map PyData.int := hx
    obtain ⟨i, _, rfl⟩ := List.mem_map.mp hx'
    intro z
    cases z
  · have : PyData.depthAll (.int n :: ns.map .int) ≤ 1 := hd
    omega
  · rw [PySem.W.maxD_ints] at hrd
    have e : ns.foldl max n = imax (n :: ns) := foldl_max n ns _ ⟨?_, fun y hy => ?_⟩
    · rw [e] at hrd
      cases hrd with
      | int _ t => exact ⟨.int (imax (n :: ns)), H, I.kept hk, ⟨t, rfl⟩, q⟩
    · have := imax_mem (ns := n :: ns) (by simp)
      exact List.mem_cons.mp this
    · exact le_imax (List.mem_cons.mpr hy)
theorem maxTK {X : Cx} (K : PySem.W.Frag) (h : X.K = K) (hc : X.calm = true) {k : Nat} (hr : Room k X.A) : CallR X (.builtin "max") (rMaxT K) := h ▸ cr_maxT hc hr
theorem d_maxT {K : PySem.W.Frag} {σ : L2.St} {H : Hp} {ta : TE} {ns : List Int} (h : EvD ta σ H (rowT K ns)) (h0 : 0 < ns.length) : EvD (tCB (rMaxT K) (tCons ta tNil)) σ H (.int (imax ns)) :=
  d_cb1 h fun v H1 e r Q q => by
    obtain ⟨p, rfl, b⟩ := rowT_sq (K := K) r
    cases ns with
    | nil => cases h0
    | cons n ns => exact ⟨p, n, ns, rfl, b, q _ H1 (Ex.refl _) rfl⟩

/-! ### walks of a list that may still be written to later -/
structure WalkX (J : It) (H : Hp) (n : Nat) (E : Nat → Rp) : Prop where
  go : ∀ H' i, Ex H H' → i < n → J.go i H'
  stop : ∀ H', Ex H H' → J.stop n H'
  yld : ∀ H' i x H'', Ex H H' → i < n → J.yld i H' x H'' → Ex H' H'' ∧ (E i).is x H''
def EvX (wi : TI) (σ : L2.St) (H : Hp) (n : Nat) (E : Nat → Rp) : Prop := ∀ H1, Ex H H1 → ∀ R : It → Hp → Prop, (∀ J H2, Ex H1 H2 → WalkX J H2 n E → R J H2) → wi σ H1 R
section
variable {K : PySem.W.Frag} {σ : L2.St} {H : Hp}
theorem x_own {i : Nat} {p : Addr} {ns : List Nat} (hσ : σ[i]? = some (some (.ref p))) (hp : H p = some (.lst (ns.map fun x : Nat => V.int (x : Int)))) : EvX (iSeq K (tVar i)) σ H ns.length (fun j => .int ((ns.getD j 0 : Nat) : Int)) := fun H1 e R q =>
  ⟨_, hσ, p, rfl, .inl ⟨⟨_, .inl (.inl (e _ _ hp))⟩, q _ H1 (Ex.refl _) ⟨fun H' j f hj => ⟨_, .int ((ns.getD j 0 : Nat) : Int), .inl (.inl (f _ _ (e _ _ hp))), by simp [hj]⟩, fun H' f => ⟨_, .inl (.inl (f _ _ (e _ _ hp))), by simp⟩, fun H' j x H'' f hj y => by
    obtain ⟨rfl, y⟩ := y
    have := y _ (.inl (.inl (f _ _ (e _ _ hp))))
    refine ⟨Ex.refl _, ?_⟩
    have e2 : (ns.map fun x : Nat => V.int (x : Int))[j]? = some (.int ((ns.getD j 0 : Nat) : Int)) := by simp [hj]
    rw [e2] at this
    exact (Option.some.inj this).symm⟩⟩⟩
theorem x_lcN {te : TE} {tt : TT} {wi : TI} {n : Nat} {E : Nat → Rp} {vs : List Nat} {j : Nat} (hI : EvX wi σ H n E) (k : Nat → Bool) (o : Nat → Rp) (hn : n ≤ 1000000) (hw : ∀ x, wipe ((wipe σ vs).set j (some x)) vs = wipe σ vs)
    (ht : ∀ (i : Nat) (x : V) H1, Ex H H1 → i < n → (E i).is x H1 → EvT tt ((wipe σ vs).set j (some x)) H1 (k i))
    (he : ∀ (i : Nat) (x : V) H1, Ex H H1 → i < n → k i = true → (E i).is x H1 → EvD te ((wipe σ vs).set j (some x)) H1 (o i)) :
    EvN (tLc wi (gName j) tt te vs) σ H (kept n k o) := fun H1 e Q q =>
  hI H1 e _ fun J H2 e2 w => fun D hD => by
    refine ⟨fun i m H' => m = n - i ∧ i ≤ n ∧ LcW H2 D (kept i k o) H', ⟨n, by simp, Nat.zero_le _, LcW.start hD⟩, ?_⟩
    rintro i m H3 ⟨rfl, hi, p⟩
    by_cases hlt : i < n
    · refine .inr ⟨w.go H3 i p.2.1 hlt, fun H' => LcW H2 D (kept (i + 1) k o) H', fun H' p' => ⟨n - (i + 1), by omega, rfl, hlt, p'⟩, fun x H4 y => ?_⟩
      obtain ⟨e4, hx⟩ := w.yld H3 i x H4 p.2.1 hlt y
      have e04 := ((e.trans e2).trans p.2.1).trans e4
      refine ⟨hw x, t_go (ht i x H4 e04 hlt hx) fun H6 e6 => ?_⟩
      have p6 := (p.ext e4).ext e6
      cases hk : k i with
      | true =>
        show te _ H6 fun y H7 => ∃ acc, H7 D = some (.lst acc) ∧ acc.length < sizeLine ∧ _
        refine ((he i x H4 e04 hlt hk hx).up e6).go fun y H7 e7 r7 => ?_
        obtain ⟨acc, h1, h2, h3⟩ := (p6.ext e7).push r7 (by have := kept_len i k o; omega)
        rw [← kept_yes hk] at h3
        exact ⟨acc, h1, h2, h3⟩
      | false =>
        show LcW H2 D (kept (i + 1) k o) H6
        rw [← kept_no (o := o) hk] at p6
        exact p6
    · have e0 : i = n := by omega
      subst e0
      exact .inl ⟨w.stop H3 p.2.1, q D H3 (p.back e2)⟩
end
end G
set_option maxRecDepth 100000
set_option maxHeartbeats 4000000
/-! W11: _law_alike (of ints, None, rows of ints), _law_sinks. -/
namespace G
open PySem PySem.Spec PyProof.Rows L2 Evl
section
variable {P : Program} {w : World} {K : PySem.W.Frag} {mg : Str → Option Value} {base : Heap} {A : Ad}
theorem d_isN {σ : L2.St} {H : Hp} {ta : TE} {R : Rp} {b : Bool} (ha : EvD ta σ H R) (h : ∀ v H, R.is v H → decide (v = .non) = b) : EvD (tOp (fun x y H Q => y = .non ∧ Q (.bl (decide (x = .non))) H) ta (tC .non)) σ H (.bl b) := fun H1 e Q q =>
  ha H1 e _ fun v H2 e2 r2 => ⟨rfl, by rw [h v H2 r2]; exact q _ H2 e2 rfl⟩
theorem d_notN {σ : L2.St} {H : Hp} {ta : TE} {R : Rp} {b : Bool} (ha : EvD ta σ H R) (h : ∀ v H, R.is v H → (!decide (v = .non)) = b) : EvD (tOp (fun x y H Q => y = .non ∧ Q (.bl (!decide (x = .non))) H) ta (tC .non)) σ H (.bl b) := fun H1 e Q q =>
  ha H1 e _ fun v H2 e2 r2 => ⟨rfl, by rw [h v H2 r2]; exact q _ H2 e2 rfl⟩
def pAlike0 : Pre := fun vs H R => (∃ i : Int, vs = [.int i, .int i] ∨ vs = [.non, .non]) ∧ R = .bl true
theorem ok_law_alike0 (T : Txt K mg A) : FnOk P w K mg base CX0 1 (A.a 23) (A.d 23) ["_law_found", "_law_due"] (spD pAlike0) := by
  refine T.d_law_alike.F.ok sc23 (fun vs H Q E h => ?_) (fun cdv A outer s H vs Q E hr h => ?_)
  · obtain ⟨R, ⟨⟨i, rfl | rfl⟩, _⟩, _⟩ := h <;> rfl
  · obtain ⟨R, ⟨⟨i, hvs⟩, rfl⟩, k⟩ := h
    refine ⟨_, (pss_cons (ps_if (pt_val (pe_callB (isiTK K rfl) (by rfl) T.z_isinstance (by decide +kernel) (pa_cons (pv 1) (pa_cons (pe_tup (pa_cons (pe_bltn (v := .ty "tuple") (by rfl) T.z_tuple (by decide +kernel) rfl) (pa_cons (pe_bltn (v := .ty "list") (by rfl) T.z_list (by decide +kernel) rfl) pa_nil))) pa_nil)))) pss_never pss_nil)
      (pss_cons (ps_if (pt_val (pe_callB (isiK K rfl) (by rfl) T.z_isinstance (by decide +kernel) (pa_cons (pv 1) (pa_cons (pe_bltn (v := .ty "dict") (by rfl) T.z_dict (by decide +kernel) rfl) pa_nil)))) pss_never pss_nil)
      (pss_cons (ps_if (PW.pt (pw_or (pt_cmpR op_isN (pv 1) pe_non (nomark _)) (pw_or1 (pt_val (pe_callB (isiK K rfl) (by rfl) T.z_isinstance (by decide +kernel) (pa_cons (pv 1) (pa_cons (pe_bltn (v := .ty "str") (by rfl) T.z_str (by decide +kernel) rfl) pa_nil))))))) (pss_one (ps_ret (pe_and (pe_cmpR op_eq (pv 0) (pv 1) (nomark _)) (pe_one (pe_cmpR op_eq (pe_callB (isiK K rfl) (by rfl) T.z_isinstance (by decide +kernel) (pa_cons (pv 0) (pa_cons (pe_bltn (v := .ty "str") (by rfl) T.z_str (by decide +kernel) rfl) pa_nil))) (pe_callB (isiK K rfl) (by rfl) T.z_isinstance (by decide +kernel) (pa_cons (pv 1) (pa_cons (pe_bltn (v := .ty "str") (by rfl) T.z_str (by decide +kernel) rfl) pa_nil))) (nomark _)))))) pss_nil)
      (pss_one (ps_ret (pe_and (pe_callB (isiK K rfl) (by rfl) T.z_isinstance (by decide +kernel) (pa_cons (pv 0) (pa_cons (pe_bltn (v := .ty "int") (by rfl) T.z_int (by decide +kernel) rfl) pa_nil))) (pe_and (pe_cmpR op_eq (pe_callB (isiK K rfl) (by rfl) T.z_isinstance (by decide +kernel) (pa_cons (pv 0) (pa_cons (pe_bltn (v := .ty "bool") (by rfl) T.z_bool (by decide +kernel) rfl) pa_nil))) (pe_callB (isiK K rfl) (by rfl) T.z_isinstance (by decide +kernel) (pa_cons (pv 1) (pa_cons (pe_bltn (v := .ty "bool") (by rfl) T.z_bool (by decide +kernel) rfl) pa_nil))) (nomark _)) (pe_one (pe_cmpR op_eq (pv 0) (pv 1) (nomark _)))))))))), ?_⟩
    rcases hvs with rfl | rfl
    · have h0 : ∀ {H'}, EvD (tVar 0) (start N_law_alike [.int i, .int i]) H' (.int i) := d_varV rfl
      have h1 : ∀ {H'}, EvD (tVar 1) (start N_law_alike [.int i, .int i]) H' (.int i) := d_varV rfl
      refine q_when (b := false) (d_tB (d_isiT (K := K) (c := "tuple") (c' := "list") (b := false) (b' := false) ty_int (by decide +kernel) (by decide +kernel) h1)) (fun hb => by cases hb) fun _ H1 e1 => ?_
      refine q_when (b := false) (d_tB (d_isi (K := K) (c := "dict") (b := false) ty_int (by decide +kernel) h1)) (fun hb => by cases hb) fun _ H2 e2 => ?_
      refine q_when (b := false) (et_is (et_or (d_test (d_isN (b := false) h1 fun v H h => by obtain rfl : v = V.int i := h; rfl)) fun _ => d_tB (d_isi (K := K) (c := "str") (b := false) ty_int (by decide +kernel) h1)) (by rfl)) (fun hb => by cases hb) fun _ H3 e3 => ?_
      refine s_retD (R := .bl true) (d_eqB (d_andV (d_isi (K := K) (c := "int") (b := true) ty_int (by decide +kernel) h0) fun _ => d_andV (d_eq (by rfl) (d_isi (K := K) (c := "bool") (b := false) ty_int (by decide +kernel) h0) (d_isi (K := K) (c := "bool") (b := false) ty_int (by decide +kernel) h1)) fun _ => d_eq (by rfl) h0 h1) (by simp)) fun v H4 e4 r4 => k v H4 (((e1.trans e2).trans e3).trans e4) r4
    · have h0 : ∀ {H'}, EvD (tVar 0) (start N_law_alike [.non, .non]) H' .non := d_varV rfl
      have h1 : ∀ {H'}, EvD (tVar 1) (start N_law_alike [.non, .non]) H' .non := d_varV rfl
      refine q_when (b := false) (d_tB (d_isiT (K := K) (c := "tuple") (c' := "list") (b := false) (b' := false) ty_non (by decide +kernel) (by decide +kernel) h1)) (fun hb => by cases hb) fun _ H1 e1 => ?_
      refine q_when (b := false) (d_tB (d_isi (K := K) (c := "dict") (b := false) ty_non (by decide +kernel) h1)) (fun hb => by cases hb) fun _ H2 e2 => ?_
      refine q_when (b := true) (et_is (et_or (b := false) (d_test (d_isN (b := true) h1 fun v H h => by obtain rfl : v = V.non := h; rfl)) fun h => by cases h) (by rfl)) (fun _ H3 e3 => ?_) (fun hb => by cases hb)
      refine s_retD (R := .bl true) (d_eqB (d_andV (d_eq (by rfl) h0 h1) fun _ => d_eq (by rfl) (d_isi (K := K) (c := "str") (b := false) ty_non (by decide +kernel) h0) (d_isi (K := K) (c := "str") (b := false) ty_non (by decide +kernel) h1)) (by simp)) fun v H4 e4 r4 => k v H4 (((e1.trans e2).trans e3).trans e4) r4
def pAlike (K : PySem.W.Frag) : Pre := fun vs H R => ∃ v u r, vs = [v, u] ∧ (optRow K r).is v H ∧ (optRow K r).is u H ∧ (∀ x, r = some x → x.length ≤ 1000) ∧ R = .bl true
theorem ok_law_alike (T : Txt K mg A) : FnOk P w K mg base CX0 2 (A.a 23) (A.d 23) ["_law_found", "_law_due"] (spD (pAlike K)) := by
  refine T.d_law_alike.F.ok sc23 (fun vs H Q E h => ?_) (fun cdv A outer s H vs Q E hr h => ?_)
  · obtain ⟨R, ⟨v, u, r, rfl, _⟩, _⟩ := h
    rfl
  · obtain ⟨R, ⟨v, u, r, rfl, hv, hu, hl, rfl⟩, k⟩ := h
    refine ⟨_, (pss_cons (ps_if (pt_val (pe_callB (isiTK K rfl) (by rfl) T.z_isinstance (by decide +kernel) (pa_cons (pv 1) (pa_cons (pe_tup (pa_cons (pe_bltn (v := .ty "tuple") (by rfl) T.z_tuple (by decide +kernel) rfl) (pa_cons (pe_bltn (v := .ty "list") (by rfl) T.z_list (by decide +kernel) rfl) pa_nil))) pa_nil)))) (pss_cons (ps_if (PW.pt (pw_or (pt_not (pt_val (pe_callB (isiTK K rfl) (by rfl) T.z_isinstance (by decide +kernel) (pa_cons (pv 0) (pa_cons (pe_tup (pa_cons (pe_bltn (v := .ty "tuple") (by rfl) T.z_tuple (by decide +kernel) rfl) (pa_cons (pe_bltn (v := .ty "list") (by rfl) T.z_list (by decide +kernel) rfl) pa_nil))) pa_nil))))) (pw_or1 (pt_cmpR op_ne (pe_callB (isiK K rfl) (by rfl) T.z_isinstance (by decide +kernel) (pa_cons (pv 0) (pa_cons (pe_bltn (v := .ty "list") (by rfl) T.z_list (by decide +kernel) rfl) pa_nil))) (pe_callB (isiK K rfl) (by rfl) T.z_isinstance (by decide +kernel) (pa_cons (pv 1) (pa_cons (pe_bltn (v := .ty "list") (by rfl) T.z_list (by decide +kernel) rfl) pa_nil))) (nomark _))))) (pss_one (ps_ret pe_bl)) pss_nil)
      (pss_cons (ps_if (pt_cmpR op_ne (pe_callB (lenK K rfl) (by rfl) T.z_len (by decide +kernel) (pa_cons (pv 0) pa_nil)) (pe_callB (lenK K rfl) (by rfl) T.z_len (by decide +kernel) (pa_cons (pv 1) pa_nil)) (nomark _)) (pss_one (ps_ret pe_bl)) pss_nil)
      (pss_one (ps_ret (pe_cmpR (eqDK K rfl hr.units) (pe_fr (pe_lc (own := [("_law_k", 2)]) (g := gName 2) rfl sc23.nd (pi_range1 (by rfl) T.z_range (pa_cons (pe_callB (lenK K rfl) (by rfl) T.z_len (by decide +kernel) (pa_cons (pv 1) pa_nil)) pa_nil)) (blkOk_by (N := N_law_alike) (sc := defScope s_law_alike) (by decide +kernel)) (fun _ _ _ _ _ => pg_name (i := 2) sc23.nd rfl (Or.inl rfl)) (fun _ _ _ _ _ => pts_one (pt_not (pt_val (pe_call (ok_law_alike0 T) (hr.mono (by decide)) (by rfl) T.d_law_alike.g T.d_law_alike.F.kp T.d_law_alike.b .nil pass0 (pa_cons (pe_ix (ixK K rfl) (pv 0) (pv 2) (fun _ _ => rfl)) (pa_cons (pe_ix (ixK K rfl) (pv 1) (pv 2) (fun _ _ => rfl)) pa_nil)))))) (fun _ _ _ _ _ => (pv 2)))) (pe_fr (pe_lst pa_nil)) (nomark _)))))) pss_nil)
      (pss_cons (ps_if (pt_val (pe_callB (isiK K rfl) (by rfl) T.z_isinstance (by decide +kernel) (pa_cons (pv 1) (pa_cons (pe_bltn (v := .ty "dict") (by rfl) T.z_dict (by decide +kernel) rfl) pa_nil)))) pss_never pss_nil)
      (pss_cons (ps_if (PW.pt (pw_or (pt_cmpR op_isN (pv 1) pe_non (nomark _)) (pw_or1 (pt_val (pe_callB (isiK K rfl) (by rfl) T.z_isinstance (by decide +kernel) (pa_cons (pv 1) (pa_cons (pe_bltn (v := .ty "str") (by rfl) T.z_str (by decide +kernel) rfl) pa_nil))))))) (pss_one (ps_ret (pe_and (pe_cmpR op_eq (pv 0) (pv 1) (nomark _)) (pe_one (pe_cmpR op_eq (pe_callB (isiK K rfl) (by rfl) T.z_isinstance (by decide +kernel) (pa_cons (pv 0) (pa_cons (pe_bltn (v := .ty "str") (by rfl) T.z_str (by decide +kernel) rfl) pa_nil))) (pe_callB (isiK K rfl) (by rfl) T.z_isinstance (by decide +kernel) (pa_cons (pv 1) (pa_cons (pe_bltn (v := .ty "str") (by rfl) T.z_str (by decide +kernel) rfl) pa_nil))) (nomark _)))))) pss_nil)
      (pss_one (ps_ret (pe_and (pe_callB (isiK K rfl) (by rfl) T.z_isinstance (by decide +kernel) (pa_cons (pv 0) (pa_cons (pe_bltn (v := .ty "int") (by rfl) T.z_int (by decide +kernel) rfl) pa_nil))) (pe_and (pe_cmpR op_eq (pe_callB (isiK K rfl) (by rfl) T.z_isinstance (by decide +kernel) (pa_cons (pv 0) (pa_cons (pe_bltn (v := .ty "bool") (by rfl) T.z_bool (by decide +kernel) rfl) pa_nil))) (pe_callB (isiK K rfl) (by rfl) T.z_isinstance (by decide +kernel) (pa_cons (pv 1) (pa_cons (pe_bltn (v := .ty "bool") (by rfl) T.z_bool (by decide +kernel) rfl) pa_nil))) (nomark _)) (pe_one (pe_cmpR op_eq (pv 0) (pv 1) (nomark _)))))))))), ?_⟩
    cases r with
    | none =>
      obtain rfl : v = V.non := hv
      obtain rfl : u = V.non := hu
      have h0 : ∀ {H'}, EvD (tVar 0) (start N_law_alike [.non, .non]) H' .non := d_varV rfl
      have h1 : ∀ {H'}, EvD (tVar 1) (start N_law_alike [.non, .non]) H' .non := d_varV rfl
      refine q_when (b := false) (d_tB (d_isiT (K := K) (c := "tuple") (c' := "list") (b := false) (b' := false) ty_non (by decide +kernel) (by decide +kernel) h1)) (fun hb => by cases hb) fun _ H1 e1 => ?_
      refine q_when (b := false) (d_tB (d_isi (K := K) (c := "dict") (b := false) ty_non (by decide +kernel) h1)) (fun hb => by cases hb) fun _ H2 e2 => ?_
      refine q_when (b := true) (et_is (et_or (b := false) (d_test (d_isN (b := true) h1 fun v H h => by obtain rfl : v = V.non := h; rfl)) fun h => by cases h) (by rfl)) (fun _ H3 e3 => ?_) (fun hb => by cases hb)
      refine s_retD (R := .bl true) (d_eqB (d_andV (d_eq (by rfl) h0 h1) fun _ => d_eq (by rfl) (d_isi (K := K) (c := "str") (b := false) ty_non (by decide +kernel) h0) (d_isi (K := K) (c := "str") (b := false) ty_non (by decide +kernel) h1)) (by simp)) fun v H4 e4 r4 => k v H4 (((e1.trans e2).trans e3).trans e4) r4
    | some r =>
      have hl := hl r rfl
      have h0 : ∀ {σ' : L2.St} {H'}, Fz H H' → σ'[0]? = some (some v) → EvD (tVar 0) σ' H' (rowN K r) := fun f h => d_var h ((rowN K r).mono f hv)
      have h1 : ∀ {σ' : L2.St} {H'}, Fz H H' → σ'[1]? = some (some u) → EvD (tVar 1) σ' H' (rowN K r) := fun f h => d_var h ((rowN K r).mono f hu)
      have hlen : ((r.map fun x : Nat => (x : Int)).map Rp.int).length = r.length := by rw [List.length_map, List.length_map]
      refine q_ifD (b := true) (d_tB (d_isiT (K := K) (c := "tuple") (c' := "list") (b := true) (b' := false) ty_tup (by decide +kernel) (by decide +kernel) (h1 (Fz.refl _) rfl))) (fun _ H1 e1 => ?_) (fun hb => by cases hb)
      have f1 := Fz.ex e1
      refine q_when (b := false) (et_is (et_or (et_not (d_tB (d_isiT (K := K) (c := "tuple") (c' := "list") (b := true) (b' := false) ty_tup (by decide +kernel) (by decide +kernel) (h0 f1 rfl)))) fun _ => d_test (d_ne (by rfl) (d_isi (K := K) (c := "list") (b := false) ty_tup (by decide +kernel) (h0 f1 rfl)) (d_isi (K := K) (c := "list") (b := false) ty_tup (by decide +kernel) (h1 f1 rfl)))) (by simp)) (fun hb => by cases hb) fun _ H2 e2 => ?_
      have f2 := f1.trans (Fz.ex e2)
      refine q_when (b := false) (et_is (d_test (d_ne (by rfl) (d_len (K := K) ((h0 f2 rfl).le fun _ _ => Rp.tup_seq)) (d_len (K := K) ((h1 f2 rfl).le fun _ _ => Rp.tup_seq)))) (by simp)) (fun hb => by cases hb) fun _ H3 e3 => ?_
      have f3 := f2.trans (Fz.ex e3)
      have hkept : kept r.length (fun _ => false) (fun i => Rp.int (i : Int)) = ([] : List Int).map Rp.int := by simp [kept]
      refine s_retD (R := .bl true) (d_eqB (d_eqL (K := K) (ns := []) (ms := []) ?_ (d_lst d_nil (by show 0 ≤ 100000; decide))) (by simp)) fun v H4 e4 r4 => k v H4 (((e1.trans e2).trans e3).trans e4) r4
      show EvD _ _ _ (Rp.lst (([] : List Int).map Rp.int))
      rw [← hkept]
      refine d_lcN (n := r.length) (i_rng1 (k := ((r.length : Nat) : Int)) (d_cons (d_eqI (d_len (K := K) ((h1 f3 rfl).le fun _ _ => Rp.tup_seq)) (by rw [hlen])) d_nil) (by omega) (by omega)) (fun _ => false) _ (by omega) (fun x => rfl) (fun i x H5 e5 hi rx => ?_) (fun i x H5 e5 hi hk => by cases hk)
      obtain rfl : x = V.int (i : Int) := rx
      have f5 := f3.trans (Fz.ex e5)
      have hget : ((r.map fun x : Nat => (x : Int)).map Rp.int)[i]? = some (.int ((r.getD i 0 : Nat) : Int)) := by
        rw [List.getElem?_map, List.getElem?_map]
        simp [hi]
      refine et_is (et_not (d_tB (d_call2 (R := .bl true) (d_ix (K := K) ((h0 f5 rfl).le fun _ _ => Rp.tup_seq) (d_varV rfl) hget) (d_ix (K := K) ((h1 f5 rfl).le fun _ _ => Rp.tup_seq) (d_varV rfl) hget) fun a b H6 e6 ra rb => ?_))) (by rfl)
      obtain rfl : a = V.int _ := ra
      obtain rfl : b = V.int _ := rb
      exact ⟨⟨_, .inl rfl⟩, rfl⟩
/-! _law_sinks -/
def isSink (w : Mx) (left : List Nat) (x : Nat) : Bool := decide (((left.filter fun z => decide (0 < at2 w x z)).map fun x : Nat => (x : Int)) = [])
def sinkLoop (w : Mx) : Nat → List Nat → List Nat → Option (List Nat)
  | 0, _, found => some found
  | k + 1, left, found => match left.filter (isSink w left) with
    | [] => none
    | x :: _ => sinkLoop w k (left.erase x) (found ++ [x])
def lawSinks (w : Mx) : Option (List Nat) := sinkLoop w w.length (List.range w.length) []
theorem erase_cast : ∀ (l : List Nat) (x : Nat), (l.map fun x : Nat => (x : Int)).erase (x : Int) = (l.erase x).map fun x : Nat => (x : Int)
  | [], _ => rfl
  | a :: l, x => by
    by_cases e : a = x
    · subst e
      rw [List.map_cons, List.erase_cons_head, List.erase_cons_head]
    · rw [List.map_cons, List.erase_cons_tail (by rw [beq_iff_eq]; omega), List.erase_cons_tail (by simpa using e), erase_cast l x]
      rfl
def pSinks (K : PySem.W.Frag) : Pre := fun vs H R => ∃ v n m, vs = [v] ∧ (matT K m).is v H ∧ Sq n m ∧ n ≤ 100 ∧ R = optRow K (lawSinks m)
theorem ok_law_sinks (T : Txt K mg A) : FnOk P w K mg base CX0 1 (A.a 31) (A.d 31) ["_law_web_here"] (spD (pSinks K)) := by
  refine T.d_law_sinks.F.ok sc31 (fun vs H Q E h => ?_) (fun cdv A outer s H vs Q E hr h => ?_)
  · obtain ⟨R, ⟨v, n, m, rfl, _⟩, _⟩ := h
    rfl
  · obtain ⟨R, ⟨v, n, m, rfl, hv, hq, hn, rfl⟩, k⟩ := h
    refine ⟨_, (pss_cons (ps_asg (pe_tup (pa_cons (pe_listRg rfl (by rfl) T.z_list (prg_1 (by rfl) T.z_range (pe_callB (lenK K rfl) (by rfl) T.z_len (by decide +kernel) (pa_cons (pv 0) pa_nil)))) (pa_cons (pe_lst pa_nil) pa_nil))) (pg_tup rfl (pgs_cons (pg_name (i := 2) sc31.nd rfl (Or.inr rfl)) (pgs_cons (pg_name (i := 3) sc31.nd rfl (Or.inl rfl)) pgs_nil))))
      (pss_cons (ps_for PassesOwn.never rfl (pi_range1 (by rfl) T.z_range (pa_cons (pe_callB (lenK K rfl) (by rfl) T.z_len (by decide +kernel) (pa_cons (pv 0) pa_nil)) pa_nil)) (pg_name (i := 1) sc31.nd rfl (Or.inl rfl)) (pss_cons (ps_gh (ps_setLc (i := 4) (own := [("_law_x", 5)]) (g := gName 5) rfl sc31.nd rfl rfl (sw_true rfl rfl rfl (by decide +kernel)) (piK K rfl (pv 2)) (blkOk_by (N := N_law_sinks) (sc := defScope s_law_sinks) (by decide +kernel)) (fun _ _ _ _ _ => pg_name (i := 5) sc31.nd rfl (Or.inr rfl)) (fun _ _ _ _ _ => pts_one (pt_cmpR (eqDK K rfl hr.units) (pe_fr (pe_lc (own := [("_law_z", 6)]) (g := gName 6) rfl sc31.nd (piK K rfl (pv 2)) (blkOk_by (N := N_law_sinks) (sc := relS _ (defScope s_law_sinks)) (by decide +kernel)) (fun _ _ _ _ _ => pg_name (i := 6) sc31.nd rfl (Or.inl rfl)) (fun _ _ _ _ _ => pts_one (pt_cmpR op_gt (pe_ix (ixK K rfl) (pe_ix (ixK K rfl) (pv 0) (pv 5) (fun _ _ => rfl)) (pv 6) (fun _ _ => rfl)) pe_int (nomark _))) (fun _ _ _ _ _ => (pv 6)))) (pe_fr (pe_lst pa_nil)) (nomark _))) (fun _ _ _ _ _ => (pv 5))))
      (pss_cons (ps_if (pt_cmpR (eqDK K rfl hr.units) (pv 4) (pe_fr (pe_lst pa_nil)) (nomark _)) (pss_one (ps_ret pe_non)) pss_nil)
      (pss_cons (ps_expr (pe_bm PySem.F.plainAttrs_list PySem.F.slot_list_append PySem.F.type_list_append mt_append (pv 3) (pa_cons (pe_ix (ixK K rfl) (pv 4) pe_int (fun _ _ => rfl)) pa_nil)))
      (pss_one (ps_expr (remN K rfl rfl (pv 2) (pe_ix (ixK K rfl) (pv 4) pe_int (fun _ _ => rfl)))))))))
      (pss_one (ps_ret (pe_callTy (tupK K rfl) (by rfl) T.z_tuple (by decide +kernel) (pa_cons (pv 3) pa_nil)))))), ?_⟩
    have hlen : ∀ {σ' : L2.St} {H' : Hp}, Fz H H' → σ'[0]? = some (some v) → EvD (tCB (rLenA K) (tCons (tVar 0) tNil)) σ' H' (.int (n : Int)) := fun f h =>
      d_eqI (d_len (K := K) (d_var h (Rp.tup_seq ((matT K m).mono f hv)))) (by rw [List.length_map, hq.len])
    refine seqAsg ((hlen (Fz.refl _) rfl).go fun vn H1 e1 rn => ⟨(n : Int), rn, RgOk.of_le (by omega) (by omega) (by omega) (by omega), fun pl hpl => ⟨by show 0 ≤ sizeLine; decide, fun pf hpf => ⟨by show 2 ≤ sizeLine; decide, fun pt hpt => ⟨pt, _, rfl, SqT.of upd_same, rfl, _, _, rfl, _, _, rfl, rfl, ?_⟩⟩⟩⟩)
    have hrg : rgV 0 (n : Int) = (List.range n).map fun x : Nat => V.int (x : Int) := by
      unfold rgV
      refine List.map_congr_left fun i _ => ?_
      rw [Int.zero_add]
    rw [hrg] at hpf hpt ⊢
    have hne : pl ≠ pf := fun e => by
      rw [e, upd_same] at hpf
      cases hpf
    have hpl0 : H pl = none := fresh_back e1 hpl
    have hpf0 : H pf = none := fresh_back (e1.trans (Ex.new hpl)) hpf
    generalize hH2 : upd (upd (upd H1 pl (.lst ((List.range n).map fun x : Nat => V.int (x : Int)))) pf (.lst [])) pt (.tup [.ref pl, .ref pf]) = H2
    have e2 : Ex H H2 := by
      rw [← hH2]
      exact (e1.trans (Ex.new hpl)).trans ((Ex.new hpf).trans (Ex.new hpt))
    have hL2 : H2 pl = some (.lst ((List.range n).map fun x : Nat => V.int (x : Int))) := by
      rw [← hH2]
      exact ((Ex.new hpf).trans (Ex.new hpt)) _ _ upd_same
    have hF2 : H2 pf = some (.lst (([] : List Nat).map fun x : Nat => V.int (x : Int))) := by
      rw [← hH2]
      exact (Ex.new hpt) _ _ upd_same
    refine q_forD (n := n) (i_rng1 (k := (n : Int)) (d_cons (hlen (Fz.ex e2) rfl) d_nil) (by omega) (by omega)) fun H3 e3 => ⟨fun i σ' H' => ∃ left found s1 s4 s5 s6, σ' = [some v, s1, some (.ref pl), some (.ref pf), s4, s5, s6] ∧ Fz H3 H' ∧ Ex H H' ∧ H' pl = some (.lst (left.map fun x : Nat => V.int (x : Int))) ∧ H' pf = some (.lst (found.map fun x : Nat => V.int (x : Int))) ∧
        lawSinks m = sinkLoop m (n - i) left found ∧ left.length ≤ n ∧ found.length = i ∧ ∀ x, x ∈ left → x < n,
      ⟨List.range n, [], _, _, _, _, rfl, Fz.refl _, e2.trans e3, e3 _ _ hL2, e3 _ _ hF2, by unfold lawSinks; rw [hq.len]; rfl, by simp, rfl, fun x hx => List.mem_range.mp hx⟩, fun i σ' H' ⟨_, _, _, _, _, _, _, f, _⟩ => f, ?_, ?_⟩
    · rintro i xv σ' H4 H5 hi ⟨left, found, s1, s4, s5, s6, rfl, f3, eH, hL, hF, hm, hll, hfl, hlt⟩ e5 rx
      have hL5 := e5 _ _ hL
      have hF5 := e5 _ _ hF
      have eH5 := eH.trans e5
      have hgetlt : ∀ j, j < left.length → left.getD j 0 < n := fun j hj => by
        have e : left.getD j 0 = left[j] := by simp [hj]
        rw [e]
        exact hlt _ (List.getElem_mem hj)
      refine q_setLc (Rs := ((left.filter (isSink m left)).map fun x : Nat => (x : Int)).map Rp.int) ?_ fun vs H6 e6 rs => ?_
      · rw [List.map_map, ← filter_range_getD 0 (isSink m left) (Rp.int ∘ fun x : Nat => (x : Int)) left]
        refine x_lcN (n := left.length) (x_own (K := K) (i := 2) rfl hL5) (fun j => isSink m left (left.getD j 0)) _ (by omega) (fun x => rfl) (fun j x H6 e6 hj rx => ?_) (fun j x H6 e6 hj hk rx => d_var rfl rx)
        obtain rfl : x = V.int ((left.getD j 0 : Nat) : Int) := rx
        have hxlt := hgetlt j hj
        generalize left.getD j 0 = x0 at hxlt
        have h6 : Fz H H6 := Fz.ex (eH5.trans e6)
        refine d_test (d_eqL (K := K) (ns := (left.filter fun z => decide (0 < at2 m x0 z)).map fun x : Nat => (x : Int)) (ms := []) ?_ (d_lst d_nil (by show 0 ≤ 100000; decide)))
        show EvD _ _ _ (Rp.lst _)
        rw [List.map_map, ← filter_range_getD 0 (fun z => decide (0 < at2 m x0 z)) (Rp.int ∘ fun x : Nat => (x : Int)) left]
        refine (x_lcN (n := left.length) (x_own (K := K) (i := 2) rfl (e6 _ _ hL5)) (fun j => decide (0 < at2 m x0 (left.getD j 0))) _ (by omega) (fun x => rfl) (fun l z H7 e7 hl rz => ?_) (fun l z H7 e7 hl hk rz => d_var rfl rz)).d
        obtain rfl : z = V.int ((left.getD l 0 : Nat) : Int) := rz
        exact d_test (d_I0 (g := fun i j => .bl (decide (j < i))) (d_at hq (d_var rfl (matT_S _ _ _ ((matT K m).mono (h6.trans (Fz.ex e7)) hv))) (d_varV rfl) (d_varV rfl) hxlt (hgetlt l hl)) d_c)
      have e6H := eH5.trans e6
      refine q_when (d_test (d_eqL (K := K) (ns := (left.filter (isSink m left)).map fun x : Nat => (x : Int)) (ms := []) (d_var rfl rs) (d_lst d_nil (by show 0 ≤ 100000; decide)))) (fun hb H7 e7 => ?_) (fun hb H7 e7 => ?_)
      · have hb' : left.filter (isSink m left) = [] := List.map_eq_nil_iff.mp (of_decide_eq_true hb)
        refine s_retD (R := .non) (d_c (v := V.non)) fun u H8 e8 r8 => k u H8 ((e6H.trans e7).trans e8) ?_
        have e : n - i = (n - i - 1) + 1 := by omega
        rw [hm, e]
        show (optRow K (match left.filter (isSink m left) with | [] => none | x :: _ => sinkLoop m (n - i - 1) (left.erase x) (found ++ [x]))).is u H8
        rw [hb']
        exact r8
      · cases hfil : left.filter (isSink m left) with
        | nil => rw [hfil] at hb; cases hb
        | cons x rest =>
          rw [hfil] at rs
          have hxm : x ∈ left := by
            have : x ∈ left.filter (isSink m left) := by rw [hfil]; simp
            exact (List.mem_filter.mp this).1
          have rs7 := (Rp.lst _).mono (Fz.ex e7) rs
          have h40 : ∀ {σ' : L2.St} {H'}, Fz H7 H' → σ'[4]? = some (some vs) → EvD (tOp (rIx K) (tVar 4) (tC (.int 0))) σ' H' (.int (x : Int)) := fun f h =>
            d_ix (K := K) (j := 0) (d_var h (Rp.lst_seq ((Rp.lst _).mono f rs7))) d_c rfl
          refine q_appD (l := pf) (e7 _ _ (e6 _ _ hF5)) (d_varV rfl) (h40 (Fz.refl _) rfl) (by rw [List.length_map]; omega) fun u H8 e8 ru => ?_
          obtain rfl : u = V.int (x : Int) := ru
          have hF8 := e8 _ _ (e7 _ _ (e6 _ _ hF5))
          have hL8 := e8 _ _ (e7 _ _ (e6 _ _ hL5))
          generalize hH9 : upd H8 pf (.lst ((found.map fun x : Nat => V.int (x : Int)) ++ [V.int (x : Int)])) = H9
          have hL9 : H9 pl = some (.lst ((left.map fun x : Nat => (x : Int)).map V.int)) := by
            rw [← hH9, upd_ne hne, hL8, List.map_map]
            rfl
          have hF9 : H9 pf = some (.lst ((found ++ [x]).map fun x : Nat => V.int (x : Int))) := by
            rw [← hH9, upd_same, List.map_append]
            rfl
          have f9 : Fz H8 H9 := hH9 ▸ Fz.mut hF8 fun h => h
          have e9 : Ex H H9 := hH9 ▸ Ex.mut ((e6H.trans e7).trans e8) hpf0
          refine ⟨.ref pl, rfl, .inl ⟨rfl, _, sq_of hL9⟩, (h40 ((Fz.ex e8).trans f9) rfl).go fun y H10 e10 ry => ⟨pl, left.map fun x : Nat => (x : Int), (x : Int), rfl, ry, e10 _ _ hL9, fun _ => ?_, fun h => absurd (List.mem_map.mpr ⟨x, hxm, rfl⟩) h⟩⟩
          have hL10 := e10 _ _ hL9
          rw [erase_cast, List.map_map]
          refine ⟨left.erase x, found ++ [x], _, _, _, _, rfl, ?_, Ex.mut (e9.trans e10) hpl0, upd_same, ?_, ?_, ?_, ?_, fun y hy => hlt y (List.mem_of_mem_erase hy)⟩
          · exact ((((((f3.trans (Fz.ex e5)).trans (Fz.ex e6)).trans (Fz.ex e7)).trans (Fz.ex e8)).trans f9).trans (Fz.ex e10)).trans (Fz.mut hL10 fun h => h)
          · rw [upd_ne (Ne.symm hne)]
            exact e10 _ _ hF9
          · have e : n - i = (n - (i + 1)) + 1 := by omega
            rw [hm, e]
            show (match left.filter (isSink m left) with | [] => none | x :: _ => sinkLoop m (n - (i + 1)) (left.erase x) (found ++ [x])) = _
            rw [hfil]
          · exact Nat.le_trans (List.length_erase_le) hll
          · rw [List.length_append, hfl]
            rfl
    · rintro σ' H4 ⟨left, found, s1, s4, s5, s6, rfl, f3, eH, hL, hF, hm, hll, hfl, hlt⟩
      have hm' : lawSinks m = some found := by
        rw [hm, Nat.sub_self]
        rfl
      refine ⟨_, rfl, pf, _, rfl, .inl ⟨.inl (.inl hF), fun l hl => k _ _ (eH.trans (Ex.new hl)) ?_⟩⟩
      rw [hm']
      refine ⟨l, _, rfl, SqT.of upd_same, ?_⟩
      have := ints_all2 (H := upd H4 l (.tup (found.map fun x : Nat => V.int (x : Int)))) (found.map fun x : Nat => (x : Int))
      have e : (found.map fun x : Nat => (x : Int)).map V.int = found.map fun x : Nat => V.int (x : Int) := by
        rw [List.map_map]
        rfl
      rw [e] at this
      exact this
end
end G
set_option maxRecDepth 100000
set_option maxHeartbeats 4000000
/-! W12: law, by what is true of rows (Maths). -/
namespace G
open PySem PySem.Spec PyProof.Rows L2 Evl
/-- what the plain laws tell -/
structure Maths : Prop where
  grow : ∀ (n : Nat) (w : Mx) (row : List Nat), GoodW n w → greenRow w = some row → row.length ≤ 200 ∧ (∀ x, x ∈ row → x < n) ∧ Along w (firstFrame n) row
  same : ∀ (n : Nat) (w : Mx), GoodW n w → greenRow w = lawRow w
  perm : ∀ (n : Nat) (w : Mx) (row : List Nat), n ≤ 4 → WebS n 2 w → greenRow w = some row →
    (∀ line, line ∈ (turns w (firstFrame n) row).2 → imin line = -1 ∧ line.sum = -1 ∧ imax line ≤ 0) ∧ ∀ x, x < n → (col (turns w (firstFrame n) row).2 x).sum = -1
  sinks : ∀ (n : Nat) (w : Mx) (row : List Nat), n ≤ 5 → WebS n 1 w → lawSinks w = some row → row.length ≤ 100 ∧ Along w (firstFrame n) row ∧
    (∀ i, i < row.length → row.getD i 0 ∈ greensOf (turns w (firstFrame n) (row.take i)).2) ∧ greensOf (turns w (firstFrame n) row).2 = [] ∧ greenRow w ≠ none
theorem WebS.good {n : Nat} {s : Int} {w : Mx} (h : WebS n s w) (hn : n ≤ 6) (hs : s ≤ 1000) : GoodW n w :=
  ⟨h.sq, h.pos, hn, fun r hr a ha => by have := h.bd r hr a ha; omega, h.anti⟩
section
variable {P : Program} {w : World} {K : PySem.W.Frag} {mg : Str → Option Value} {base : Heap} {A : Ad}
theorem r_ifT {σ : L2.St} {H0 : Hp} {p : Addr} {ta : TE} {F : Int → Prop} {c a b : Int} (h : EvR K ta σ H0 p F) : EvR K (tIf (tTest (tOp rEq ta (tC (.int c)))) (tC (.int a)) (tC (.int b))) σ H0 p fun t => t = a ∨ t = b := fun H f hr Q q =>
  h H f hr _ fun t H1 ft e1 r1 => ⟨rfl, _, rfl, by
    show if (decide (V.int t = V.int c)) = true then tC (.int a) σ H1 Q else tC (.int b) σ H1 Q
    split
    · exact q _ H1 (.inl rfl) e1 r1
    · exact q _ H1 (.inr rfl) e1 r1⟩
theorem q_web {σ : L2.St} {H : Hp} {p : Addr} {te : TE} {F : Int → Prop} {s : Int} {i j : Nat} {tz : TS} {D : Ends} {E : XK} (hr : RowAt K H p) (hσ : σ[j]? = some (some (.ref p))) (h : EvR K te σ H p F) (hF : ∀ t, F t → 1 ≤ t ∧ t ≤ 6) (h1 : 1 ≤ s) (h2 : s ≤ 2)
    (k : ∀ v (n : Nat) m H' t, F t → (n : Int) ≤ t → WebS n s m → Fz H H' → RowAt K H' p → (matT K m).is v H' → tz D (σ.set i (some v)) H') : tSeq (tAsg (tCall (spWeb K) [] E (tCons (tVar j) (tCons te (tCons (tC (.int s)) tNil)))) (gName i)) tz D σ H :=
  ⟨_, hσ, h.go hr fun t H1 ft e1 r1 => ⟨p, t, s, rfl, r1, (hF t ft).1, (hF t ft).2, h1, h2, fun v n m H' hn hw e2 r2 rv => k v n m H' t ft hn hw (e1.trans e2).fz r2 rv⟩⟩
theorem q_whenJ {σ : L2.St} {H : Hp} {t : TT} {tu tz : TS} {D : Ends} {b : Bool} (Pj : L2.St → Hp → Prop) (h : EvT t σ H b) (hj : ∀ σ' H', Pj σ' H' → tz D σ' H') (h1 : (∀ σ' H', Pj σ' H' → tz D σ' H') → b = true → ∀ H1, Ex H H1 → tu { D with nx := tz D } σ H1)
    (h2 : b = false → ∀ H1, Ex H H1 → Pj σ H1) : tSeq (tIfS t tu tNext) tz D σ H := q_when h (h1 hj) fun hb H1 e1 => hj _ _ (h2 hb H1 e1)
theorem d_ixLast {σ : L2.St} {H : Hp} {ta tb : TE} {Rs : List Rp} {R : Rp} (ha : EvD ta σ H (.lst Rs)) (hb : EvD tb σ H (.int (-1))) (h0 : 0 < Rs.length) (hj : Rs[Rs.length - 1]? = some R) : EvD (tOp (rIx K) ta tb) σ H R := fun H1 e Q q =>
  ha H1 e _ fun v H2 e2 r2 => hb H2 (e.trans e2) _ fun u H3 e3 r3 => by
    obtain ⟨p, vs, rfl, b, c⟩ := r2
    obtain rfl : u = .int (-1) := r3
    obtain ⟨x, hx, rx⟩ := c.get hj
    have hl := c.length
    refine .inl ⟨p, vs, -1, x, rfl, rfl, (fz_f (Fz.ex e3) b).l, ?_, q x H3 (e2.trans e3) (R.mono (Fz.ex e3) rx)⟩
    have e : ixN vs.length (-1) = some (vs.length - 1) := by
      unfold ixN
      have n1 : ¬ (0 : Int) ≤ -1 := by omega
      have n2 : -(vs.length : Int) ≤ -1 := by omega
      rw [if_neg n1, if_pos n2]
      congr 1
      omega
    unfold atI
    rw [e]
    show vs[vs.length - 1]? = some x
    rw [← hl]
    exact hx
def spLaw (K : PySem.W.Frag) : Sp := fun vs H Q _ => ∃ (a : Addr) (ns : List Int), vs = [.ref a] ∧ SqLF K H a (ns.map V.int) ∧ ∀ H', Q (.bl true) H'
theorem kept_none {n : Nat} {k : Nat → Bool} {o : Nat → Rp} (h : ∀ i, i < n → k i = false) : kept n k o = [] := by
  unfold kept
  rw [List.filter_eq_nil_iff.mpr fun i hi => by rw [h i (List.mem_range.mp hi)]; decide]
  rfl
theorem opt_isNon {r : Option (List Nat)} {v : V} {H : Hp} (h : (optRow K r).is v H) : decide (v = .non) = r.isNone := by
  cases r with
  | none =>
    obtain rfl : v = V.non := h
    rfl
  | some r =>
    obtain ⟨p, vs, rfl, _⟩ := h
    rfl
theorem ok_law (M : Maths) (T : Txt K mg A) : FnOk P w K mg base CX0 8 (A.a 32) (A.d 32) ["_law_script"] (spLaw K) := by
  refine T.d_law.F.ok sc32 (fun vs H Q E h => ?_) (fun cdv A outer s H vs Q E hr h => ?_)
  · obtain ⟨a, ns, rfl, _⟩ := h
    rfl
  · obtain ⟨a, ns, rfl, hs, kq⟩ := h
    refine ⟨_, (pss_cons (ps_set (i := 1) sc32.nd rfl (Or.inl rfl) (pe_lst (pa_cons (pv 0) (pa_cons pe_int (pa_cons pe_int (pa_cons pe_int pa_nil))))))
      (pss_cons (ps_set (i := 2) sc32.nd rfl (Or.inl rfl) (pe_call (ok_law_web T) (hr.mono (by decide)) (by rfl) T.d_law_web.g T.d_law_web.F.kp T.d_law_web.b .nil pass0 (pa_cons (pv 1) (pa_cons (pe_ifExp (pt_cmpR op_eq (pe_call (ok_law_taken T) (hr.mono (by decide)) (by rfl) T.d_law_taken.g T.d_law_taken.F.kp T.d_law_taken.b .nil pass0 (pa_cons (pv 1) (pa_cons pe_int pa_nil))) pe_int (nomark _)) pe_int pe_int) (pa_cons pe_int pa_nil)))))
      (pss_cons (ps_set (i := 3) sc32.nd rfl (Or.inl rfl) (pe_call (ok_green_row T) (hr.mono (by decide)) (by rfl) T.d_green_row.g T.d_green_row.F.kp T.d_green_row.b .nil pass0 (pa_cons (pv 2) pa_nil)))
      (pss_cons (ps_if (pt_not (pt_val (pe_call (ok_law_alike T) (hr.mono (by decide)) (by rfl) T.d_law_alike.g T.d_law_alike.F.kp T.d_law_alike.b .nil pass0 (pa_cons (pv 3) (pa_cons (pe_call (ok_law_green_row T) (hr.mono (by decide)) (by rfl) T.d_law_green_row.g T.d_law_green_row.F.kp T.d_law_green_row.b .nil pass0 (pa_cons (pv 2) pa_nil)) pa_nil))))) (pss_one (ps_ret pe_bl)) pss_nil)
      (pss_cons (ps_if (pt_cmpR op_notN (pv 3) pe_non (nomark _)) (pss_cons (ps_set (i := 7) sc32.nd rfl (Or.inr rfl) (pe_ix (ixK K rfl) (pe_call (ok_frame T) (hr.mono (by decide)) (by rfl) T.d_frame.g T.d_frame.F.kp T.d_frame.b .nil pass0 (pa_cons (pv 2) (pa_cons (pv 3) pa_nil))) pe_int (fun _ _ => rfl)))
      (pss_cons (ps_if (pt_cmpR (neDK K rfl hr.units) (pe_fr (pe_lc (own := [("_law_line", 10)]) (g := gName 10) rfl sc32.nd (piK K rfl (pv 7)) (blkOk_by (N := N_law) (sc := defScope s_law) (by decide +kernel)) (fun _ _ _ _ _ => pg_name (i := 10) sc32.nd rfl (Or.inl rfl)) (fun _ _ _ _ _ => pts_one (PW.pt (pw_or (pt_cmpR op_ne (pe_ix (ixK K rfl) (pe_fr (pe_callB (sortTK K rfl) (by rfl) T.z_sorted (by decide +kernel) (pa_cons (pv 10) pa_nil))) pe_int (fun _ _ => rfl)) (pe_op op_sub pe_int pe_int) (nomark _)) (pw_or (pt_cmpR op_ne (pe_callB (sumTK K rfl rfl) (by rfl) T.z_sum (by decide +kernel) (pa_cons (pv 10) pa_nil)) (pe_op op_sub pe_int pe_int) (nomark _)) (pw_or1 (pt_cmpR op_gt (pe_callB (maxTK K rfl rfl hr) (by rfl) T.z_max (by decide +kernel) (pa_cons (pv 10) pa_nil)) pe_int (nomark _))))))) (fun _ _ _ _ _ => pe_int))) (pe_fr (pe_lst pa_nil)) (nomark _)) (pss_one (ps_ret pe_bl)) pss_nil)
      (pss_one (ps_if (pt_cmpR (neDK K rfl hr.units) (pe_fr (pe_lc (own := [("_law_x", 9)]) (g := gName 9) rfl sc32.nd (pi_range1 (by rfl) T.z_range (pa_cons (pe_callB (lenK K rfl) (by rfl) T.z_len (by decide +kernel) (pa_cons (pv 2) pa_nil)) pa_nil)) (blkOk_by (N := N_law) (sc := defScope s_law) (by decide +kernel)) (fun _ _ _ _ _ => pg_name (i := 9) sc32.nd rfl (Or.inl rfl)) (fun _ _ _ _ _ => pts_one (pt_cmpR op_ne (pe_callB (sumK K rfl rfl) (by rfl) T.z_sum (by decide +kernel) (pa_cons (pe_call (ok_law_column T) (hr.mono (by decide)) (by rfl) T.d_law_column.g T.d_law_column.F.kp T.d_law_column.b .nil pass0 (pa_cons (pv 7) (pa_cons (pv 9) pa_nil))) pa_nil)) (pe_op op_sub pe_int pe_int) (nomark _))) (fun _ _ _ _ _ => pe_int))) (pe_fr (pe_lst pa_nil)) (nomark _)) (pss_one (ps_ret pe_bl)) pss_nil)))) pss_nil)
      (pss_cons (ps_set (i := 4) sc32.nd rfl (Or.inl rfl) (pe_call (ok_law_web T) (hr.mono (by decide)) (by rfl) T.d_law_web.g T.d_law_web.F.kp T.d_law_web.b .nil pass0 (pa_cons (pv 1) (pa_cons pe_int (pa_cons pe_int pa_nil)))))
      (pss_cons (ps_set (i := 5) sc32.nd rfl (Or.inl rfl) (pe_call (ok_law_sinks T) (hr.mono (by decide)) (by rfl) T.d_law_sinks.g T.d_law_sinks.F.kp T.d_law_sinks.b .nil pass0 (pa_cons (pv 4) pa_nil)))
      (pss_cons (ps_if (pt_cmpR op_isN (pv 5) pe_non (nomark _)) (pss_one (ps_ret pe_bl)) pss_nil)
      (pss_cons (ps_set (i := 6) sc32.nd rfl (Or.inl rfl) (pe_call (ok_law_frames T) (hr.mono (by decide)) (by rfl) T.d_law_frames.g T.d_law_frames.F.kp T.d_law_frames.b .nil pass0 (pa_cons (pv 4) (pa_cons (pv 5) pa_nil))))
      (pss_cons (ps_for PassesOwn.never rfl (enumTK K rfl (by rfl) T.z_enumerate (pa_cons (pv 5) pa_nil)) (pg_tup rfl (pgs_cons (pg_name (i := 8) sc32.nd rfl (Or.inl rfl)) (pgs_cons (pg_name (i := 9) sc32.nd rfl (Or.inl rfl)) pgs_nil))) (pss_one (ps_if (pt_cmpR (notInK K rfl) (pv 9) (pe_call (ok_law_greens T) (hr.mono (by decide)) (by rfl) T.d_law_greens.g T.d_law_greens.F.kp T.d_law_greens.b .nil pass0 (pa_cons (pe_ix (ixK K rfl) (pe_ix (ixK K rfl) (pv 6) (pv 8) (fun _ _ => rfl)) pe_int (fun _ _ => rfl)) pa_nil)) (by rfl)) (pss_one (ps_ret pe_bl)) pss_nil)))
      (pss_one (ps_ret (pe_and (pe_cmpR (eqDK K rfl hr.units) (pe_call (ok_law_greens T) (hr.mono (by decide)) (by rfl) T.d_law_greens.g T.d_law_greens.F.kp T.d_law_greens.b .nil pass0 (pa_cons (pe_ix (ixK K rfl) (pe_ix (ixK K rfl) (pv 6) (pe_un un_neg pe_int) (fun _ _ => rfl)) pe_int (fun _ _ => rfl)) pa_nil)) (pe_fr (pe_lst pa_nil)) (nomark _)) (pe_one (pe_cmpR op_notN (pe_call (ok_green_row T) (hr.mono (by decide)) (by rfl) T.d_green_row.g T.d_green_row.F.kp T.d_green_row.b .nil pass0 (pa_cons (pv 4) pa_nil)) pe_non (nomark _)))))))))))))))), ?_⟩
    refine ⟨_, rfl, by show 4 ≤ sizeLine; decide, fun p hp => ?_⟩
    have r1 : RowAt K (upd H p (.lst [.ref a, .int 0, .int 7314, .int 0])) p := ⟨a, ns, 0, 7314, 0, upd_same, hs.mono (Fz.new hp), by omega⟩
    generalize upd H p (.lst [.ref a, .int 0, .int 7314, .int 0]) = H1 at r1
    refine q_web r1 rfl (r_ifT (r_taken (E := E0) rfl (fun H1 f => d_c) (by omega) (by omega))) (fun t ht => by omega) (by omega) (by omega) fun v n m H2 t ht hnt hw f2 r2 hv => ?_
    have hn4 : n ≤ 4 := by omega
    have hg := hw.good (by omega) (by omega)
    have hn1 := hg.pos
    have hsame := M.same n m hg
    have hM : ∀ {σ' : L2.St} {H' : Hp}, Fz H2 H' → σ'[2]? = some (some v) → EvD (tVar 2) σ' H' (matT K m) := fun f h => d_var h ((matT K m).mono f hv)
    refine q_asgD (R := optRow K (greenRow m)) (d_call1 (hM (Fz.refl _) rfl) fun a H3 e3 ra => ⟨a, n, m, rfl, ra, hg, rfl⟩) fun fv H3 e3 rf => ?_
    have hlen : ∀ x, greenRow m = some x → x.length ≤ 1000 := fun x hx => by
      have := (M.grow n m x hg hx).1
      omega
    refine q_when (b := false) (et_is (et_not (d_tB (d_call2 (R := .bl true) (d_var rfl rf) (d_call1 (R := optRow K (greenRow m)) (hM (Fz.ex e3) rfl) fun a H3 e3 ra => ⟨a, n, m, rfl, ra, hg, by rw [hsame]; rfl⟩) fun a b H4 e4 ra rb => ⟨a, b, greenRow m, rfl, ra, rb, hlen, rfl⟩))) (by rfl)) (fun hb => by cases hb) fun _ H4 e4 => ?_
    have rf4 := (optRow K (greenRow m)).mono (Fz.ex e4) rf
    have r4 := (r2.ext e3).ext e4
    have f24 : Fz H2 H4 := (Fz.ex e3).trans (Fz.ex e4)
    refine q_whenJ (fun σ' H' => (∃ s4 s5 s6 s7 s8 s9 s10, σ' = [some (.ref a), some (.ref p), some v, some fv, s4, s5, s6, s7, s8, s9, s10]) ∧ RowAt K H' p) (d_test (d_notN (b := (greenRow m).isSome) (d_var rfl rf4) fun v H h => by rw [opt_isNon h]; cases greenRow m <;> rfl)) (fun σ' H5 hj => ?_) (fun hj hb H5 e5 => ?_) fun hb H5 e5 => ⟨⟨_, _, _, _, _, _, _, rfl⟩, r4.ext e5⟩
    · -- behind the first part
      obtain ⟨⟨s4, s5, s6, s7, s8, s9, s10, rfl⟩, r5⟩ := hj
      refine q_web r5 rfl (r_d (i := 5) fun H f => d_c) (fun t ht => by omega) (by omega) (by omega) fun v' n' m' H6 t' ht' hnt' hw' f6 r6 hv' => ?_
      have hn5 : n' ≤ 5 := by omega
      have hg' := hw'.good (by omega) (by omega)
      have hp' := hg'.pos
      have hM' : ∀ {σ' : L2.St} {H' : Hp}, Fz H6 H' → σ'[4]? = some (some v') → EvD (tVar 4) σ' H' (matT K m') := fun f h => d_var h ((matT K m').mono f hv')
      refine q_asgD (R := optRow K (lawSinks m')) (d_call1 (hM' (Fz.refl _) rfl) fun a H3 e3 ra => ⟨a, n', m', rfl, ra, hg'.sq, by omega, rfl⟩) fun tv H7 e7 rt => ?_
      refine q_when (d_test (d_isN (b := (lawSinks m').isNone) (d_var rfl rt) fun v H h => opt_isNon h)) (fun hb H8 e8 => ?_) (fun hb H8 e8 => ?_)
      · exact s_retD (R := .bl true) d_c fun u H9 e9 ru => by
          obtain rfl : u = V.bl true := ru
          exact kq H9
      · cases hsk : lawSinks m' with
        | none => rw [hsk] at hb; cases hb
        | some row =>
          rw [hsk] at rt
          obtain ⟨hrl, hal, hgr, hend, hsome⟩ := M.sinks n' m' row hn5 hw' hsk
          have rt8 := (rowN K row).mono (Fz.ex e8) rt
          refine q_asgD (R := Rp.lst ((List.range (row.length + 1)).map fun i => wtRp K (turns m' (firstFrame n') (row.take i)))) (d_call2 (hM' ((Fz.ex e7).trans (Fz.ex e8)) rfl) (d_var rfl rt8) fun a b H9 e9 ra rb => ⟨a, b, n', m', row, rfl, ra, rb, hg', by omega, hal, rfl⟩) fun sv H9 e9 rs => ?_
          have rt9 := (rowN K row).mono (Fz.ex e9) rt8
          have hst : ∀ {σ' : L2.St} {H' : Hp} {tx : TE} {i : Nat}, Fz H9 H' → σ'[6]? = some (some sv) → i ≤ row.length → EvD tx σ' H' (.int (i : Int)) → EvD (tOp (rIx K) (tVar 6) tx) σ' H' (wtRp K (turns m' (firstFrame n') (row.take i))) := fun {σ' H' tx i} f h hi hx =>
            d_ix (K := K) (j := i) (d_var h (Rp.lst_seq ((Rp.lst _).mono f rs))) hx (by
              rw [List.getElem?_map, List.getElem?_range (by omega)]
              rfl)
          have hgreens : ∀ {σ' : L2.St} {H' : Hp} {te : TE} {i : Nat}, EvD te σ' H' (wtRp K (turns m' (firstFrame n') (row.take i))) → EvD (tCall (spD (pGreens K)) [] E0 (tCons (tOp (rIx K) te (tC (.int 1))) tNil)) σ' H' (rowL ((greensOf (turns m' (firstFrame n') (row.take i)).2).map fun x : Nat => (x : Int))) := fun {σ' H' te i} h => by
            have st := turns_sq (row := row.take i) hg'.sq (firstFrame_sq n')
            exact d_call1 (A := matS K (turns m' (firstFrame n') (row.take i)).2) ((d_ix (K := K) (j := 1) (h.le fun _ _ => Rp.tup_seq) d_c rfl).le (matL_S _)) fun a H2 e2 ra => ⟨a, n', _, rfl, ra, st.2, hp', by omega, rfl⟩
          have hlenr : ((row.map fun x : Nat => (x : Int)).map Rp.int).length = row.length := by rw [List.length_map, List.length_map]
          refine q_forD (n := row.length) (E := fun i => Rp.tup K [.int (i : Int), .int ((row.getD i 0 : Nat) : Int)]) ?_ fun H10 e10 => ⟨fun i σ' H' => ∃ s8 s9, σ' = [some (.ref a), some (.ref p), some v, some fv, some v', some tv, some sv, s7, s8, s9, s10] ∧ Fz H10 H',
            ⟨_, _, rfl, Fz.refl _⟩, fun i σ' H' ⟨_, _, _, f⟩ => f, ?_, ?_⟩
          · have h := i_enumT (K := K) (E := fun i => Rp.tup K [.int (i : Int), .int ((row.getD i 0 : Nat) : Int)]) (d_var (i := 5) (σ := [some (.ref a), some (.ref p), some v, some fv, some v', some tv, some sv, s7, s8, s9, s10]) rfl rt9) fun i R hR => by
              rw [List.getElem?_map, List.getElem?_map] at hR
              cases hx : row[i]? with
              | none => rw [hx] at hR; cases hR
              | some x =>
                rw [hx] at hR
                cases hR
                rw [List.getD_eq_getElem?_getD, hx]
                exact fun _ _ h => h
            rw [hlenr] at h
            exact h
          · rintro i x σ' H11 H12 hi ⟨s8, s9, rfl, f10⟩ e12 rx
            obtain ⟨q, vs, rfl, hq, hall⟩ := rx
            obtain ⟨va, vb, rfl, ra, rb⟩ := all2_2 hall
            obtain rfl : va = V.int (i : Int) := ra
            obtain rfl : vb = V.int ((row.getD i 0 : Nat) : Int) := rb
            refine ⟨q, _, rfl, hq, rfl, _, _, rfl, _, _, rfl, rfl, ?_⟩
            have f12 : Fz H9 H12 := ((Fz.ex e10).trans f10).trans (Fz.ex e12)
            refine s_when (b := false) (et_is (d_test (d_notIn (K := K) (d_varV rfl) ((hgreens (hst f12 rfl (Nat.le_of_lt hi) (d_varV rfl))).le (rowL_S _)))) ?_) (fun hb => by cases hb) fun _ H13 e13 => ⟨_, _, rfl, f10.trans (Fz.ex (e12.trans e13))⟩
            have hm : ((row.getD i 0 : Nat) : Int) ∈ (greensOf (turns m' (firstFrame n') (row.take i)).2).map fun x : Nat => (x : Int) := List.mem_map.mpr ⟨_, hgr i hi, rfl⟩
            rw [decide_eq_true hm]
            rfl
          · rintro σ' H11 ⟨s8, s9, rfl, f10⟩
            have f11 : Fz H9 H11 := (Fz.ex e10).trans f10
            have hlast : EvD (tOp (rIx K) (tVar 6) (tUn (rU fun i => .int (-i)) (tC (.int 1)))) [some (.ref a), some (.ref p), some v, some fv, some v', some tv, some sv, s7, s8, s9, s10] H11 (wtRp K (turns m' (firstFrame n') (row.take row.length))) :=
              d_ixLast (K := K) (d_var rfl ((Rp.lst _).mono f11 rs)) (d_neg (g := fun i => .int (-i)) d_c) (by simp) (by
                rw [List.length_map, List.length_range, List.getElem?_map, List.getElem?_range (by omega)]
                rfl)
            have hg1 := hgreens hlast
            rw [List.take_length, hend] at hg1
            refine s_retD (R := .bl true) (d_eqB (d_andV (d_eqL (K := K) (ns := []) (ms := []) hg1 (d_lst d_nil (by show 0 ≤ 100000; decide))) fun _ => d_notN (b := (greenRow m').isSome) (d_call1 (R := optRow K (greenRow m')) (hM' (((Fz.ex e7).trans (Fz.ex e8)).trans ((Fz.ex e9).trans f11)) rfl) fun a H3 e3 ra => ⟨a, n', m', rfl, ra, hg', rfl⟩) fun v H h => by rw [opt_isNon h]; cases greenRow m' <;> rfl) ?_) fun u H12 e12 ru => by
                obtain rfl : u = V.bl true := ru
                exact kq H12
            cases hgm : greenRow m' with
            | none => exact absurd hgm hsome
            | some r => rfl
    · -- a green row was found
      cases hgm : greenRow m with
      | none => rw [hgm] at hb; cases hb
      | some row =>
        rw [hgm] at rf4
        obtain ⟨hrl, hlt, hal⟩ := M.grow n m row hg hgm
        obtain ⟨hlines, hcols⟩ := M.perm n m row hn4 hw hgm
        have st := turns_sq (row := row) hg.sq (firstFrame_sq n)
        have r5 := r4.ext e5
        refine q_asgD (R := matT K (turns m (firstFrame n) row).2) (d_ix (K := K) (j := 1) ((d_call2 (R := Rp.tup K [matT K (turns m (firstFrame n) row).1, matT K (turns m (firstFrame n) row).2]) (hM (f24.trans (Fz.ex e5)) rfl) (d_var rfl ((rowN K row).mono (Fz.ex e5) rf4)) fun a b H6 e6 ra rb => ⟨a, b, n, m, row, rfl, ra, rb, hg, hrl, hlt, hal, rfl⟩).le fun _ _ => Rp.tup_seq) d_c rfl) fun tv H6 e6 rt => ?_
        generalize (turns m (firstFrame n) row).2 = tt at st hlines hcols rt
        have hrow : ∀ i, i < tt.length → tt.getD i [] ∈ tt := fun i hi => by
          have e : tt.getD i [] = tt[i] := by simp [hi]
          rw [e]
          exact List.getElem_mem hi
        refine q_when (b := false) (et_is (d_test (d_neL (K := K) (ns := []) (ms := []) (?_ : EvD _ _ _ (Rp.lst [])) (d_lst d_nil (by show 0 ≤ 100000; decide)))) (by rfl)) (fun hb => by cases hb) fun _ H7 e7 => ?_
        · rw [← kept_none (n := tt.length) (k := fun _ => false) (o := fun _ => Rp.int 1) fun _ _ => rfl]
          refine d_lcN (i_map (P := rowT K) [] (d_var rfl (Rp.tup_seq rt))) _ _ (by rw [st.2.len]; omega) (fun x => rfl) (fun i x H7 e7 hi rx => ?_) (fun i x H7 e7 hi hk rx => d_c)
          obtain ⟨h1, h2, h3⟩ := hlines _ (hrow i hi)
          have hl : (tt.getD i []).length = n := st.2.row _ (hrow i hi)
          have hx : EvD (tVar 10) _ H7 (rowT K (tt.getD i [])) := d_var (i := 10) (σ := (wipe [some (.ref a), some (.ref p), some v, some fv, none, none, none, some tv, none, none, none] [10]).set 10 (some x)) rfl rx
          refine et_is (et_or (d_test (d_ne (by rfl) (d_sorted0 (K := K) hx (by omega) (by omega)) (d_I0 (g := fun i j => .int (i - j)) d_c d_c))) fun _ => et_or (d_test (d_ne (by rfl) (d_sumT (K := K) hx) (d_I0 (g := fun i j => .int (i - j)) d_c d_c))) fun _ => d_test (d_I0 (g := fun i j => .bl (decide (j < i))) (d_maxT (K := K) hx (by omega)) d_c)) ?_
          rw [h1, h2]
          have : ¬ (0 < imax (tt.getD i [])) := by omega
          rw [decide_eq_false this]
          rfl
        · have hM7 : ∀ {σ' : L2.St} {H' : Hp}, Fz H7 H' → σ'[2]? = some (some v) → EvD (tVar 2) σ' H' (matT K m) := fun f h => hM ((((f24.trans (Fz.ex e5)).trans (Fz.ex e6)).trans (Fz.ex e7)).trans f) h
          refine s_when (b := false) (et_is (d_test (d_neL (K := K) (ns := []) (ms := []) (?_ : EvD _ _ _ (Rp.lst [])) (d_lst d_nil (by show 0 ≤ 100000; decide)))) (by rfl)) (fun hb => by cases hb) fun _ H8 e8 => hj _ _ ⟨⟨_, _, _, _, _, _, _, rfl⟩, ((r5.ext e6).ext e7).ext e8⟩
          rw [← kept_none (n := n) (k := fun _ => false) (o := fun _ => Rp.int 1) fun _ _ => rfl]
          refine d_lcN (n := n) (i_rng1 (k := (n : Int)) (d_cons (d_eqI (d_len (K := K) ((hM7 (Fz.refl _) rfl).le fun _ _ => Rp.tup_seq)) (by rw [List.length_map, hg.sq.len])) d_nil) (by omega) (by omega)) _ _ (by omega) (fun x => rfl) (fun i x H8 e8 hi rx => ?_) (fun i x H8 e8 hi hk rx => d_c)
          obtain rfl : x = V.int (i : Int) := rx
          refine et_is (d_test (d_ne (by rfl) (d_sumL (K := K) (ns := col tt i) (d_call2 (d_var rfl (matT_S _ _ _ ((matT K tt).mono ((Fz.ex e7).trans (Fz.ex e8)) rt))) (d_varV rfl) fun a b H9 e9 ra rb => ⟨a, n, tt, i, by rw [show b = V.int (i : Nat) from rb], ra, st.2, by omega, hi, rfl⟩)) (d_I0 (g := fun i j => .int (i - j)) d_c d_c))) ?_
          rw [hcols i hi]
          rfl
end
end G
set_option maxRecDepth 100000
set_option maxHeartbeats 4000000
/-! J: the top. -/
namespace G
open PySem PySem.Spec PyProof.Rows L2 Evl
theorem all_mk (M : Maths) {P : Program} {w : World} {K : PySem.W.Frag} {h : Heap} {mg : Str → Option Value} {fa f0 f1 f2 f3 f4 f5 f6 f7 f8 f9 f10 f11 f12 f13 f14 f15 f16 f17 f18 f19 f20 f21 f22 f23 f24 f25 f26 f27 f28 f29 f30 f31 f32 : Addr} (X : K.In h) (G : h.Ns mainGlobals mg) (hfa : mg "law" = some (.ref fa))
    {od0 od1 od2 od3 od4 od5 od6 od7 od8 od9 od10 od11 od12 od13 od14 od15 od16 od17 od18 od19 od20 od21 od22 od23 od24 od25 od26 od27 od28 od29 od30 od31 od32 an0 an1 an2 an3 an4 an5 an6 an7 an8 an9 an10 an11 an12 an13 an14 an15 an16 an17 an18 an19 an20 an21 an22 an23 an24 an25 an26 an27 an28 an29 an30 an31 an32 : Option Addr} {sl0 sl1 sl2 sl3 sl4 sl5 sl6 sl7 sl8 sl9 sl10 sl11 sl12 sl13 sl14 sl15 sl16 sl17 sl18 sl19 sl20 sl21 sl22 sl23 sl24 sl25 sl26 sl27 sl28 sl29 sl30 sl31 sl32 : Array (Option Value)} {oc0 oc1 oc2 oc3 oc4 oc5 oc6 oc7 oc8 oc9 oc10 oc11 oc12 oc13 oc14 oc15 oc16 oc17 oc18 oc19 oc20 oc21 oc22 oc23 oc24 oc25 oc26 oc27 oc28 oc29 oc30 oc31 oc32 kV0 kV1 kV2 kV3 kV4 kV5 kV6 kV7 kV8 kV9 kV10 kV11 kV12 kV13 kV14 kV15 kV16 kV17 kV18 kV19 kV20 kV21 kV22 kV23 kV24 kV25 kV26 kV27 kV28 kV29 kV30 kV31 kV32 dc0 dc1 dc2 dc3 dc4 dc5 dc6 dc7 dc8 dc9 dc10 dc11 dc12 dc13 dc14 dc15 dc16 dc17 dc18 dc19 dc20 dc21 dc22 dc23 dc24 dc25 dc26 dc27 dc28 dc29 dc30 dc31 dc32 pm0 pm1 pm2 pm3 pm4 pm5 pm6 pm7 pm8 pm9 pm10 pm11 pm12 pm13 pm14 pm15 pm16 pm17 pm18 pm19 pm20 pm21 pm22 pm23 pm24 pm25 pm26 pm27 pm28 pm29 pm30 pm31 pm32 cd0 cd1 cd2 cd3 cd4 cd5 cd6 cd7 cd8 cd9 cd10 cd11 cd12 cd13 cd14 cd15 cd16 cd17 cd18 cd19 cd20 cd21 cd22 cd23 cd24 cd25 cd26 cd27 cd28 cd29 cd30 cd31 cd32 ct0 ct1 ct2 ct3 ct4 ct5 ct6 ct7 ct8 ct9 ct10 ct11 ct12 ct13 ct14 ct15 ct16 ct17 ct18 ct19 ct20 ct21 ct22 ct23 ct24 ct25 ct26 ct27 ct28 ct29 ct30 ct31 ct32 : Value} {t0 t1 t2 t3 : Tok}
    (a0 : PySem.W.nsIn K mainGlobals "is_integer" = some (some (.ref f0))) (l0 : K.lookup f0 = some ⟨oc0, od0, .func (PySem.W.fnOf "is_integer" "is_integer" (defArgs s_is_integer) (defBody s_is_integer) (defScope s_is_integer) .none kV0 dc0 pm0 an0 cd0 ct0), sl0⟩) (c0 : PySem.W.codeIn K cd0 "is_integer" = true) (k0 : PySem.W.keepIn K (.ref f0) = true)
    (a1 : PySem.W.nsIn K mainGlobals "is_from" = some (some (.ref f1))) (l1 : K.lookup f1 = some ⟨oc1, od1, .func (PySem.W.fnOf "is_from" "is_from" (defArgs s_is_from) (defBody s_is_from) (defScope s_is_from) .none kV1 dc1 pm1 an1 cd1 ct1), sl1⟩) (c1 : PySem.W.codeIn K cd1 "is_from" = true) (k1 : PySem.W.keepIn K (.ref f1) = true)
    (a2 : PySem.W.nsIn K mainGlobals "is_line" = some (some (.ref f2))) (l2 : K.lookup f2 = some ⟨oc2, od2, .func (PySem.W.fnOf "is_line" "is_line" (defArgs s_is_line) (defBody s_is_line) (defScope s_is_line) .none kV2 dc2 pm2 an2 cd2 ct2), sl2⟩) (c2 : PySem.W.codeIn K cd2 "is_line" = true) (k2 : PySem.W.keepIn K (.ref f2) = true)
    (a3 : PySem.W.nsIn K mainGlobals "is_web" = some (some (.ref f3))) (l3 : K.lookup f3 = some ⟨oc3, od3, .func (PySem.W.fnOf "is_web" "is_web" (defArgs s_is_web) (defBody s_is_web) (defScope s_is_web) .none kV3 dc3 pm3 an3 cd3 ct3), sl3⟩) (c3 : PySem.W.codeIn K cd3 "is_web" = true) (k3 : PySem.W.keepIn K (.ref f3) = true)
    (a4 : PySem.W.nsIn K mainGlobals "need_web" = some (some (.ref f4))) (l4 : K.lookup f4 = some ⟨oc4, od4, .func (PySem.W.fnOf "need_web" "need_web" (defArgs s_need_web) (defBody s_need_web) (defScope s_need_web) .none kV4 dc4 pm4 an4 cd4 ct4), sl4⟩) (c4 : PySem.W.codeIn K cd4 "need_web" = true) (k4 : PySem.W.keepIn K (.ref f4) = true)
    (a5 : PySem.W.nsIn K mainGlobals "frozen" = some (some (.ref f5))) (l5 : K.lookup f5 = some ⟨oc5, od5, .func (PySem.W.fnOf "frozen" "frozen" (defArgs s_frozen) (defBody s_frozen) (defScope s_frozen) .none kV5 dc5 pm5 an5 cd5 ct5), sl5⟩) (c5 : PySem.W.codeIn K cd5 "frozen" = true) (k5 : PySem.W.keepIn K (.ref f5) = true)
    (a6 : PySem.W.nsIn K mainGlobals "added_by" = some (some (.ref f6))) (l6 : K.lookup f6 = some ⟨oc6, od6, .func (PySem.W.fnOf "added_by" "added_by" (defArgs s_added_by) (defBody s_added_by) (defScope s_added_by) .none kV6 dc6 pm6 an6 cd6 ct6), sl6⟩) (c6 : PySem.W.codeIn K cd6 "added_by" = true) (k6 : PySem.W.keepIn K (.ref f6) = true)
    (a7 : PySem.W.nsIn K mainGlobals "behind_turn" = some (some (.ref f7))) (l7 : K.lookup f7 = some ⟨oc7, od7, .func (PySem.W.fnOf "behind_turn" "behind_turn" (defArgs s_behind_turn) (defBody s_behind_turn) (defScope s_behind_turn) .none kV7 dc7 pm7 an7 cd7 ct7), sl7⟩) (c7 : PySem.W.codeIn K cd7 "behind_turn" = true) (k7 : PySem.W.keepIn K (.ref f7) = true)
    (a8 : PySem.W.nsIn K mainGlobals "need_small" = some (some (.ref f8))) (l8 : K.lookup f8 = some ⟨oc8, od8, .func (PySem.W.fnOf "need_small" "need_small" (defArgs s_need_small) (defBody s_need_small) (defScope s_need_small) .none kV8 dc8 pm8 an8 cd8 ct8), sl8⟩) (c8 : PySem.W.codeIn K cd8 "need_small" = true) (k8 : PySem.W.keepIn K (.ref f8) = true)
    (a9 : PySem.W.nsIn K mainGlobals "turn_of" = some (some (.ref f9))) (l9 : K.lookup f9 = some ⟨oc9, od9, .func (PySem.W.fnOf "turn_of" "turn_of" (defArgs s_turn_of) (defBody s_turn_of) (defScope s_turn_of) .none kV9 dc9 pm9 an9 cd9 ct9), sl9⟩) (c9 : PySem.W.codeIn K cd9 "turn_of" = true) (k9 : PySem.W.keepIn K (.ref f9) = true)
    (a10 : PySem.W.nsIn K mainGlobals "is_row" = some (some (.ref f10))) (l10 : K.lookup f10 = some ⟨oc10, od10, .func (PySem.W.fnOf "is_row" "is_row" (defArgs s_is_row) (defBody s_is_row) (defScope s_is_row) .none kV10 dc10 pm10 an10 cd10 ct10), sl10⟩) (c10 : PySem.W.codeIn K cd10 "is_row" = true) (k10 : PySem.W.keepIn K (.ref f10) = true)
    (a11 : PySem.W.nsIn K mainGlobals "need_row" = some (some (.ref f11))) (l11 : K.lookup f11 = some ⟨oc11, od11, .func (PySem.W.fnOf "need_row" "need_row" (defArgs s_need_row) (defBody s_need_row) (defScope s_need_row) .none kV11 dc11 pm11 an11 cd11 ct11), sl11⟩) (c11 : PySem.W.codeIn K cd11 "need_row" = true) (k11 : PySem.W.keepIn K (.ref f11) = true)
    (a12 : PySem.W.nsIn K mainGlobals "first_frame" = some (some (.ref f12))) (l12 : K.lookup f12 = some ⟨oc12, od12, .func (PySem.W.fnOf "first_frame" "first_frame" (defArgs s_first_frame) (defBody s_first_frame) (defScope s_first_frame) .none kV12 dc12 pm12 an12 cd12 ct12), sl12⟩) (c12 : PySem.W.codeIn K cd12 "first_frame" = true) (k12 : PySem.W.keepIn K (.ref f12) = true)
    (a13 : PySem.W.nsIn K mainGlobals "frame_lines" = some (some (.ref f13))) (l13 : K.lookup f13 = some ⟨oc13, od13, .func (PySem.W.fnOf "frame_lines" "frame_lines" (defArgs s_frame_lines) (defBody s_frame_lines) (defScope s_frame_lines) .none kV13 dc13 pm13 an13 cd13 ct13), sl13⟩) (c13 : PySem.W.codeIn K cd13 "frame_lines" = true) (k13 : PySem.W.keepIn K (.ref f13) = true)
    (a14 : PySem.W.nsIn K mainGlobals "frame_turn" = some (some (.ref f14))) (l14 : K.lookup f14 = some ⟨oc14, od14, .func (PySem.W.fnOf "frame_turn" "frame_turn" (defArgs s_frame_turn) (defBody s_frame_turn) (defScope s_frame_turn) .none kV14 dc14 pm14 an14 cd14 ct14), sl14⟩) (c14 : PySem.W.codeIn K cd14 "frame_turn" = true) (k14 : PySem.W.keepIn K (.ref f14) = true)
    (a15 : PySem.W.nsIn K mainGlobals "frame_behind" = some (some (.ref f15))) (l15 : K.lookup f15 = some ⟨oc15, od15, .func (PySem.W.fnOf "frame_behind" "frame_behind" (defArgs s_frame_behind) (defBody s_frame_behind) (defScope s_frame_behind) .none kV15 dc15 pm15 an15 cd15 ct15), sl15⟩) (c15 : PySem.W.codeIn K cd15 "frame_behind" = true) (k15 : PySem.W.keepIn K (.ref f15) = true)
    (a16 : PySem.W.nsIn K mainGlobals "frame" = some (some (.ref f16))) (l16 : K.lookup f16 = some ⟨oc16, od16, .func (PySem.W.fnOf "frame" "frame" (defArgs s_frame) (defBody s_frame) (defScope s_frame) .none kV16 dc16 pm16 an16 cd16 ct16), sl16⟩) (c16 : PySem.W.codeIn K cd16 "frame" = true) (k16 : PySem.W.keepIn K (.ref f16) = true)
    (a17 : PySem.W.nsIn K mainGlobals "greens_of" = some (some (.ref f17))) (l17 : K.lookup f17 = some ⟨oc17, od17, .func (PySem.W.fnOf "greens_of" "greens_of" (defArgs s_greens_of) (defBody s_greens_of) (defScope s_greens_of) .none kV17 dc17 pm17 an17 cd17 ct17), sl17⟩) (c17 : PySem.W.codeIn K cd17 "greens_of" = true) (k17 : PySem.W.keepIn K (.ref f17) = true)
    (a18 : PySem.W.nsIn K mainGlobals "is_small" = some (some (.ref f18))) (l18 : K.lookup f18 = some ⟨oc18, od18, .func (PySem.W.fnOf "is_small" "is_small" (defArgs s_is_small) (defBody s_is_small) (defScope s_is_small) .none kV18 dc18 pm18 an18 cd18 ct18), sl18⟩) (c18 : PySem.W.codeIn K cd18 "is_small" = true) (k18 : PySem.W.keepIn K (.ref f18) = true)
    (a19 : PySem.W.nsIn K mainGlobals "green_steps" = some (some (.ref f19))) (l19 : K.lookup f19 = some ⟨oc19, od19, .func (PySem.W.fnOf "green_steps" "green_steps" (defArgs s_green_steps) (defBody s_green_steps) (defScope s_green_steps) .none kV19 dc19 pm19 an19 cd19 ct19), sl19⟩) (c19 : PySem.W.codeIn K cd19 "green_steps" = true) (k19 : PySem.W.keepIn K (.ref f19) = true)
    (a20 : PySem.W.nsIn K mainGlobals "green_row" = some (some (.ref f20))) (l20 : K.lookup f20 = some ⟨oc20, od20, .func (PySem.W.fnOf "green_row" "green_row" (defArgs s_green_row) (defBody s_green_row) (defScope s_green_row) .none kV20 dc20 pm20 an20 cd20 ct20), sl20⟩) (c20 : PySem.W.codeIn K cd20 "green_row" = true) (k20 : PySem.W.keepIn K (.ref f20) = true)
    (a21 : PySem.W.nsIn K mainGlobals "_law_taken" = some (some (.ref f21))) (l21 : K.lookup f21 = some ⟨oc21, od21, .func (PySem.W.fnOf "_law_taken" "_law_taken" (defArgs s_law_taken) (defBody s_law_taken) (defScope s_law_taken) .none kV21 dc21 pm21 an21 cd21 ct21), sl21⟩) (c21 : PySem.W.codeIn K cd21 "_law_taken" = true) (k21 : PySem.W.keepIn K (.ref f21) = true)
    (a22 : PySem.W.nsIn K mainGlobals "_law_pick" = some (some (.ref f22))) (l22 : K.lookup f22 = some ⟨oc22, od22, .func (PySem.W.fnOf "_law_pick" "_law_pick" (defArgs s_law_pick) (defBody s_law_pick) (defScope s_law_pick) .none kV22 dc22 pm22 an22 cd22 ct22), sl22⟩) (c22 : PySem.W.codeIn K cd22 "_law_pick" = true) (k22 : PySem.W.keepIn K (.ref f22) = true)
    (a23 : PySem.W.nsIn K mainGlobals "_law_alike" = some (some (.ref f23))) (l23 : K.lookup f23 = some ⟨oc23, od23, .func (PySem.W.fnOf "_law_alike" "_law_alike" (defArgs s_law_alike) (defBody s_law_alike) (defScope s_law_alike) .none kV23 dc23 pm23 an23 cd23 ct23), sl23⟩) (c23 : PySem.W.codeIn K cd23 "_law_alike" = true) (k23 : PySem.W.keepIn K (.ref f23) = true)
    (a24 : PySem.W.nsIn K mainGlobals "_law_web" = some (some (.ref f24))) (l24 : K.lookup f24 = some ⟨oc24, od24, .func (PySem.W.fnOf "_law_web" "_law_web" (defArgs s_law_web) (defBody s_law_web) (defScope s_law_web) .none kV24 dc24 pm24 an24 cd24 ct24), sl24⟩) (c24 : PySem.W.codeIn K cd24 "_law_web" = true) (k24 : PySem.W.keepIn K (.ref f24) = true)
    (a25 : PySem.W.nsIn K mainGlobals "_law_turn" = some (some (.ref f25))) (l25 : K.lookup f25 = some ⟨oc25, od25, .func (PySem.W.fnOf "_law_turn" "_law_turn" (defArgs s_law_turn) (defBody s_law_turn) (defScope s_law_turn) .none kV25 dc25 pm25 an25 cd25 ct25), sl25⟩) (c25 : PySem.W.codeIn K cd25 "_law_turn" = true) (k25 : PySem.W.keepIn K (.ref f25) = true)
    (a26 : PySem.W.nsIn K mainGlobals "_law_frame_turn" = some (some (.ref f26))) (l26 : K.lookup f26 = some ⟨oc26, od26, .func (PySem.W.fnOf "_law_frame_turn" "_law_frame_turn" (defArgs s_law_frame_turn) (defBody s_law_frame_turn) (defScope s_law_frame_turn) .none kV26 dc26 pm26 an26 cd26 ct26), sl26⟩) (c26 : PySem.W.codeIn K cd26 "_law_frame_turn" = true) (k26 : PySem.W.keepIn K (.ref f26) = true)
    (a27 : PySem.W.nsIn K mainGlobals "_law_frames" = some (some (.ref f27))) (l27 : K.lookup f27 = some ⟨oc27, od27, .func (PySem.W.fnOf "_law_frames" "_law_frames" (defArgs s_law_frames) (defBody s_law_frames) (defScope s_law_frames) .none kV27 dc27 pm27 an27 cd27 ct27), sl27⟩) (c27 : PySem.W.codeIn K cd27 "_law_frames" = true) (k27 : PySem.W.keepIn K (.ref f27) = true)
    (a28 : PySem.W.nsIn K mainGlobals "_law_column" = some (some (.ref f28))) (l28 : K.lookup f28 = some ⟨oc28, od28, .func (PySem.W.fnOf "_law_column" "_law_column" (defArgs s_law_column) (defBody s_law_column) (defScope s_law_column) .none kV28 dc28 pm28 an28 cd28 ct28), sl28⟩) (c28 : PySem.W.codeIn K cd28 "_law_column" = true) (k28 : PySem.W.keepIn K (.ref f28) = true)
    (a29 : PySem.W.nsIn K mainGlobals "_law_greens" = some (some (.ref f29))) (l29 : K.lookup f29 = some ⟨oc29, od29, .func (PySem.W.fnOf "_law_greens" "_law_greens" (defArgs s_law_greens) (defBody s_law_greens) (defScope s_law_greens) .none kV29 dc29 pm29 an29 cd29 ct29), sl29⟩) (c29 : PySem.W.codeIn K cd29 "_law_greens" = true) (k29 : PySem.W.keepIn K (.ref f29) = true)
    (a30 : PySem.W.nsIn K mainGlobals "_law_green_row" = some (some (.ref f30))) (l30 : K.lookup f30 = some ⟨oc30, od30, .func (PySem.W.fnOf "_law_green_row" "_law_green_row" (defArgs s_law_green_row) (defBody s_law_green_row) (defScope s_law_green_row) .none kV30 dc30 pm30 an30 cd30 ct30), sl30⟩) (c30 : PySem.W.codeIn K cd30 "_law_green_row" = true) (k30 : PySem.W.keepIn K (.ref f30) = true)
    (a31 : PySem.W.nsIn K mainGlobals "_law_sinks" = some (some (.ref f31))) (l31 : K.lookup f31 = some ⟨oc31, od31, .func (PySem.W.fnOf "_law_sinks" "_law_sinks" (defArgs s_law_sinks) (defBody s_law_sinks) (defScope s_law_sinks) .none kV31 dc31 pm31 an31 cd31 ct31), sl31⟩) (c31 : PySem.W.codeIn K cd31 "_law_sinks" = true) (k31 : PySem.W.keepIn K (.ref f31) = true)
    (a32 : PySem.W.nsIn K mainGlobals "law" = some (some (.ref f32))) (l32 : K.lookup f32 = some ⟨oc32, od32, .func (PySem.W.fnOf "law" "law" (defArgs s_law) (defBody s_law) (defScope s_law) .none kV32 dc32 pm32 an32 cd32 ct32), sl32⟩) (c32 : PySem.W.codeIn K cd32 "law" = true) (k32 : PySem.W.keepIn K (.ref f32) = true)
    (z0 : PySem.W.nsIn K mainGlobals "isinstance" = some none)
    (z1 : PySem.W.nsIn K mainGlobals "int" = some none)
    (z2 : PySem.W.nsIn K mainGlobals "bool" = some none)
    (z3 : PySem.W.nsIn K mainGlobals "tuple" = some none)
    (z4 : PySem.W.nsIn K mainGlobals "list" = some none)
    (z5 : PySem.W.nsIn K mainGlobals "dict" = some none)
    (z6 : PySem.W.nsIn K mainGlobals "str" = some none)
    (z7 : PySem.W.nsIn K mainGlobals "len" = some none)
    (z8 : PySem.W.nsIn K mainGlobals "all" = some none)
    (z9 : PySem.W.nsIn K mainGlobals "any" = some none)
    (z10 : PySem.W.nsIn K mainGlobals "abs" = some none)
    (z11 : PySem.W.nsIn K mainGlobals "range" = some none)
    (z12 : PySem.W.nsIn K mainGlobals "min" = some none)
    (z13 : PySem.W.nsIn K mainGlobals "max" = some none)
    (z14 : PySem.W.nsIn K mainGlobals "sum" = some none)
    (z15 : PySem.W.nsIn K mainGlobals "sorted" = some none)
    (z16 : PySem.W.nsIn K mainGlobals "enumerate" = some none)
    (m0 : PySem.W.nsIn K mainGlobals "MOST_NODES" = some (some (.int 6 t0)))
    (m1 : PySem.W.nsIn K mainGlobals "MOST_ARROWS" = some (some (.int 1000 t1)))
    (m2 : PySem.W.nsIn K mainGlobals "MOST_TURNS" = some (some (.int 200 t2)))
    (m3 : PySem.W.nsIn K mainGlobals "MOST_GREEN" = some (some (.int 6 t3))) :
    ∃ fd : FuncData, (∀ (s : Shared) (v : Value), BindsTo s fd ⟨[v], []⟩ [("_law_script", v)]) ∧ ∀ base : Heap, K.In base → base.Ns mainGlobals mg → FnOk P w K mg base CX0 8 fa fd ["_law_script"] (spLaw K) := by
  have e := hfa.symm.trans (PySem.W.mg_of X G a32)
  cases e
  have F0 := fun_mk (st := s_is_integer) l0 c0 k0
  have F1 := fun_mk (st := s_is_from) l1 c1 k1
  have F2 := fun_mk (st := s_is_line) l2 c2 k2
  have F3 := fun_mk (st := s_is_web) l3 c3 k3
  have F4 := fun_mk (st := s_need_web) l4 c4 k4
  have F5 := fun_mk (st := s_frozen) l5 c5 k5
  have F6 := fun_mk (st := s_added_by) l6 c6 k6
  have F7 := fun_mk (st := s_behind_turn) l7 c7 k7
  have F8 := fun_mk (st := s_need_small) l8 c8 k8
  have F9 := fun_mk (st := s_turn_of) l9 c9 k9
  have F10 := fun_mk (st := s_is_row) l10 c10 k10
  have F11 := fun_mk (st := s_need_row) l11 c11 k11
  have F12 := fun_mk (st := s_first_frame) l12 c12 k12
  have F13 := fun_mk (st := s_frame_lines) l13 c13 k13
  have F14 := fun_mk (st := s_frame_turn) l14 c14 k14
  have F15 := fun_mk (st := s_frame_behind) l15 c15 k15
  have F16 := fun_mk (st := s_frame) l16 c16 k16
  have F17 := fun_mk (st := s_greens_of) l17 c17 k17
  have F18 := fun_mk (st := s_is_small) l18 c18 k18
  have F19 := fun_mk (st := s_green_steps) l19 c19 k19
  have F20 := fun_mk (st := s_green_row) l20 c20 k20
  have F21 := fun_mk (st := s_law_taken) l21 c21 k21
  have F22 := fun_mk (st := s_law_pick) l22 c22 k22
  have F23 := fun_mk (st := s_law_alike) l23 c23 k23
  have F24 := fun_mk (st := s_law_web) l24 c24 k24
  have F25 := fun_mk (st := s_law_turn) l25 c25 k25
  have F26 := fun_mk (st := s_law_frame_turn) l26 c26 k26
  have F27 := fun_mk (st := s_law_frames) l27 c27 k27
  have F28 := fun_mk (st := s_law_column) l28 c28 k28
  have F29 := fun_mk (st := s_law_greens) l29 c29 k29
  have F30 := fun_mk (st := s_law_green_row) l30 c30 k30
  have F31 := fun_mk (st := s_law_sinks) l31 c31 k31
  have F32 := fun_mk (st := s_law) l32 c32 k32
  have T : Txt K mg ⟨fun k => [f0, f1, f2, f3, f4, f5, f6, f7, f8, f9, f10, f11, f12, f13, f14, f15, f16, f17, f18, f19, f20, f21, f22, f23, f24, f25, f26, f27, f28, f29, f30, f31, fa].getD k 0, fun k => [PySem.W.fnOf "is_integer" "is_integer" (defArgs s_is_integer) (defBody s_is_integer) (defScope s_is_integer) .none kV0 dc0 pm0 an0 cd0 ct0,
      PySem.W.fnOf "is_from" "is_from" (defArgs s_is_from) (defBody s_is_from) (defScope s_is_from) .none kV1 dc1 pm1 an1 cd1 ct1,
      PySem.W.fnOf "is_line" "is_line" (defArgs s_is_line) (defBody s_is_line) (defScope s_is_line) .none kV2 dc2 pm2 an2 cd2 ct2,
      PySem.W.fnOf "is_web" "is_web" (defArgs s_is_web) (defBody s_is_web) (defScope s_is_web) .none kV3 dc3 pm3 an3 cd3 ct3,
      PySem.W.fnOf "need_web" "need_web" (defArgs s_need_web) (defBody s_need_web) (defScope s_need_web) .none kV4 dc4 pm4 an4 cd4 ct4,
      PySem.W.fnOf "frozen" "frozen" (defArgs s_frozen) (defBody s_frozen) (defScope s_frozen) .none kV5 dc5 pm5 an5 cd5 ct5,
      PySem.W.fnOf "added_by" "added_by" (defArgs s_added_by) (defBody s_added_by) (defScope s_added_by) .none kV6 dc6 pm6 an6 cd6 ct6,
      PySem.W.fnOf "behind_turn" "behind_turn" (defArgs s_behind_turn) (defBody s_behind_turn) (defScope s_behind_turn) .none kV7 dc7 pm7 an7 cd7 ct7,
      PySem.W.fnOf "need_small" "need_small" (defArgs s_need_small) (defBody s_need_small) (defScope s_need_small) .none kV8 dc8 pm8 an8 cd8 ct8,
      PySem.W.fnOf "turn_of" "turn_of" (defArgs s_turn_of) (defBody s_turn_of) (defScope s_turn_of) .none kV9 dc9 pm9 an9 cd9 ct9,
      PySem.W.fnOf "is_row" "is_row" (defArgs s_is_row) (defBody s_is_row) (defScope s_is_row) .none kV10 dc10 pm10 an10 cd10 ct10,
      PySem.W.fnOf "need_row" "need_row" (defArgs s_need_row) (defBody s_need_row) (defScope s_need_row) .none kV11 dc11 pm11 an11 cd11 ct11,
      PySem.W.fnOf "first_frame" "first_frame" (defArgs s_first_frame) (defBody s_first_frame) (defScope s_first_frame) .none kV12 dc12 pm12 an12 cd12 ct12,
      PySem.W.fnOf "frame_lines" "frame_lines" (defArgs s_frame_lines) (defBody s_frame_lines) (defScope s_frame_lines) .none kV13 dc13 pm13 an13 cd13 ct13,
      PySem.W.fnOf "frame_turn" "frame_turn" (defArgs s_frame_turn) (defBody s_frame_turn) (defScope s_frame_turn) .none kV14 dc14 pm14 an14 cd14 ct14,
      PySem.W.fnOf "frame_behind" "frame_behind" (defArgs s_frame_behind) (defBody s_frame_behind) (defScope s_frame_behind) .none kV15 dc15 pm15 an15 cd15 ct15,
      PySem.W.fnOf "frame" "frame" (defArgs s_frame) (defBody s_frame) (defScope s_frame) .none kV16 dc16 pm16 an16 cd16 ct16,
      PySem.W.fnOf "greens_of" "greens_of" (defArgs s_greens_of) (defBody s_greens_of) (defScope s_greens_of) .none kV17 dc17 pm17 an17 cd17 ct17,
      PySem.W.fnOf "is_small" "is_small" (defArgs s_is_small) (defBody s_is_small) (defScope s_is_small) .none kV18 dc18 pm18 an18 cd18 ct18,
      PySem.W.fnOf "green_steps" "green_steps" (defArgs s_green_steps) (defBody s_green_steps) (defScope s_green_steps) .none kV19 dc19 pm19 an19 cd19 ct19,
      PySem.W.fnOf "green_row" "green_row" (defArgs s_green_row) (defBody s_green_row) (defScope s_green_row) .none kV20 dc20 pm20 an20 cd20 ct20,
      PySem.W.fnOf "_law_taken" "_law_taken" (defArgs s_law_taken) (defBody s_law_taken) (defScope s_law_taken) .none kV21 dc21 pm21 an21 cd21 ct21,
      PySem.W.fnOf "_law_pick" "_law_pick" (defArgs s_law_pick) (defBody s_law_pick) (defScope s_law_pick) .none kV22 dc22 pm22 an22 cd22 ct22,
      PySem.W.fnOf "_law_alike" "_law_alike" (defArgs s_law_alike) (defBody s_law_alike) (defScope s_law_alike) .none kV23 dc23 pm23 an23 cd23 ct23,
      PySem.W.fnOf "_law_web" "_law_web" (defArgs s_law_web) (defBody s_law_web) (defScope s_law_web) .none kV24 dc24 pm24 an24 cd24 ct24,
      PySem.W.fnOf "_law_turn" "_law_turn" (defArgs s_law_turn) (defBody s_law_turn) (defScope s_law_turn) .none kV25 dc25 pm25 an25 cd25 ct25,
      PySem.W.fnOf "_law_frame_turn" "_law_frame_turn" (defArgs s_law_frame_turn) (defBody s_law_frame_turn) (defScope s_law_frame_turn) .none kV26 dc26 pm26 an26 cd26 ct26,
      PySem.W.fnOf "_law_frames" "_law_frames" (defArgs s_law_frames) (defBody s_law_frames) (defScope s_law_frames) .none kV27 dc27 pm27 an27 cd27 ct27,
      PySem.W.fnOf "_law_column" "_law_column" (defArgs s_law_column) (defBody s_law_column) (defScope s_law_column) .none kV28 dc28 pm28 an28 cd28 ct28,
      PySem.W.fnOf "_law_greens" "_law_greens" (defArgs s_law_greens) (defBody s_law_greens) (defScope s_law_greens) .none kV29 dc29 pm29 an29 cd29 ct29,
      PySem.W.fnOf "_law_green_row" "_law_green_row" (defArgs s_law_green_row) (defBody s_law_green_row) (defScope s_law_green_row) .none kV30 dc30 pm30 an30 cd30 ct30,
      PySem.W.fnOf "_law_sinks" "_law_sinks" (defArgs s_law_sinks) (defBody s_law_sinks) (defScope s_law_sinks) .none kV31 dc31 pm31 an31 cd31 ct31,
      PySem.W.fnOf "law" "law" (defArgs s_law) (defBody s_law) (defScope s_law) .none kV32 dc32 pm32 an32 cd32 ct32].getD k (PySem.W.fnOf "is_integer" "is_integer" (defArgs s_is_integer) (defBody s_is_integer) (defScope s_is_integer) .none kV0 dc0 pm0 an0 cd0 ct0)⟩ := {
    d_is_integer := ⟨F0, F0.binds (ps := ["value"]) fun _ _ _ _ _ _ us hl => match us, hl with | [_], _ => rfl, PySem.W.mg_of X G a0⟩
    d_is_from := ⟨F1, F1.binds (ps := ["value", "low", "high"]) fun _ _ _ _ _ _ us hl => match us, hl with | [_, _, _], _ => rfl, PySem.W.mg_of X G a1⟩
    d_is_line := ⟨F2, F2.binds (ps := ["n", "value"]) fun _ _ _ _ _ _ us hl => match us, hl with | [_, _], _ => rfl, PySem.W.mg_of X G a2⟩
    d_is_web := ⟨F3, F3.binds (ps := ["value"]) fun _ _ _ _ _ _ us hl => match us, hl with | [_], _ => rfl, PySem.W.mg_of X G a3⟩
    d_need_web := ⟨F4, F4.binds (ps := ["value"]) fun _ _ _ _ _ _ us hl => match us, hl with | [_], _ => rfl, PySem.W.mg_of X G a4⟩
    d_frozen := ⟨F5, F5.binds (ps := ["table"]) fun _ _ _ _ _ _ us hl => match us, hl with | [_], _ => rfl, PySem.W.mg_of X G a5⟩
    d_added_by := ⟨F6, F6.binds (ps := ["left", "right"]) fun _ _ _ _ _ _ us hl => match us, hl with | [_, _], _ => rfl, PySem.W.mg_of X G a6⟩
    d_behind_turn := ⟨F7, F7.binds (ps := ["web", "x"]) fun _ _ _ _ _ _ us hl => match us, hl with | [_, _], _ => rfl, PySem.W.mg_of X G a7⟩
    d_need_small := ⟨F8, F8.binds (ps := ["table"]) fun _ _ _ _ _ _ us hl => match us, hl with | [_], _ => rfl, PySem.W.mg_of X G a8⟩
    d_turn_of := ⟨F9, F9.binds (ps := ["web", "x"]) fun _ _ _ _ _ _ us hl => match us, hl with | [_, _], _ => rfl, PySem.W.mg_of X G a9⟩
    d_is_row := ⟨F10, F10.binds (ps := ["n", "value"]) fun _ _ _ _ _ _ us hl => match us, hl with | [_, _], _ => rfl, PySem.W.mg_of X G a10⟩
    d_need_row := ⟨F11, F11.binds (ps := ["web", "value"]) fun _ _ _ _ _ _ us hl => match us, hl with | [_, _], _ => rfl, PySem.W.mg_of X G a11⟩
    d_first_frame := ⟨F12, F12.binds (ps := ["n"]) fun _ _ _ _ _ _ us hl => match us, hl with | [_], _ => rfl, PySem.W.mg_of X G a12⟩
    d_frame_lines := ⟨F13, F13.binds (ps := ["web", "table", "x"]) fun _ _ _ _ _ _ us hl => match us, hl with | [_, _, _], _ => rfl, PySem.W.mg_of X G a13⟩
    d_frame_turn := ⟨F14, F14.binds (ps := ["web", "table", "x"]) fun _ _ _ _ _ _ us hl => match us, hl with | [_, _, _], _ => rfl, PySem.W.mg_of X G a14⟩
    d_frame_behind := ⟨F15, F15.binds (ps := ["web", "row"]) fun _ _ _ _ _ _ us hl => match us, hl with | [_, _], _ => rfl, PySem.W.mg_of X G a15⟩
    d_frame := ⟨F16, F16.binds (ps := ["web", "row"]) fun _ _ _ _ _ _ us hl => match us, hl with | [_, _], _ => rfl, PySem.W.mg_of X G a16⟩
    d_greens_of := ⟨F17, F17.binds (ps := ["table"]) fun _ _ _ _ _ _ us hl => match us, hl with | [_], _ => rfl, PySem.W.mg_of X G a17⟩
    d_is_small := ⟨F18, F18.binds (ps := ["table"]) fun _ _ _ _ _ _ us hl => match us, hl with | [_], _ => rfl, PySem.W.mg_of X G a18⟩
    d_green_steps := ⟨F19, F19.binds (ps := ["web", "table"]) fun _ _ _ _ _ _ us hl => match us, hl with | [_, _], _ => rfl, PySem.W.mg_of X G a19⟩
    d_green_row := ⟨F20, F20.binds (ps := ["web"]) fun _ _ _ _ _ _ us hl => match us, hl with | [_], _ => rfl, PySem.W.mg_of X G a20⟩
    d_law_taken := ⟨F21, F21.binds (ps := ["_law_row", "_law_many"]) fun _ _ _ _ _ _ us hl => match us, hl with | [_, _], _ => rfl, PySem.W.mg_of X G a21⟩
    d_law_pick := ⟨F22, F22.binds (ps := ["_law_row", "_law_things"]) fun _ _ _ _ _ _ us hl => match us, hl with | [_, _], _ => rfl, PySem.W.mg_of X G a22⟩
    d_law_alike := ⟨F23, F23.binds (ps := ["_law_found", "_law_due"]) fun _ _ _ _ _ _ us hl => match us, hl with | [_, _], _ => rfl, PySem.W.mg_of X G a23⟩
    d_law_web := ⟨F24, F24.binds (ps := ["_law_row", "_law_most", "_law_strong"]) fun _ _ _ _ _ _ us hl => match us, hl with | [_, _, _], _ => rfl, PySem.W.mg_of X G a24⟩
    d_law_turn := ⟨F25, F25.binds (ps := ["_law_web_here", "_law_x"]) fun _ _ _ _ _ _ us hl => match us, hl with | [_, _], _ => rfl, PySem.W.mg_of X G a25⟩
    d_law_frame_turn := ⟨F26, F26.binds (ps := ["_law_web_here", "_law_table", "_law_x"]) fun _ _ _ _ _ _ us hl => match us, hl with | [_, _, _], _ => rfl, PySem.W.mg_of X G a26⟩
    d_law_frames := ⟨F27, F27.binds (ps := ["_law_web_here", "_law_told"]) fun _ _ _ _ _ _ us hl => match us, hl with | [_, _], _ => rfl, PySem.W.mg_of X G a27⟩
    d_law_column := ⟨F28, F28.binds (ps := ["_law_table", "_law_x"]) fun _ _ _ _ _ _ us hl => match us, hl with | [_, _], _ => rfl, PySem.W.mg_of X G a28⟩
    d_law_greens := ⟨F29, F29.binds (ps := ["_law_table"]) fun _ _ _ _ _ _ us hl => match us, hl with | [_], _ => rfl, PySem.W.mg_of X G a29⟩
    d_law_green_row := ⟨F30, F30.binds (ps := ["_law_web_here"]) fun _ _ _ _ _ _ us hl => match us, hl with | [_], _ => rfl, PySem.W.mg_of X G a30⟩
    d_law_sinks := ⟨F31, F31.binds (ps := ["_law_web_here"]) fun _ _ _ _ _ _ us hl => match us, hl with | [_], _ => rfl, PySem.W.mg_of X G a31⟩
    d_law := ⟨F32, F32.binds (ps := ["_law_script"]) fun _ _ _ _ _ _ us hl => match us, hl with | [_], _ => rfl, PySem.W.mg_of X G a32⟩
    z_isinstance := PySem.W.mg_none_of X G z0
    z_int := PySem.W.mg_none_of X G z1
    z_bool := PySem.W.mg_none_of X G z2
    z_tuple := PySem.W.mg_none_of X G z3
    z_list := PySem.W.mg_none_of X G z4
    z_dict := PySem.W.mg_none_of X G z5
    z_str := PySem.W.mg_none_of X G z6
    z_len := PySem.W.mg_none_of X G z7
    z_all := PySem.W.mg_none_of X G z8
    z_any := PySem.W.mg_none_of X G z9
    z_abs := PySem.W.mg_none_of X G z10
    z_range := PySem.W.mg_none_of X G z11
    z_min := PySem.W.mg_none_of X G z12
    z_max := PySem.W.mg_none_of X G z13
    z_sum := PySem.W.mg_none_of X G z14
    z_sorted := PySem.W.mg_none_of X G z15
    z_enumerate := PySem.W.mg_none_of X G z16
    c_MOST_NODES := ⟨t0, PySem.W.mg_of X G m0⟩
    c_MOST_ARROWS := ⟨t1, PySem.W.mg_of X G m1⟩
    c_MOST_TURNS := ⟨t2, PySem.W.mg_of X G m2⟩
    c_MOST_GREEN := ⟨t3, PySem.W.mg_of X G m3⟩ }
  exact ⟨PySem.W.fnOf "law" "law" (defArgs s_law) (defBody s_law) (defScope s_law) .none kV32 dc32 pm32 an32 cd32 ct32, fun s v => .of_eq rfl, fun base _ _ => ok_law M T⟩
theorem walk (M : Maths) {l : PySem.W.OpenLaw} {q : Program} {loose : List Str} {XP : (Str → Option Value) → Heap → Prop} {YP : World → Heap → Prop} {d : DefRec} {K : Params → PySem.W.Frag} (hn : l.most = some 63) (hdf : d.params.defaults = [])
    (hY : ∀ (w : World) (h : Heap), YP w h → (K w.params).In h)
    (F : ∀ (w : World) (mg : Str → Option Value) (fa : Addr) (h : Heap), (K w.params).In h → h.Ns mainGlobals mg → mg d.name = some (.ref fa) →
      ∃ fd : FuncData, (∀ (s : Shared) (u : Value), BindsTo s fd ⟨[u], []⟩ [("_law_script", u)]) ∧ ∀ base : Heap, (K w.params).In base → base.Ns mainGlobals mg → FnOk l.prog w (K w.params) mg base CX0 8 fa fd ["_law_script"] (spLaw (K w.params))) :
    PySem.W.WalkO q loose XP YP l.row.toRowW d [] (fun f vs => PySem.call f vs) :=
  L2.walk_of (n := 63) (k := 8) (x := "_law_script") (CX := fun _ => CX0) (sp := fun w => spLaw (K w.params)) hn (by decide) hdf ⟨rfl, by decide, by decide⟩ hY F (fun _ _ a ns hl ho hS => ⟨a, ns, rfl, SqLF.of ho hS, fun _ => rfl⟩) fun _ _ _ _ _ z => z
end G
set_option maxRecDepth 100000
set_option maxHeartbeats 1000000
/-! M1: rows in order; green_row and the law's own search give the same. -/
namespace G
/-! ### the order -/
theorem lexN_nil (b : List Nat) : lexN b [] = false := by
  cases b <;> rfl
theorem lexN_cons (x y : Nat) (a b : List Nat) : lexN (x :: a) (y :: b) = (decide (x < y) || (decide (x = y) && lexN a b)) := by
  show (decide ((x : Int) < (y : Int)) || (decide ((x : Int) = (y : Int)) && lexN a b)) = _
  have e1 : decide ((x : Int) < (y : Int)) = decide (x < y) := decide_eq_decide.mpr (by omega)
  have e2 : decide ((x : Int) = (y : Int)) = decide (x = y) := decide_eq_decide.mpr (by omega)
  rw [e1, e2]
theorem lexN_irr : ∀ a : List Nat, lexN a a = false
  | [] => rfl
  | x :: a => by
    rw [lexN_cons, lexN_irr a]
    simp
/-- a <= b <= c -/
theorem lexN_le : ∀ (a b c : List Nat), lexN b a = false → lexN c b = false → lexN c a = false
  | [], b, c, h1, h2 => lexN_nil c
  | x :: a, [], c, h1, h2 => by
    cases h1
  | x :: a, y :: b, [], h1, h2 => by cases h2
  | x :: a, y :: b, z :: c, h1, h2 => by
    rw [lexN_cons] at h1 h2 ⊢
    simp only [Bool.or_eq_false_iff, Bool.and_eq_false_iff, decide_eq_false_iff_not] at h1 h2 ⊢
    refine ⟨by omega, ?_⟩
    by_cases e : z = x
    · right
      have e1 : y = x := by omega
      have e2 : z = y := by omega
      exact lexN_le a b c (h1.2.resolve_left fun h => h e1) (h2.2.resolve_left fun h => h e2)
    · exact .inl e
theorem lexN_eq : ∀ (a b : List Nat), lexN a b = false → lexN b a = false → a = b
  | [], [], _, _ => rfl
  | [], y :: b, h, _ => by cases h
  | x :: a, [], _, h => by cases h
  | x :: a, y :: b, h1, h2 => by
    rw [lexN_cons] at h1 h2
    simp only [Bool.or_eq_false_iff, Bool.and_eq_false_iff, decide_eq_false_iff_not] at h1 h2
    have e : x = y := by omega
    subst e
    rw [lexN_eq a b (h1.2.resolve_left fun h => h rfl) (h2.2.resolve_left fun h => h rfl)]
theorem lexN_asym {a b : List Nat} (h : lexN a b = true) : lexN b a = false := by
  cases hb : lexN b a with
  | false => rfl
  | true =>
    exfalso
    have : ∀ (a b : List Nat), lexN a b = true → lexN b a = true → False := by
      intro a
      induction a with
      | nil => intro b _ h2; rw [lexN_nil] at h2; cases h2
      | cons x a ih =>
        intro b h1 h2
        cases b with
        | nil => rw [lexN_nil] at h1; cases h1
        | cons y b =>
          rw [lexN_cons] at h1 h2
          simp only [Bool.or_eq_true, Bool.and_eq_true, decide_eq_true_eq] at h1 h2
          rcases h1 with h1 | h1 <;> rcases h2 with h2 | h2
          · omega
          · omega
          · omega
          · exact ih b h1.2 h2.2
    exact this a b h hb
/-- a snoc, at one length -/
theorem lexN_snoc : ∀ (a b : List Nat) (x y : Nat), a.length = b.length → lexN (a ++ [x]) (b ++ [y]) = (lexN a b || (decide (a = b) && decide (x < y)))
  | [], [], x, y, _ => by
    show lexN [x] [y] = _
    rw [lexN_cons]
    simp [lexN_irr]
  | [], _ :: _, _, _, h => by simp at h
  | _ :: _, [], _, _, h => by simp at h
  | u :: a, v :: b, x, y, h => by
    rw [List.cons_append, List.cons_append, lexN_cons, lexN_snoc a b x y (by simpa using h), lexN_cons]
    by_cases e : u = v
    · subst e
      simp
    · simp [e]
/-! ### the least of many -/
/-- o is the least row of S -/
def Least (S : List Nat → Prop) (o : Option (List Nat)) : Prop := match o with
  | none => ∀ r, ¬ S r
  | some r => S r ∧ ∀ r', S r' → lexN r' r = false
theorem Least.uniq {S : List Nat → Prop} : ∀ {o o' : Option (List Nat)}, Least S o → Least S o' → o = o'
  | none, none, _, _ => rfl
  | none, some r, h, h' => absurd h'.1 (h r)
  | some r, none, h, h' => absurd h.1 (h' r)
  | some r, some r', h, h' => by rw [lexN_eq r r' (h'.2 r h.1) (h.2 r' h'.1)]
theorem Least.congr {S T : List Nat → Prop} {o : Option (List Nat)} (h : Least S o) (e : ∀ r, S r ↔ T r) : Least T o := by
  have : S = T := funext fun r => propext (e r)
  rw [← this]
  exact h
/-- one more offered -/
theorem Least.add {S : List Nat → Prop} {o : Option (List Nat)} (h : Least S o) (r : List Nat) : Least (fun q => S q ∨ q = r) (some (minN r [o.getD r])) := by
  cases o with
  | none =>
    have e : minN r [(none : Option (List Nat)).getD r] = r := by
      rcases minN2_or r ((none : Option (List Nat)).getD r) with e | e <;> exact e
    rw [e]
    refine ⟨.inr rfl, fun q hq => ?_⟩
    rcases hq with hq | rfl
    · exact absurd hq (h q)
    · exact lexN_irr q
  | some s =>
    show Least _ (some (if lexN s r then s else r))
    cases hs : lexN s r with
    | true =>
      rw [if_pos rfl]
      refine ⟨.inl h.1, fun q hq => ?_⟩
      rcases hq with hq | rfl
      · exact h.2 q hq
      · exact lexN_asym hs
    | false =>
      rw [if_neg (by decide)]
      refine ⟨.inr rfl, fun q hq => ?_⟩
      rcases hq with hq | rfl
      · exact lexN_le r s q hs (h.2 q hq)
      · exact lexN_irr q
theorem minN_least : ∀ (xs : List (List Nat)) (x : List Nat), Least (fun q => q = x ∨ q ∈ xs) (some (minN x xs))
  | [], x => ⟨.inl rfl, fun q hq => by
      rcases hq with rfl | h
      · exact lexN_irr q
      · cases h⟩
  | y :: xs, x => by
    show Least _ (some (minN (if lexN y x then y else x) xs))
    have ih := minN_least xs (if lexN y x then y else x)
    generalize hm : (if lexN y x then y else x) = z at ih
    have hz : z = x ∨ z = y := by
      rw [← hm]
      split
      · exact .inr rfl
      · exact .inl rfl
    have hzx : lexN x z = false ∧ lexN y z = false := by
      rw [← hm]
      cases h : lexN y x with
      | true => exact ⟨by rw [if_pos rfl]; exact lexN_asym h, by rw [if_pos rfl]; exact lexN_irr y⟩
      | false => exact ⟨by rw [if_neg (by decide)]; exact lexN_irr x, by rw [if_neg (by decide)]; exact h⟩
    refine ⟨?_, fun q hq => ?_⟩
    · rcases ih.1 with e | e
      · rw [e]
        rcases hz with e | e
        · exact .inl e
        · exact .inr (by simp [e])
      · exact .inr (List.mem_cons_of_mem _ e)
    · have hle := ih.2 z (.inl rfl)
      rcases hq with rfl | hq
      · exact lexN_le _ z _ hle hzx.1
      · rcases List.mem_cons.mp hq with rfl | hq
        · exact lexN_le _ z _ hle hzx.2
        · exact ih.2 q (.inr hq)
/-! ### what a dict of least rows is told -/
theorem look_put (kvs : Kvs) (k k' : Mx × Mx) (v : List Nat) : look (put kvs k v) k' = if k' = k then some v else look kvs k' := by
  unfold look put
  by_cases hany : kvs.any (fun kv => decide (kv.1 = k)) = true
  · rw [if_pos hany]
    by_cases e : k' = k
    · subst e
      rw [if_pos rfl]
      obtain ⟨kv, hkv, hd⟩ := List.any_eq_true.mp hany
      have hd := of_decide_eq_true hd
      clear hany
      induction kvs with
      | nil => cases hkv
      | cons a l ih =>
        rw [List.map_cons, List.find?_cons]
        by_cases ea : a.1 = k'
        · rw [if_pos ea]
          simp [ea]
        · rw [if_neg ea]
          have : decide (a.1 = k') = false := decide_eq_false ea
          simp only [this]
          rcases List.mem_cons.mp hkv with rfl | hkv
          · exact absurd hd ea
          · exact ih hkv
    · rw [if_neg e]
      clear hany
      induction kvs with
      | nil => rfl
      | cons a l ih =>
        rw [List.map_cons, List.find?_cons, List.find?_cons]
        by_cases ea : a.1 = k
        · rw [if_pos ea]
          have : decide (a.1 = k') = false := decide_eq_false fun h => e (h.symm.trans ea)
          simp only [this]
          exact ih
        · rw [if_neg ea]
          by_cases e2 : a.1 = k'
          · simp [e2]
          · have : decide (a.1 = k') = false := decide_eq_false e2
            simp only [this]
            exact ih
  · rw [if_neg hany, List.find?_append]
    by_cases e : k' = k
    · subst e
      rw [if_pos rfl]
      have : kvs.find? (fun kv => decide (kv.1 = k')) = none := List.find?_eq_none.mpr fun x hx h => hany (List.any_eq_true.mpr ⟨x, hx, h⟩)
      rw [this]
      simp
    · rw [if_neg e]
      have : ([(k, v)] : Kvs).find? (fun kv => decide (kv.1 = k')) = none := by
        simp [Ne.symm e]
      rw [this]
      simp
def offers (kv : (Mx × Mx) × List Nat) : List ((Mx × Mx) × List Nat) := (greenSteps kv.1.1 kv.1.2).map fun s => (s.2, kv.2 ++ [s.1])
theorem stepAll_least (told : List Nat) (k : Mx × Mx) : ∀ (steps : List (Nat × Mx × Mx)) (acc : Kvs) (S : List Nat → Prop), Least S (look acc k) →
    Least (fun q => S q ∨ ∃ s, s ∈ steps ∧ s.2 = k ∧ q = told ++ [s.1]) (look (stepAll acc told steps) k)
  | [], acc, S, h => h.congr fun r => ⟨.inl, fun h => h.elim id fun ⟨s, hs, _⟩ => by cases hs⟩
  | s :: r, acc, S, h => by
    have h1 : Least (fun q => S q ∨ (s.2 = k ∧ q = told ++ [s.1])) (look (stepIn told acc s) k) := by
      unfold stepIn
      rw [look_put]
      by_cases e : k = s.2
      · subst e
        rw [if_pos rfl]
        exact (h.add (told ++ [s.1])).congr fun q => ⟨fun h => h.imp id fun h => ⟨rfl, h⟩, fun h => h.imp id fun h => h.2⟩
      · rw [if_neg e]
        exact h.congr fun q => ⟨.inl, fun h => h.elim id fun h => absurd h.1.symm e⟩
    refine (stepAll_least told k r (stepIn told acc s) _ h1).congr fun q => ⟨fun h => ?_, fun h => ?_⟩
    · rcases h with (h | ⟨h, h'⟩) | ⟨x, hx, h⟩
      · exact .inl h
      · exact .inr ⟨s, by simp, h, h'⟩
      · exact .inr ⟨x, List.mem_cons_of_mem _ hx, h⟩
    · rcases h with h | ⟨x, hx, h⟩
      · exact .inl (.inl h)
      · rcases List.mem_cons.mp hx with rfl | hx
        · exact .inl (.inr h)
        · exact .inr ⟨x, hx, h⟩
theorem level_least (k : Mx × Mx) : ∀ (here acc : Kvs) (S : List Nat → Prop), Least S (look acc k) →
    Least (fun q => S q ∨ ∃ kv, kv ∈ here ∧ ∃ s, s ∈ greenSteps kv.1.1 kv.1.2 ∧ s.2 = k ∧ q = kv.2 ++ [s.1]) (look (here.foldl levelIn acc) k)
  | [], acc, S, h => h.congr fun r => ⟨.inl, fun h => h.elim id fun ⟨s, hs, _⟩ => by cases hs⟩
  | kv :: r, acc, S, h => by
    have h1 := stepAll_least kv.2 k (greenSteps kv.1.1 kv.1.2) acc S h
    refine (level_least k r (levelIn acc kv) _ h1).congr fun q => ⟨fun h => ?_, fun h => ?_⟩
    · rcases h with (h | h) | ⟨x, hx, h⟩
      · exact .inl h
      · exact .inr ⟨kv, by simp, h⟩
      · exact .inr ⟨x, List.mem_cons_of_mem _ hx, h⟩
    · rcases h with h | ⟨x, hx, h⟩
      · exact .inl (.inl h)
      · rcases List.mem_cons.mp hx with rfl | hx
        · exact .inl (.inr h)
        · exact .inr ⟨x, hx, h⟩
/-! ### green rows -/
def GAlong : Mx → Mx → List Nat → Prop
  | _, _, [] => True
  | w, t, x :: r => x ∈ greensOf t ∧ isSmall (behindTurn w x) = true ∧ isSmall (frameLines w t x) = true ∧ GAlong (behindTurn w x) (frameLines w t x) r
theorem GAlong.snoc : ∀ (r : List Nat) (w t : Mx) (x : Nat), GAlong w t (r ++ [x]) ↔ GAlong w t r ∧ x ∈ greensOf (turns w t r).2 ∧ isSmall (behindTurn (turns w t r).1 x) = true ∧ isSmall (frameLines (turns w t r).1 (turns w t r).2 x) = true
  | [], w, t, x => by
    show (x ∈ greensOf t ∧ _ ∧ _ ∧ True) ↔ True ∧ x ∈ greensOf t ∧ _ ∧ _
    exact ⟨fun ⟨a, b, c, _⟩ => ⟨trivial, a, b, c⟩, fun ⟨_, a, b, c⟩ => ⟨a, b, c, trivial⟩⟩
  | y :: r, w, t, x => by
    show (y ∈ greensOf t ∧ _ ∧ _ ∧ GAlong _ _ (r ++ [x])) ↔ (y ∈ greensOf t ∧ _ ∧ _ ∧ GAlong _ _ r) ∧ _
    rw [GAlong.snoc r (behindTurn w y) (frameLines w t y) x]
    exact ⟨fun ⟨a, b, c, d, e⟩ => ⟨⟨a, b, c, d⟩, e⟩, fun ⟨⟨a, b, c, d⟩, e⟩ => ⟨a, b, c, d, e⟩⟩
theorem GAlong.along {n : Nat} : ∀ {r : List Nat} {w t : Mx}, Sq n w → Sq n t → GAlong w t r → Along w t r ∧ ∀ x, x ∈ r → x < n
  | [], _, _, _, _, _ => ⟨trivial, fun x h => by cases h⟩
  | x :: r, w, t, sw, st, ⟨a, b, c, d⟩ => by
    obtain ⟨h1, h2⟩ := GAlong.along (r := r) (sw.behind x) (sw.lines st x) d
    have hx := List.mem_range.mp (List.mem_filter.mp a).1
    rw [st.len] at hx
    exact ⟨⟨by rw [sw.len]; exact hx, b, c, h1⟩, fun y hy => (List.mem_cons.mp hy).elim (fun e => e ▸ hx) (h2 y)⟩
/-- the rows of t green turns -/
def Row (m F : Mx) (t : Nat) (r : List Nat) : Prop := r.length = t ∧ GAlong m F r
theorem Row.snoc {m F : Mx} {t : Nat} {q : List Nat} : Row m F (t + 1) q ↔ ∃ r x, q = r ++ [x] ∧ Row m F t r ∧ x ∈ greensOf (turns m F r).2 ∧ isSmall (behindTurn (turns m F r).1 x) = true ∧ isSmall (frameLines (turns m F r).1 (turns m F r).2 x) = true := by
  refine ⟨fun ⟨h1, h2⟩ => ?_, fun ⟨r, x, e, ⟨h1, h2⟩, h3⟩ => ?_⟩
  · have hne : q ≠ [] := fun e => by rw [e] at h1; cases h1
    have e : q = q.dropLast ++ [q.getLast hne] := (List.dropLast_concat_getLast hne).symm
    rw [e, GAlong.snoc] at h2
    exact ⟨_, _, e, ⟨by rw [List.length_dropLast, h1]; rfl, h2.1⟩, h2.2⟩
  · subst e
    exact ⟨by rw [List.length_append, h1]; rfl, (GAlong.snoc _ _ _ _).mpr ⟨h2, h3⟩⟩
theorem mem_steps {w t : Mx} {s : Nat × Mx × Mx} : s ∈ greenSteps w t ↔ s.1 ∈ greensOf t ∧ isSmall (behindTurn w s.1) = true ∧ isSmall (frameLines w t s.1) = true ∧ s.2 = (behindTurn w s.1, frameLines w t s.1) := by
  unfold greenSteps
  rw [List.mem_filter]
  refine ⟨fun ⟨h1, h2⟩ => ?_, fun ⟨h1, h2, h3, h4⟩ => ?_⟩
  · obtain ⟨x, hx, rfl⟩ := List.mem_map.mp h1
    rw [Bool.and_eq_true] at h2
    exact ⟨hx, h2.1, h2.2, rfl⟩
  · obtain ⟨x, y⟩ := s
    simp only at h1 h2 h3 h4
    subst h4
    exact ⟨List.mem_map.mpr ⟨x, h1, rfl⟩, by rw [Bool.and_eq_true]; exact ⟨h2, h3⟩⟩
/-- the dict's level: the least row of each state -/
theorem levels_least {n : Nat} {m : Mx} (hg : GoodW n m) : ∀ t, t ≤ 7 → ∀ k, Least (fun q => Row m (firstFrame n) t q ∧ turns m (firstFrame n) q = k) (look (levels m t) k)
  | 0, _, k => by
    show Least _ (look [((m, firstFrame m.length), [])] k)
    rw [hg.sq.len]
    by_cases e : (m, firstFrame n) = k
    · have : look [((m, firstFrame n), ([] : List Nat))] k = some [] := by simp [look, e]
      rw [this]
      refine ⟨⟨⟨rfl, trivial⟩, e⟩, fun q hq => lexN_nil q⟩
    · have : look [((m, firstFrame n), ([] : List Nat))] k = none := by simp [look, e]
      rw [this]
      rintro r ⟨⟨h1, _⟩, h2⟩
      have := List.length_eq_zero_iff.mp h1
      subst this
      exact e h2
  | t + 1, ht, k => by
    have ih := levels_least hg t (by omega)
    obtain ⟨lv, _, _⟩ := levels_ok hg t (by omega)
    have h := level_least k (levels m t) [] (fun _ => False) (fun r h => h)
    have h2 : Least _ (look (levels m (t + 1)) k) := h
    -- every offer is a row, and every row has an offer no greater
    have hof : ∀ q, (∃ kv, kv ∈ levels m t ∧ ∃ s, s ∈ greenSteps kv.1.1 kv.1.2 ∧ s.2 = k ∧ q = kv.2 ++ [s.1]) → Row m (firstFrame n) (t + 1) q ∧ turns m (firstFrame n) q = k := by
      rintro q ⟨kv, hkv, s, hs, hk, rfl⟩
      have hl := look_in lv.nd kv hkv
      have hi := ih kv.1
      rw [hl] at hi
      obtain ⟨⟨hr, ht'⟩, _⟩ := hi
      obtain ⟨a, b, c, d⟩ := mem_steps.mp hs
      rw [← ht'] at a b c d
      refine ⟨Row.snoc.mpr ⟨kv.2, s.1, rfl, hr, a, b, c⟩, ?_⟩
      rw [turns_snoc, ← hk, d]
    have hle : ∀ q, Row m (firstFrame n) (t + 1) q ∧ turns m (firstFrame n) q = k → ∃ q', (∃ kv, kv ∈ levels m t ∧ ∃ s, s ∈ greenSteps kv.1.1 kv.1.2 ∧ s.2 = k ∧ q' = kv.2 ++ [s.1]) ∧ lexN q q' = false := by
      rintro q ⟨hr, hk⟩
      obtain ⟨r, x, rfl, hr', a, b, c⟩ := Row.snoc.mp hr
      have hi := ih (turns m (firstFrame n) r)
      cases hl : look (levels m t) (turns m (firstFrame n) r) with
      | none =>
        rw [hl] at hi
        exact absurd ⟨hr', rfl⟩ (hi r)
      | some r0 =>
        rw [hl] at hi
        obtain ⟨⟨h1, h2⟩, h3⟩ := hi
        refine ⟨r0 ++ [x], ⟨_, look_mem hl, (x, behindTurn (turns m (firstFrame n) r).1 x, frameLines (turns m (firstFrame n) r).1 (turns m (firstFrame n) r).2 x), mem_steps.mpr ⟨a, b, c, rfl⟩, ?_, rfl⟩, ?_⟩
        · rw [← hk, turns_snoc]
        · rw [lexN_snoc r r0 x x (hr'.1.trans h1.1.symm), h3 r ⟨hr', rfl⟩]
          simp
    cases hl : look (levels m (t + 1)) k with
    | none =>
      rw [hl] at h2
      intro q hq
      obtain ⟨q', h4, _⟩ := hle q hq
      exact h2 q' (.inr h4)
    | some r0 =>
      rw [hl] at h2
      obtain ⟨h4, h5⟩ := h2
      refine ⟨hof r0 (h4.resolve_left id), fun q hq => ?_⟩
      obtain ⟨q', h6, h7⟩ := hle q hq
      exact lexN_le r0 q' q (h5 q' (.inr h6)) h7
/-- rows that end -/
def EndRow (m F : Mx) (t : Nat) (r : List Nat) : Prop := Row m F t r ∧ greensOf (turns m F r).2 = []
theorem good_least {n : Nat} {m : Mx} (hg : GoodW n m) {t : Nat} (ht : t ≤ 7) : Least (EndRow m (firstFrame n) t) (match goodOf (levels m t) with | g :: gs => some (minN g gs) | [] => none) := by
  have ih := levels_least hg t ht
  obtain ⟨lv, _, _⟩ := levels_ok hg t ht
  have hin : ∀ q, q ∈ goodOf (levels m t) → EndRow m (firstFrame n) t q := fun q hq => by
    obtain ⟨kv, hkv, rfl⟩ := List.mem_map.mp hq
    obtain ⟨h1, h2⟩ := List.mem_filter.mp hkv
    have hi := ih kv.1
    rw [look_in lv.nd kv h1] at hi
    exact ⟨hi.1.1, by rw [hi.1.2]; exact of_decide_eq_true h2⟩
  have hle : ∀ q, EndRow m (firstFrame n) t q → ∃ q', q' ∈ goodOf (levels m t) ∧ lexN q q' = false := fun q hq => by
    have hi := ih (turns m (firstFrame n) q)
    cases hl : look (levels m t) (turns m (firstFrame n) q) with
    | none =>
      rw [hl] at hi
      exact absurd ⟨hq.1, rfl⟩ (hi q)
    | some r0 =>
      rw [hl] at hi
      exact ⟨r0, List.mem_map.mpr ⟨_, List.mem_filter.mpr ⟨look_mem hl, decide_eq_true hq.2⟩, rfl⟩, hi.2 q ⟨hq.1, rfl⟩⟩
  cases hgo : goodOf (levels m t) with
  | nil =>
    intro q hq
    obtain ⟨q', h, _⟩ := hle q hq
    rw [hgo] at h
    cases h
  | cons g gs =>
    have hm := minN_least gs g
    refine ⟨hin _ ?_, fun q hq => ?_⟩
    · rw [hgo]
      exact List.mem_cons.mpr hm.1
    · obtain ⟨q', h1, h2⟩ := hle q hq
      rw [hgo] at h1
      exact lexN_le _ q' q (hm.2 q' (List.mem_cons.mp h1)) h2
/-! ### the law's own levels -/
theorem mem_lawAdd {s s' : LSt} (h6 : s.1.length < 6) : s' ∈ lawAdd s ↔ ∃ x, x ∈ greensOf s.2.2 ∧ isSmall (behindTurn s.2.1 x) = true ∧ isSmall (frameLines s.2.1 s.2.2 x) = true ∧ s' = (s.1 ++ [x], behindTurn s.2.1 x, frameLines s.2.1 s.2.2 x) := by
  unfold lawAdd
  rw [List.mem_map]
  refine ⟨fun ⟨x, hx, e⟩ => ?_, fun ⟨x, h1, h2, h3, e⟩ => ?_⟩
  · obtain ⟨h1, h2⟩ := List.mem_filter.mp hx
    rw [Bool.and_eq_true, Bool.and_eq_true] at h2
    exact ⟨x, h1, h2.1.1, h2.1.2, e.symm⟩
  · exact ⟨x, List.mem_filter.mpr ⟨h1, by rw [h2, h3, decide_eq_true h6]; rfl⟩, e.symm⟩
theorem lawLv_mem {n : Nat} {m : Mx} (hg : GoodW n m) : ∀ t, t ≤ 6 → ∀ s, s ∈ lawLv m t ↔ Row m (firstFrame n) t s.1 ∧ s.2 = turns m (firstFrame n) s.1
  | 0, _, s => by
    show s ∈ [([], m, firstFrame m.length)] ↔ _
    rw [hg.sq.len, List.mem_singleton]
    refine ⟨fun e => by subst e; exact ⟨⟨rfl, trivial⟩, rfl⟩, fun ⟨⟨h1, _⟩, h2⟩ => ?_⟩
    obtain ⟨a, b⟩ := s
    have := List.length_eq_zero_iff.mp h1
    simp only at this h2
    subst this
    rw [h2]
    rfl
  | t + 1, ht, s => by
    have ih := lawLv_mem hg t (by omega)
    show s ∈ (lawLv m t).flatMap lawAdd ↔ _
    rw [List.mem_flatMap]
    refine ⟨fun ⟨a, ha, hs⟩ => ?_, fun ⟨h1, h2⟩ => ?_⟩
    · obtain ⟨hr, hst⟩ := (ih a).mp ha
      obtain ⟨x, h1, h2, h3, rfl⟩ := (mem_lawAdd (by rw [hr.1]; omega)).mp hs
      rw [hst] at h1 h2 h3
      exact ⟨Row.snoc.mpr ⟨a.1, x, rfl, hr, h1, h2, h3⟩, by rw [turns_snoc, ← hst]⟩
    · obtain ⟨r, x, e, hr, a, b, c⟩ := Row.snoc.mp h1
      refine ⟨(r, turns m (firstFrame n) r), (ih _).mpr ⟨hr, rfl⟩, (mem_lawAdd (by show r.length < 6; rw [hr.1]; omega)).mpr ⟨x, a, b, c, ?_⟩⟩
      obtain ⟨s1, s2⟩ := s
      simp only at e h2
      subst e
      rw [h2, turns_snoc]
theorem lawLv_sorted {n : Nat} {m : Mx} (hg : GoodW n m) : ∀ t, t ≤ 6 → (lawLv m t).Pairwise fun a b => lexN a.1 b.1 = true
  | 0, _ => by simp [lawLv, law0]
  | t + 1, ht => by
    have ih := lawLv_sorted hg t (by omega)
    have hm := lawLv_mem hg t (by omega)
    show ((lawLv m t).flatMap lawAdd).Pairwise _
    have hlen : ∀ a, a ∈ lawLv m t → a.1.length = t := fun a ha => ((hm a).mp ha).1.1
    clear hm
    generalize lawLv m t = L at ih hlen
    induction L with
    | nil => simp
    | cons a l ihl =>
      rw [List.pairwise_cons] at ih
      rw [List.flatMap_cons, List.pairwise_append]
      have hla := hlen a (by simp)
      refine ⟨?_, ihl ih.2 fun b hb => hlen b (List.mem_cons_of_mem _ hb), fun p hp q hq => ?_⟩
      · unfold lawAdd
        rw [List.pairwise_map]
        have hs : ((greensOf a.2.2).filter fun x => isSmall (behindTurn a.2.1 x) && isSmall (frameLines a.2.1 a.2.2 x) && decide (a.1.length < 6)).Pairwise (· < ·) := by
          refine List.Pairwise.filter _ ?_
          unfold greensOf
          exact List.Pairwise.filter _ List.pairwise_lt_range
        refine hs.imp fun {x y} hxy => ?_
        show lexN (a.1 ++ [x]) (a.1 ++ [y]) = true
        rw [lexN_snoc _ _ _ _ rfl]
        simp [hxy]
      · obtain ⟨b, hb, hq⟩ := List.mem_flatMap.mp hq
        have hab := ih.1 b hb
        have hlb := hlen b (List.mem_cons_of_mem _ hb)
        obtain ⟨x, _, _, _, rfl⟩ := (mem_lawAdd (by rw [hla]; omega)).mp hp
        obtain ⟨y, _, _, _, rfl⟩ := (mem_lawAdd (by rw [hlb]; omega)).mp hq
        show lexN (a.1 ++ [x]) (b.1 ++ [y]) = true
        rw [lexN_snoc _ _ _ _ (hla.trans hlb.symm), hab]
        rfl
theorem law_least {n : Nat} {m : Mx} (hg : GoodW n m) {t : Nat} (ht : t ≤ 6) : Least (EndRow m (firstFrame n) t) (lawLevel (lawLv m t)) := by
  have hm := lawLv_mem hg t ht
  have hs := lawLv_sorted hg t ht
  have gen : ∀ l : List LSt, l.Pairwise (fun a b => lexN a.1 b.1 = true) → Least (fun q => ∃ s, s ∈ l ∧ lawEnd s = true ∧ s.1 = q) (lawLevel l) := by
    intro l
    induction l with
    | nil =>
      intro _
      rintro q ⟨s, h, _⟩
      cases h
    | cons a l ih =>
      intro hp
      rw [List.pairwise_cons] at hp
      unfold lawLevel
      rw [List.find?_cons]
      cases he : lawEnd a with
      | true =>
        refine ⟨⟨a, by simp, he, rfl⟩, ?_⟩
        rintro q ⟨s, hs, _, rfl⟩
        rcases List.mem_cons.mp hs with rfl | hs
        · exact lexN_irr _
        · exact lexN_asym (hp.1 s hs)
      | false =>
        refine (ih hp.2).congr fun q => ⟨fun ⟨s, h1, h2⟩ => ⟨s, List.mem_cons_of_mem _ h1, h2⟩, fun ⟨s, h1, h2, h3⟩ => ?_⟩
        rcases List.mem_cons.mp h1 with rfl | h1
        · rw [he] at h2
          cases h2
        · exact ⟨s, h1, h2, h3⟩
  refine (gen _ hs).congr fun q => ⟨fun ⟨s, h1, h2, h3⟩ => ?_, fun ⟨h1, h2⟩ => ?_⟩
  · obtain ⟨h4, h5⟩ := (hm s).mp h1
    subst h3
    have h6 : greensOf s.2.2 = [] := of_decide_eq_true h2
    rw [h5] at h6
    exact ⟨h4, h6⟩
  · exact ⟨(q, turns m (firstFrame n) q), (hm _).mpr ⟨h1, rfl⟩, decide_eq_true h2, rfl⟩
theorem loops_same {n : Nat} {m : Mx} (hg : GoodW n m) : ∀ k t, k + t = 7 → greenLoop k (levels m t) = lawLoop k (lawLv m t)
  | 0, _, _ => rfl
  | k + 1, t, h => by
    have h1 := good_least hg (t := t) (by omega)
    have h2 := law_least hg (t := t) (by omega)
    have e := h1.uniq h2
    show (match goodOf (levels m t) with | g :: gs => some (minN g gs) | [] => greenLoop k (levels m (t + 1))) = (match lawLevel (lawLv m t) with | some r => some r | none => lawLoop k (lawLv m (t + 1)))
    rw [← e]
    cases hgo : goodOf (levels m t) with
    | nil => exact loops_same hg k (t + 1) (by omega)
    | cons g gs => rfl
theorem same_rows {n : Nat} {m : Mx} (hg : GoodW n m) : greenRow m = lawRow m := loops_same hg 7 0 rfl
/-- what green_row gives -/
theorem loop_end {n : Nat} {m : Mx} (hg : GoodW n m) : ∀ k t r, k + t = 7 → greenLoop k (levels m t) = some r → ∃ t', t' ≤ 6 ∧ EndRow m (firstFrame n) t' r
  | 0, _, _, _, h => by cases h
  | k + 1, t, r, h, e => by
    have h1 := good_least hg (t := t) (by omega)
    have e' : (match goodOf (levels m t) with | g :: gs => some (minN g gs) | [] => greenLoop k (levels m (t + 1))) = some r := e
    cases hgo : goodOf (levels m t) with
    | nil =>
      rw [hgo] at e'
      exact loop_end hg k (t + 1) r (by omega) e'
    | cons g gs =>
      rw [hgo] at e' h1
      have : minN g gs = r := Option.some.inj e'
      have h1' : Least (EndRow m (firstFrame n) t) (some (minN g gs)) := h1
      rw [this] at h1'
      exact ⟨t, by omega, h1'.1⟩
theorem green_end {n : Nat} {m : Mx} (hg : GoodW n m) {r : List Nat} (h : greenRow m = some r) : r.length ≤ 6 ∧ GAlong m (firstFrame n) r ∧ greensOf (turns m (firstFrame n) r).2 = [] := by
  obtain ⟨t, ht, ⟨h1, h2⟩, h3⟩ := loop_end hg 7 0 r rfl h
  exact ⟨by omega, h2, h3⟩
/-- a row that ends is found, or one before it -/
theorem loop_some {n : Nat} {m : Mx} (hg : GoodW n m) {t' : Nat} {r : List Nat} (ht' : t' ≤ 6) (hr : EndRow m (firstFrame n) t' r) : ∀ k t, k + t = 7 → t ≤ t' → greenLoop k (levels m t) ≠ none
  | 0, t, h, hle => by omega
  | k + 1, t, h, hle => by
    have h1 := good_least hg (t := t) (by omega)
    show (match goodOf (levels m t) with | g :: gs => some (minN g gs) | [] => greenLoop k (levels m (t + 1))) ≠ none
    cases hgo : goodOf (levels m t) with
    | nil =>
      rw [hgo] at h1
      by_cases e : t = t'
      · subst e
        exact absurd hr (h1 r)
      · exact loop_some hg ht' hr k (t + 1) (by omega) (by omega)
    | cons g gs =>
      intro z
      cases z
theorem green_some {n : Nat} {m : Mx} (hg : GoodW n m) {r : List Nat} (h6 : r.length ≤ 6) (h1 : GAlong m (firstFrame n) r) (h2 : greensOf (turns m (firstFrame n) r).2 = []) : greenRow m ≠ none :=
  loop_some hg h6 ⟨⟨rfl, h1⟩, h2⟩ 7 0 rfl (Nat.zero_le _)
end G
set_option maxRecDepth 100000
set_option maxHeartbeats 1000000
/-! M2: sinks first. -/
namespace G
def Wp (w : Mx) (n : Nat) (pre : List Nat) : Mx := mOf n fun y z => if (decide (y ∈ pre)) = (decide (z ∈ pre)) then at2 w y z else -(at2 w y z)
def Tp (n : Nat) (pre : List Nat) : Mx := mOf n fun i z => if i = z then (if z ∈ pre then -1 else 1) else 0
theorem addedBy_no {l r : Int} (h1 : 0 ≤ l) (h2 : r ≤ 0) : addedBy l r = 0 := by
  rw [addedBy_eq, if_neg (by omega), if_neg (by omega)]
  rfl
theorem Wp_row {n : Nat} {w : Mx} {s : Int} (h : WebS n s w) {pre : List Nat} {x z : Nat} (hx : x < n) (hz : z < n) (hn : x ∉ pre) (h1 : ∀ y, y ∈ pre → at2 w y x ≤ 0) (h2 : ∀ z, z < n → z ∉ pre → at2 w x z ≤ 0) : at2 (Wp w n pre) x z ≤ 0 := by
  unfold Wp
  rw [mOf_at hx hz]
  by_cases e : z ∈ pre
  · rw [if_neg (by simp [hn, e])]
    have := h.anti x z hx hz
    have := h1 z e
    omega
  · rw [if_pos (by simp [hn, e])]
    exact h2 z hz e
theorem Wp_anti {n : Nat} {w : Mx} {s : Int} (h : WebS n s w) {pre : List Nat} {y z : Nat} (hy : y < n) (hz : z < n) : at2 (Wp w n pre) y z = -(at2 (Wp w n pre) z y) := by
  unfold Wp
  rw [mOf_at hy hz, mOf_at hz hy]
  have := h.anti y z hy hz
  by_cases e : decide (y ∈ pre) = decide (z ∈ pre)
  · rw [if_pos e, if_pos e.symm]
    exact this
  · rw [if_neg e, if_neg (Ne.symm e)]
    omega
theorem Wp_sq (w : Mx) (n : Nat) (pre : List Nat) : Sq n (Wp w n pre) := mOf_sq n _
theorem Tp_sq (n : Nat) (pre : List Nat) : Sq n (Tp n pre) := mOf_sq n _
theorem Wp_turn {n : Nat} {w : Mx} {s : Int} (h : WebS n s w) {pre : List Nat} {x : Nat} (hx : x < n) (hn : x ∉ pre) (h1 : ∀ y, y ∈ pre → at2 w y x ≤ 0) (h2 : ∀ z, z < n → z ∉ pre → at2 w x z ≤ 0) : behindTurn (Wp w n pre) x = Wp w n (pre ++ [x]) := by
  have e : behindTurn (Wp w n pre) x = mOf n fun y z => if x = y ∨ x = z then -(at2 (Wp w n pre) y z) else at2 (Wp w n pre) y z + addedBy (at2 (Wp w n pre) y x) (at2 (Wp w n pre) x z) := by
    unfold behindTurn
    rw [(Wp_sq w n pre).len]
    rfl
  rw [e]
  show mOf n _ = mOf n _
  refine mOf_congr fun y z hy hz => ?_
  have r1 := Wp_row h hx hz hn h1 h2
  have r2 := Wp_row h hx hy hn h1 h2
  have r3 := Wp_anti h (pre := pre) hy hx
  rw [addedBy_no (by omega) r1]
  have hat : at2 (Wp w n pre) y z = if (decide (y ∈ pre)) = (decide (z ∈ pre)) then at2 w y z else -(at2 w y z) := mOf_at hy hz
  rw [hat]
  have hyy := h.anti y z hy hz
  by_cases c : x = y ∨ x = z
  · rw [if_pos c]
    rcases c with rfl | rfl
    · by_cases c2 : x = z
      · subst c2
        rw [if_pos rfl, if_pos rfl]
        omega
      · by_cases c3 : z ∈ pre
        · rw [if_neg (by simp [hn, c3]), if_pos (by simp [c3])]
          omega
        · rw [if_pos (by simp [hn, c3]), if_neg (by simp [c3, Ne.symm c2])]
    · by_cases c2 : x = y
      · subst c2
        rw [if_pos rfl, if_pos rfl]
        omega
      · by_cases c3 : y ∈ pre
        · rw [if_neg (by simp [hn, c3]), if_pos (by simp [c3])]
          omega
        · rw [if_pos (by simp [hn, c3]), if_neg (by simp [c3, Ne.symm c2])]
  · rw [if_neg c]
    have c1 : ¬ y = x := fun e => c (.inl e.symm)
    have c2 : ¬ z = x := fun e => c (.inr e.symm)
    have e1 : decide (y ∈ pre ++ [x]) = decide (y ∈ pre) := by simp [c1]
    have e2 : decide (z ∈ pre ++ [x]) = decide (z ∈ pre) := by simp [c2]
    rw [e1, e2, Int.add_zero]
theorem Tp_turn {n : Nat} {w : Mx} {s : Int} (h : WebS n s w) {pre : List Nat} {x : Nat} (hx : x < n) (hn : x ∉ pre) (h1 : ∀ y, y ∈ pre → at2 w y x ≤ 0) (h2 : ∀ z, z < n → z ∉ pre → at2 w x z ≤ 0) : frameLines (Wp w n pre) (Tp n pre) x = Tp n (pre ++ [x]) := by
  have e : frameLines (Wp w n pre) (Tp n pre) x = mOf n fun i z => if z = x then -(at2 (Tp n pre) i z) else at2 (Tp n pre) i z + addedBy (at2 (Tp n pre) i x) (at2 (Wp w n pre) x z) := by
    unfold frameLines
    have := map_range_getD [] (frameLine (Wp w n pre) x) (Tp n pre)
    rw [← this, (Tp_sq n pre).len]
    unfold mOf
    refine List.map_congr_left fun i hi => ?_
    unfold frameLine
    rw [(Wp_sq w n pre).len]
    rfl
  rw [e]
  show mOf n _ = mOf n _
  refine mOf_congr fun i z hi hz => ?_
  have a1 : at2 (Tp n pre) i z = if i = z then (if z ∈ pre then -1 else 1) else 0 := mOf_at hi hz
  have a2 : at2 (Tp n pre) i x = if i = x then (if x ∈ pre then -1 else 1) else 0 := mOf_at hi hx
  have r1 := Wp_row h hx hz hn h1 h2
  have a3 : 0 ≤ at2 (Tp n pre) i x := by
    rw [a2, if_neg hn]
    split <;> omega
  rw [addedBy_no a3 r1, a1]
  by_cases c : z = x
  · subst c
    rw [if_pos rfl, if_neg hn]
    have : z ∈ pre ++ [z] := by simp
    rw [if_pos this]
    split <;> omega
  · rw [if_neg c]
    have e1 : (z ∈ pre ++ [x]) ↔ z ∈ pre := by simp [c]
    simp only [e1, Int.add_zero]
theorem col_mOf {n : Nat} {F : Nat → Nat → Int} {x : Nat} (hx : x < n) : col (mOf n F) x = (List.range n).map fun i => F i x := by
  unfold col mOf
  rw [List.map_map]
  refine List.map_congr_left fun i hi => ?_
  simp [hx]
theorem Tp_green {n : Nat} {pre : List Nat} {x : Nat} (hx : x < n) (hn : x ∉ pre) : x ∈ greensOf (Tp n pre) := by
  unfold greensOf
  rw [(Tp_sq n pre).len]
  refine List.mem_filter.mpr ⟨List.mem_range.mpr hx, decide_eq_true ?_⟩
  have hm := imin_mem (ns := col (Tp n pre) x) (by unfold col; rw [List.length_map, (Tp_sq n pre).len]; omega)
  unfold Tp at hm ⊢
  rw [col_mOf hx] at hm ⊢
  obtain ⟨i, _, e⟩ := List.mem_map.mp hm
  rw [← e, if_neg hn]
  split <;> omega
theorem Tp_end {n : Nat} {pre : List Nat} (h : ∀ x, x < n → x ∈ pre) : greensOf (Tp n pre) = [] := by
  unfold greensOf
  rw [(Tp_sq n pre).len]
  refine List.filter_eq_nil_iff.mpr fun x hx hg => ?_
  have hx := List.mem_range.mp hx
  have hg' : 0 ≤ imin (col (Tp n pre) x) := of_decide_eq_true hg
  unfold Tp at hg'
  rw [col_mOf hx] at hg'
  have := imin_le (ns := (List.range n).map fun i => if i = x then (if x ∈ pre then (-1 : Int) else 1) else 0) (y := -1) (List.mem_map.mpr ⟨x, List.mem_range.mpr hx, by rw [if_pos rfl, if_pos (h x hx)]⟩)
  omega
theorem Wp_small {n : Nat} {w : Mx} (h : WebS n 1 w) (pre : List Nat) : isSmall (Wp w n pre) = true := by
  rw [isSmall_iff]
  refine mOf_bd fun y z hy hz => ?_
  have := h.bd.at (by decide) y z
  split <;> omega
theorem Tp_small (n : Nat) (pre : List Nat) : isSmall (Tp n pre) = true := by
  rw [isSmall_iff]
  refine mOf_bd fun y z hy hz => ?_
  split
  · split <;> omega
  · omega
theorem sink_go {n : Nat} {w : Mx} (h : WebS n 1 w) : ∀ (rest pre : List Nat), (pre ++ rest).Nodup → (∀ x, x ∈ pre ++ rest → x < n) → (∀ x, x < n → x ∈ pre ++ rest) → (pre ++ rest).Pairwise (fun x y => at2 w x y ≤ 0) →
    GAlong (Wp w n pre) (Tp n pre) rest ∧ turns (Wp w n pre) (Tp n pre) rest = (Wp w n (pre ++ rest), Tp n (pre ++ rest))
  | [], pre, _, _, _, _ => by
    rw [List.append_nil]
    exact ⟨trivial, rfl⟩
  | x :: rest, pre, nd, lt, cov, pw => by
    have hx : x < n := lt x (by simp)
    have hnp : x ∉ pre := fun hm => by
      rw [List.nodup_append] at nd
      exact nd.2.2 x hm x (by simp) rfl
    rw [List.pairwise_append] at pw
    have h1 : ∀ y, y ∈ pre → at2 w y x ≤ 0 := fun y hy => pw.2.2 y hy x (by simp)
    have h2 : ∀ z, z < n → z ∉ pre → at2 w x z ≤ 0 := fun z hz hzp => by
      have := cov z hz
      rcases List.mem_append.mp this with q | q
      · exact absurd q hzp
      · rcases List.mem_cons.mp q with rfl | q
        · have := h.anti z z hz hz
          omega
        · exact (List.pairwise_cons.mp pw.2.1).1 z q
    have e1 := Wp_turn h hx hnp h1 h2
    have e2 := Tp_turn h hx hnp h1 h2
    have ea : pre ++ x :: rest = (pre ++ [x]) ++ rest := by simp
    obtain ⟨g1, g2⟩ := sink_go h rest (pre ++ [x]) (ea ▸ nd) (ea ▸ lt) (ea ▸ cov) (by
      rw [← ea, List.pairwise_append]
      exact pw)
    refine ⟨⟨Tp_green hx hnp, by rw [e1]; exact Wp_small h _, by rw [e2]; exact Tp_small n _, by rw [e1, e2]; exact g1⟩, ?_⟩
    show turns (behindTurn (Wp w n pre) x) (frameLines (Wp w n pre) (Tp n pre) x) rest = _
    rw [e1, e2, g2, ea]
theorem sinkLoop_ok (w : Mx) : ∀ (k : Nat) (left found row : List Nat), left.length = k → left.Nodup → sinkLoop w k left found = some row → ∃ rest, row = found ++ rest ∧ rest.length = k ∧ rest.Nodup ∧ (∀ x, x ∈ rest → x ∈ left) ∧ rest.Pairwise (fun x y => at2 w x y ≤ 0)
  | 0, left, found, row, _, _, h => ⟨[], by rw [List.append_nil]; exact (Option.some.inj h).symm, rfl, List.nodup_nil, (fun x h => by cases h), .nil⟩
  | k + 1, left, found, row, hl, nd, h => by
    have h' : (match left.filter (isSink w left) with | [] => none | x :: _ => sinkLoop w k (left.erase x) (found ++ [x])) = some row := h
    cases hf : left.filter (isSink w left) with
    | nil => rw [hf] at h'; cases h'
    | cons x r =>
      rw [hf] at h'
      have hxf : x ∈ left.filter (isSink w left) := by rw [hf]; simp
      obtain ⟨hx, hs⟩ := List.mem_filter.mp hxf
      have hs' := of_decide_eq_true hs
      have hs2 : (left.filter fun z => decide (0 < at2 w x z)) = [] := List.map_eq_nil_iff.mp hs'
      have hle : ∀ z, z ∈ left → at2 w x z ≤ 0 := fun z hz => by
        have := List.filter_eq_nil_iff.mp hs2 z hz
        have h3 : ¬ 0 < at2 w x z := fun q => this (decide_eq_true q)
        omega
      obtain ⟨rest, e, h1, h2, h3, h4⟩ := sinkLoop_ok w k (left.erase x) (found ++ [x]) row (by rw [List.length_erase_of_mem hx, hl]; rfl) (nd.erase x) h'
      refine ⟨x :: rest, by rw [e]; simp, by rw [List.length_cons, h1], List.nodup_cons.mpr ⟨fun q => ?_, h2⟩, fun y hy => ?_, List.pairwise_cons.mpr ⟨fun y hy => hle y (List.mem_of_mem_erase (h3 y hy)), h4⟩⟩
      · have := h3 x q
        exact (nd.not_mem_erase) this
      · rcases List.mem_cons.mp hy with rfl | hy
        · exact hx
        · exact List.mem_of_mem_erase (h3 y hy)
theorem nodup_len : ∀ (n : Nat) (l : List Nat), l.Nodup → (∀ x, x ∈ l → x < n) → l.length ≤ n
  | 0, l, _, h => by
    cases l with
    | nil => exact Nat.le_refl _
    | cons a l => exact absurd (h a (by simp)) (by omega)
  | n + 1, l, nd, h => by
    have h1 := nodup_len n (l.erase n) (nd.erase n) fun x hx => by
      have hx1 := h x (List.mem_of_mem_erase hx)
      have hx2 : x ≠ n := fun e => by
        subst e
        exact nd.not_mem_erase hx
      omega
    by_cases hm : n ∈ l
    · have := List.length_erase_of_mem hm
      have : 0 < l.length := List.length_pos_of_mem hm
      omega
    · rw [List.erase_of_not_mem hm] at h1
      omega
theorem cover {n : Nat} {l : List Nat} (nd : l.Nodup) (hl : l.length = n) (lt : ∀ x, x ∈ l → x < n) : ∀ x, x < n → x ∈ l := fun x hx => by
  by_cases hm : x ∈ l
  · exact hm
  · have := nodup_len n (x :: l) (List.nodup_cons.mpr ⟨hm, nd⟩) fun y hy => (List.mem_cons.mp hy).elim (fun e => e ▸ hx) (lt y)
    rw [List.length_cons] at this
    omega
theorem galong_at : ∀ (r : List Nat) (w t : Mx) (i : Nat), GAlong w t r → i < r.length → r.getD i 0 ∈ greensOf (turns w t (r.take i)).2
  | [], _, _, i, _, h => by simp at h
  | x :: r, w, t, 0, ⟨a, _⟩, _ => a
  | x :: r, w, t, i + 1, ⟨_, _, _, d⟩, h => galong_at r (behindTurn w x) (frameLines w t x) i d (by simpa using h)
theorem sinks_ok {n : Nat} {w : Mx} {row : List Nat} (hn : n ≤ 5) (h : WebS n 1 w) (e : lawSinks w = some row) : row.length ≤ 100 ∧ Along w (firstFrame n) row ∧
    (∀ i, i < row.length → row.getD i 0 ∈ greensOf (turns w (firstFrame n) (row.take i)).2) ∧ greensOf (turns w (firstFrame n) row).2 = [] ∧ greenRow w ≠ none := by
  unfold lawSinks at e
  rw [h.sq.len] at e
  obtain ⟨rest, e1, h1, h2, h3, h4⟩ := sinkLoop_ok w n (List.range n) [] row (by simp) List.nodup_range e
  obtain rfl : row = rest := by rw [e1]; rfl
  have lt : ∀ x, x ∈ row → x < n := fun x hx => List.mem_range.mp (h3 x hx)
  have cov := cover h2 h1 lt
  obtain ⟨g1, g2⟩ := sink_go h row [] h2 lt cov h4
  have ew : Wp w n [] = w := by
    refine Eq.trans ?_ h.sq.eta.symm
    unfold Wp
    simp
  have et : Tp n [] = firstFrame n := by
    unfold Tp firstFrame mOf
    refine List.map_congr_left fun y _ => List.map_congr_left fun x _ => ?_
    by_cases c : y = x
    · subst c
      simp [b2]
    · have c' : ¬ x = y := fun q => c q.symm
      simp [b2, c, c']
  rw [ew, et] at g1 g2
  have hend : greensOf (turns w (firstFrame n) row).2 = [] := by
    rw [g2]
    exact Tp_end cov
  have hg := h.good (by omega) (by omega)
  exact ⟨by omega, (g1.along hg.sq (firstFrame_sq n)).1, fun i hi => galong_at row w _ i g1 hi, hend, green_some hg (by omega) g1 hend⟩
end G
set_option maxRecDepth 100000
set_option maxHeartbeats 1000000
/-! M3: a check of all green rows of a web, for the kernel: rows of numbers packed into one number each (digits of 22 bits). -/
namespace G
/-! ### the check, by recursors -/
noncomputable section
def sel (b t e : Bool) : Bool := @Bool.rec (fun _ => Bool) e t b
def selN (b : Bool) (t e : Nat) : Nat := @Bool.rec (fun _ => Nat) e t b
def frc (n : Nat) (f : Nat → Bool) : Bool := @Nat.rec (fun _ => Bool) (f 0) (fun k _ => f (Nat.succ k)) n
def frcL (l : List Nat) : (List Nat → Bool) → Bool := @List.rec Nat (fun _ => (List Nat → Bool) → Bool) (fun f => f []) (fun a _ ih f => frc a (fun a => ih (fun l => f (a :: l)))) l
def posP (n : Nat) : Nat → Nat := @Nat.rec (fun _ => Nat → Nat) (fun _ => 0) (fun _ ih r => Nat.add (Nat.sub (Nat.mod r 4194304) 2097152) (Nat.mul 4194304 (ih (Nat.div r 4194304)))) n
def negP (n : Nat) : Nat → Nat := @Nat.rec (fun _ => Nat → Nat) (fun _ => 0) (fun _ ih r => Nat.add (Nat.sub 2097152 (Nat.mod r 4194304)) (Nat.mul 4194304 (ih (Nat.div r 4194304)))) n
def mtlD (o p q b r d : Nat) : Nat := selN (Nat.ble o d) (Nat.sub (Nat.add r (Nat.mul (Nat.sub d o) p)) (Nat.mul (Nat.mul 2 (Nat.sub d o)) b))
  (Nat.sub (Nat.add r (Nat.mul (Nat.mul 2 (Nat.sub o d)) b)) (Nat.mul (Nat.sub o d) q))
def mtl (p q b r : Nat) : Nat := @Nat.rec (fun _ => Nat) (mtlD 2097152 p q b r 0) (fun d _ => mtlD 2097152 p q b r (Nat.succ d)) (Nat.mod (Nat.div r b) 4194304)
def mapT (p q b : Nat) (l : List Nat) : (List Nat → Bool) → Bool := @List.rec Nat (fun _ => (List Nat → Bool) → Bool) (fun f => f []) (fun a _ ih f => frc (mtl p q b a) (fun a => ih (fun l => f (a :: l)))) l
def mapW (z2 p q b x : Nat) (l : List Nat) : Nat → (List Nat → Bool) → Bool := @List.rec Nat (fun _ => Nat → (List Nat → Bool) → Bool) (fun _ f => f []) (fun a _ ih i f =>
  frc (selN (Nat.beq i x) (Nat.sub z2 a) (mtl p q b a)) (fun a => ih (Nat.succ i) (fun l => f (a :: l)))) l
def nth (l : List Nat) : Nat → Nat := @List.rec Nat (fun _ => Nat → Nat) (fun _ => 0) (fun a _ ih x => @Nat.rec (fun _ => Nat) a (fun y _ => ih y) x) l
def greenB (b : Nat) (t : List Nat) : Bool := @List.rec Nat (fun _ => Bool) true (fun l _ ih => sel (Nat.ble 2097152 (Nat.mod (Nat.div l b) 4194304)) ih false) t
def flags (t : List Nat) (n : Nat) : Nat → (List Bool → Bool) → Bool := @Nat.rec (fun _ => Nat → (List Bool → Bool) → Bool) (fun _ f => f []) (fun _ ih b f =>
  sel (greenB b t) (ih (Nat.mul b 4194304) (fun l => f (true :: l))) (ih (Nat.mul b 4194304) (fun l => f (false :: l)))) n
def nthB (l : List Bool) : Nat → Bool := @List.rec Bool (fun _ => Nat → Bool) (fun _ => false) (fun a _ ih x => @Nat.rec (fun _ => Bool) a (fun y _ => ih y) x) l
def cntB (l : List Bool) : Nat := @List.rec Bool (fun _ => Nat) 0 (fun a _ ih => selN a (Nat.succ ih) ih) l
def memB (a : Nat) (l : List Nat) : Bool := @List.rec Nat (fun _ => Bool) false (fun b _ ih => sel (Nat.beq a b) true ih) l
def lastB (last : List Nat) (l : List Nat) : Bool := @List.rec Nat (fun _ => Bool) true (fun a r ih => sel (memB a last) (sel (memB a r) false ih) false) l
def allX (m : Nat) (f : Nat → Nat → Bool) : Nat → Nat → Bool := @Nat.rec (fun _ => Nat → Nat → Bool) (fun _ _ => true) (fun _ ih x b => sel (f x b) (ih (Nat.succ x) (Nat.mul b 4194304)) false) m
/-- m: how many nodes may be turned now -/
def chk (n z2 : Nat) (last : List Nat) (k : Nat) : Nat → List Nat → List Nat → List Bool → Bool :=
  @Nat.rec (fun _ => Nat → List Nat → List Nat → List Bool → Bool) (fun _ _ _ _ => true) (fun k ih m w t g =>
    allX m (fun x b => sel (nthB g x)
      (frc (nth w x) (fun r => frc (posP n r) (fun p => frc (negP n r) (fun q =>
        mapT p q b t (fun t' => flags t' n 1 (fun g' => frc (cntB g') (fun c =>
          sel (Nat.beq c 0) (lastB last t')
            (sel (Nat.ble c k) (mapW z2 p q b x w 0 (fun w' => sel (Nat.beq (Nat.succ x) m) (sel (Nat.beq m n) (ih m w' t' g') (ih (Nat.succ m) w' t' g')) (ih m w' t' g'))) true)))))))) true) 0 1) k
end
/-! ### what its parts are -/
theorem sel_t (t e : Bool) : sel true t e = t := rfl
theorem sel_f (t e : Bool) : sel false t e = e := rfl
theorem frc_eq (n : Nat) (f : Nat → Bool) : frc n f = f n := by cases n <;> rfl
theorem frcL_eq : ∀ (l : List Nat) (f : List Nat → Bool), frcL l f = f l
  | [], _ => rfl
  | a :: l, f => by
    show frc a (fun a => frcL l (fun l => f (a :: l))) = _
    rw [frc_eq, frcL_eq l]
theorem mtl_eq (p q b r : Nat) : mtl p q b r = mtlD 2097152 p q b r (r / b % 4194304) := by
  unfold mtl
  show @Nat.rec (fun _ => Nat) (mtlD 2097152 p q b r 0) (fun d _ => mtlD 2097152 p q b r (Nat.succ d)) (r / b % 4194304) = _
  cases r / b % 4194304 <;> rfl
theorem mapT_eq (p q b : Nat) : ∀ (l : List Nat) (f : List Nat → Bool), mapT p q b l f = f (l.map (mtl p q b))
  | [], _ => rfl
  | a :: l, f => by
    show frc (mtl p q b a) (fun a => mapT p q b l (fun l => f (a :: l))) = _
    rw [frc_eq, mapT_eq p q b l]
    rfl
theorem mapW_eq (z2 p q b x : Nat) (g : Nat → Nat) : ∀ (k i : Nat) (f : List Nat → Bool), mapW z2 p q b x ((List.range' i k).map g) i f = f ((List.range' i k).map fun y => if y = x then z2 - g y else mtl p q b (g y))
  | 0, _, _ => rfl
  | k + 1, i, f => by
    rw [List.range'_succ, List.map_cons, List.map_cons]
    show frc (selN (Nat.beq i x) (Nat.sub z2 (g i)) (mtl p q b (g i))) (fun a => mapW z2 p q b x ((List.range' (i + 1) k).map g) (i + 1) (fun l => f (a :: l))) = _
    rw [frc_eq, mapW_eq z2 p q b x g k (i + 1)]
    by_cases e : i = x
    · subst e
      rw [if_pos rfl, show Nat.beq i i = true from Nat.beq_refl i]
      rfl
    · rw [if_neg e, show Nat.beq i x = false from Bool.eq_false_iff.mpr fun h => e (Nat.eq_of_beq_eq_true h)]
      rfl
theorem nth_eq : ∀ (l : List Nat) (x : Nat), nth l x = l.getD x 0
  | [], _ => rfl
  | a :: l, 0 => rfl
  | a :: l, x + 1 => nth_eq l x
theorem nthB_eq : ∀ (l : List Bool) (x : Nat), nthB l x = l.getD x false
  | [], _ => rfl
  | a :: l, 0 => rfl
  | a :: l, x + 1 => nthB_eq l x
theorem flags_eq (t : List Nat) : ∀ (k i : Nat) (f : List Bool → Bool), flags t k (4194304 ^ i) f = f ((List.range' i k).map fun x => greenB (4194304 ^ x) t)
  | 0, _, _ => rfl
  | k + 1, i, f => by
    rw [List.range'_succ, List.map_cons]
    show sel (greenB (4194304 ^ i) t) (flags t k (4194304 ^ i * 4194304) (fun l => f (true :: l))) (flags t k (4194304 ^ i * 4194304) (fun l => f (false :: l))) = _
    rw [← Nat.pow_succ, flags_eq t k (i + 1), flags_eq t k (i + 1)]
    cases greenB (4194304 ^ i) t <;> rfl
theorem cntB_eq : ∀ l : List Bool, cntB l = (l.filter id).length
  | [] => rfl
  | true :: l => by
    show Nat.succ (cntB l) = _
    rw [cntB_eq l]
    rfl
  | false :: l => cntB_eq l
theorem greenB_iff (b : Nat) : ∀ t : List Nat, greenB b t = true ↔ ∀ l, l ∈ t → 2097152 ≤ l / b % 4194304
  | [] => ⟨fun _ l h => (by cases h), fun _ => rfl⟩
  | a :: t => by
    show sel (Nat.ble 2097152 (a / b % 4194304)) (greenB b t) false = true ↔ _
    cases h : Nat.ble 2097152 (a / b % 4194304) with
    | true =>
      rw [sel_t, greenB_iff b t]
      have := Nat.le_of_ble_eq_true h
      exact ⟨fun h2 l hl => (List.mem_cons.mp hl).elim (fun e => e ▸ this) (h2 l), fun h2 l hl => h2 l (List.mem_cons_of_mem _ hl)⟩
    | false =>
      rw [sel_f]
      refine ⟨fun h2 => (by cases h2), fun h2 => ?_⟩
      have := Nat.ble_eq_true_of_le (h2 a (by simp))
      rw [h] at this
      cases this
theorem memB_iff (a : Nat) : ∀ l : List Nat, memB a l = true ↔ a ∈ l
  | [] => ⟨fun h => (by cases h), fun h => (by cases h)⟩
  | b :: l => by
    show sel (Nat.beq a b) true (memB a l) = true ↔ _
    cases h : Nat.beq a b with
    | true =>
      have := Nat.eq_of_beq_eq_true h
      subst this
      exact ⟨fun _ => by simp, fun _ => rfl⟩
    | false =>
      rw [sel_f, memB_iff a l]
      have : a ≠ b := fun e => by
        rw [e, Nat.beq_refl] at h
        cases h
      simp [this]
theorem lastB_ok (last : List Nat) : ∀ l : List Nat, lastB last l = true → (∀ a, a ∈ l → a ∈ last) ∧ l.Nodup
  | [], _ => ⟨fun a h => (by cases h), List.nodup_nil⟩
  | a :: l, h => by
    have h' : sel (memB a last) (sel (memB a l) false (lastB last l)) false = true := h
    cases h1 : memB a last with
    | false => rw [h1] at h'; cases h'
    | true =>
      cases h2 : memB a l with
      | true => rw [h1, h2] at h'; cases h'
      | false =>
        rw [h1, h2] at h'
        obtain ⟨h3, h4⟩ := lastB_ok last l h'
        refine ⟨fun b hb => (List.mem_cons.mp hb).elim (fun e => e ▸ (memB_iff a last).mp h1) (h3 b), List.nodup_cons.mpr ⟨fun hm => ?_, h4⟩⟩
        rw [(memB_iff a l).mpr hm] at h2
        cases h2
theorem allX_ok (f : Nat → Nat → Bool) : ∀ (m i : Nat), allX m f i (4194304 ^ i) = true → ∀ x, i ≤ x → x < i + m → f x (4194304 ^ x) = true
  | 0, i, _, x, h1, h2 => by omega
  | m + 1, i, h, x, h1, h2 => by
    have h' : sel (f i (4194304 ^ i)) (allX m f (i + 1) (4194304 ^ i * 4194304)) false = true := h
    rw [← Nat.pow_succ] at h'
    cases e : f i (4194304 ^ i) with
    | false => rw [e] at h'; cases h'
    | true =>
      rw [e] at h'
      by_cases ex : x = i
      · rw [ex]
        exact e
      · exact allX_ok f m (i + 1) h' x (by omega) (by omega)
/-! ### packed rows -/
def inR (a : Int) : Prop := -2097152 ≤ a ∧ a < 2097152
def pkN : Nat → (Nat → Int) → Nat
  | 0, _ => 0
  | k + 1, f => (f 0 + 2097152).toNat + 4194304 * pkN k fun z => f (z + 1)
def low : Nat → (Nat → Int) → Int
  | 0, _ => 0
  | k + 1, f => f 0 + 4194304 * low k fun z => f (z + 1)
theorem pkN_congr : ∀ (k : Nat) (f g : Nat → Int), (∀ z, z < k → f z = g z) → pkN k f = pkN k g
  | 0, _, _, _ => rfl
  | k + 1, f, g, h => by
    show (f 0 + 2097152).toNat + 4194304 * pkN k (fun z => f (z + 1)) = (g 0 + 2097152).toNat + 4194304 * pkN k (fun z => g (z + 1))
    rw [h 0 (by omega), pkN_congr k (fun z => f (z + 1)) (fun z => g (z + 1)) fun z hz => h (z + 1) (by omega)]
theorem low_congr : ∀ (k : Nat) (f g : Nat → Int), (∀ z, z < k → f z = g z) → low k f = low k g
  | 0, _, _, _ => rfl
  | k + 1, f, g, h => by
    show f 0 + 4194304 * low k (fun z => f (z + 1)) = g 0 + 4194304 * low k (fun z => g (z + 1))
    rw [h 0 (by omega), low_congr k (fun z => f (z + 1)) (fun z => g (z + 1)) fun z hz => h (z + 1) (by omega)]
theorem pk_low : ∀ (k : Nat) (f : Nat → Int), (∀ z, z < k → inR (f z)) → (pkN k f : Int) = low k f + low k (fun _ => 2097152)
  | 0, _, _ => rfl
  | k + 1, f, h => by
    have ih := pk_low k (fun z => f (z + 1)) fun z hz => h (z + 1) (by omega)
    have h0 := h 0 (by omega)
    unfold inR at h0
    show (((f 0 + 2097152).toNat + 4194304 * pkN k (fun z => f (z + 1)) : Nat) : Int) = (f 0 + 4194304 * low k (fun z => f (z + 1))) + (2097152 + 4194304 * low k (fun _ => 2097152))
    generalize pkN k (fun z => f (z + 1)) = a at ih ⊢
    generalize low k (fun z => f (z + 1)) = b at ih ⊢
    generalize low k (fun _ => 2097152) = c at ih ⊢
    omega
theorem low_lin : ∀ (k : Nat) (f g : Nat → Int) (c : Int), low k (fun z => f z + c * g z) = low k f + c * low k g
  | 0, _, _, c => by
    show (0 : Int) = 0 + c * 0
    omega
  | k + 1, f, g, c => by
    have ih := low_lin k (fun z => f (z + 1)) (fun z => g (z + 1)) c
    show (f 0 + c * g 0) + 4194304 * low k (fun z => f (z + 1) + c * g (z + 1)) = (f 0 + 4194304 * low k (fun z => f (z + 1))) + c * (g 0 + 4194304 * low k (fun z => g (z + 1)))
    have e : c * (g 0 + 4194304 * low k (fun z => g (z + 1))) = c * g 0 + 4194304 * (c * low k (fun z => g (z + 1))) := by rw [Int.mul_add, Int.mul_left_comm]
    rw [ih, e]
    generalize low k (fun z => f (z + 1)) = a
    generalize c * low k (fun z => g (z + 1)) = b
    generalize c * g 0 = d
    omega
theorem low_zero : ∀ k : Nat, low k (fun _ => 0) = 0
  | 0 => rfl
  | k + 1 => by
    show 0 + 4194304 * low k (fun _ => 0) = 0
    rw [low_zero k]
    rfl
theorem low_delta : ∀ (k x : Nat) (c : Int), x < k → low k (fun z => if z = x then c else 0) = c * ((4194304 ^ x : Nat) : Int)
  | k + 1, 0, c, _ => by
    show c + 4194304 * low k (fun z => if z + 1 = 0 then c else 0) = c * ((4194304 ^ 0 : Nat) : Int)
    rw [low_congr k (fun z => if z + 1 = 0 then c else 0) (fun _ => 0) fun z _ => if_neg (by omega), low_zero]
    simp
  | k + 1, x + 1, c, h => by
    show (if 0 = x + 1 then c else 0) + 4194304 * low k (fun z => if z + 1 = x + 1 then c else 0) = c * ((4194304 ^ (x + 1) : Nat) : Int)
    rw [if_neg (by omega), low_congr k (fun z => if z + 1 = x + 1 then c else 0) (fun z => if z = x then c else 0) fun z _ => by
      by_cases e : z = x
      · rw [if_pos e, if_pos (by omega)]
      · rw [if_neg e, if_neg (by omega)], low_delta k x c (by omega), Nat.pow_succ, Int.natCast_mul]
    rw [Int.mul_left_comm, Int.mul_comm ((4194304 ^ x : Nat) : Int)]
    simp
theorem pk_digit : ∀ (k x : Nat) (f : Nat → Int), (∀ z, z < k → inR (f z)) → x < k → pkN k f / 4194304 ^ x % 4194304 = (f x + 2097152).toNat
  | k + 1, 0, f, h, _ => by
    have h0 := h 0 (by omega)
    unfold inR at h0
    show ((f 0 + 2097152).toNat + 4194304 * pkN k (fun z => f (z + 1))) / 4194304 ^ 0 % 4194304 = _
    rw [Nat.pow_zero, Nat.div_one]
    omega
  | k + 1, x + 1, f, h, hx => by
    have h0 := h 0 (by omega)
    unfold inR at h0
    show ((f 0 + 2097152).toNat + 4194304 * pkN k (fun z => f (z + 1))) / 4194304 ^ (x + 1) % 4194304 = _
    rw [Nat.pow_succ, Nat.mul_comm (4194304 ^ x), ← Nat.div_div_eq_div_mul]
    have e : ((f 0 + 2097152).toNat + 4194304 * pkN k (fun z => f (z + 1))) / 4194304 = pkN k (fun z => f (z + 1)) := by omega
    rw [e]
    exact pk_digit k x (fun z => f (z + 1)) (fun z hz => h (z + 1) (by omega)) (by omega)
theorem pk_inj {k : Nat} {f g : Nat → Int} (hf : ∀ z, z < k → inR (f z)) (hg : ∀ z, z < k → inR (g z)) (e : pkN k f = pkN k g) : ∀ z, z < k → f z = g z := fun z hz => by
  have h1 := pk_digit k z f hf hz
  have h2 := pk_digit k z g hg hz
  rw [e, h2] at h1
  have a := hf z hz
  have b := hg z hz
  unfold inR at a b
  omega
/-- the positive part -/
def pp : Nat → (Nat → Int) → Nat
  | 0, _ => 0
  | k + 1, f => (f 0).toNat + 4194304 * pp k fun z => f (z + 1)
theorem posP_eq : ∀ (k : Nat) (f : Nat → Int), (∀ z, z < k → inR (f z)) → posP k (pkN k f) = pp k f
  | 0, _, _ => rfl
  | k + 1, f, h => by
    have h0 := h 0 (by omega)
    unfold inR at h0
    show (((f 0 + 2097152).toNat + 4194304 * pkN k (fun z => f (z + 1))) % 4194304 - 2097152) + 4194304 * posP k (((f 0 + 2097152).toNat + 4194304 * pkN k (fun z => f (z + 1))) / 4194304) = _
    have e : ((f 0 + 2097152).toNat + 4194304 * pkN k (fun z => f (z + 1))) / 4194304 = pkN k (fun z => f (z + 1)) := by omega
    have e2 : ((f 0 + 2097152).toNat + 4194304 * pkN k (fun z => f (z + 1))) % 4194304 - 2097152 = (f 0).toNat := by omega
    rw [e, e2, posP_eq k (fun z => f (z + 1)) fun z hz => h (z + 1) (by omega)]
    rfl
theorem negP_eq : ∀ (k : Nat) (f : Nat → Int), (∀ z, z < k → inR (f z)) → negP k (pkN k f) = pp k fun z => -(f z)
  | 0, _, _ => rfl
  | k + 1, f, h => by
    have h0 := h 0 (by omega)
    unfold inR at h0
    show (2097152 - ((f 0 + 2097152).toNat + 4194304 * pkN k (fun z => f (z + 1))) % 4194304) + 4194304 * negP k (((f 0 + 2097152).toNat + 4194304 * pkN k (fun z => f (z + 1))) / 4194304) = _
    have e : ((f 0 + 2097152).toNat + 4194304 * pkN k (fun z => f (z + 1))) / 4194304 = pkN k (fun z => f (z + 1)) := by omega
    have e2 : 2097152 - ((f 0 + 2097152).toNat + 4194304 * pkN k (fun z => f (z + 1))) % 4194304 = (-(f 0)).toNat := by omega
    rw [e, e2, negP_eq k (fun z => f (z + 1)) fun z hz => h (z + 1) (by omega)]
    rfl
theorem pp_low : ∀ (k : Nat) (f : Nat → Int), (pp k f : Int) = low k fun z => ((f z).toNat : Int)
  | 0, _ => rfl
  | k + 1, f => by
    have ih := pp_low k fun z => f (z + 1)
    show (((f 0).toNat + 4194304 * pp k (fun z => f (z + 1)) : Nat) : Int) = ((f 0).toNat : Int) + 4194304 * low k (fun z => ((f (z + 1)).toNat : Int))
    rw [← ih]
    simp
theorem addedBy_pos {l r : Int} (h : 0 ≤ l) : addedBy l r = l * (r.toNat : Int) := by
  rw [addedBy_eq, if_neg (show ¬ (l < 0 ∧ r < 0) by omega), Int.sub_zero]
  by_cases h2 : 0 < l ∧ 0 < r
  · rw [if_pos h2]
    congr 1
    omega
  · rw [if_neg h2]
    by_cases h3 : l = 0
    · rw [h3, Int.zero_mul]
    · have : r.toNat = 0 := by omega
      rw [this]
      simp
theorem addedBy_neg {l r : Int} (h : l < 0) : addedBy l r = l * ((-r).toNat : Int) := by
  rw [addedBy_eq, if_neg (show ¬ (0 < l ∧ 0 < r) by omega), Int.zero_sub]
  by_cases h2 : l < 0 ∧ r < 0
  · rw [if_pos h2]
    have : ((-r).toNat : Int) = -r := by omega
    rw [this, Int.mul_neg]
  · rw [if_neg h2]
    have : (-r).toNat = 0 := by omega
    rw [this]
    simp
def turnF (x : Nat) (f ρ : Nat → Int) : Nat → Int := fun z => if z = x then -(f z) else f z + addedBy (f x) (ρ z)
theorem mtlD_pos {o p q b r d : Nat} (h : o ≤ d) : mtlD o p q b r d = r + (d - o) * p - 2 * (d - o) * b := by
  unfold mtlD
  rw [Nat.ble_eq_true_of_le h]
  rfl
theorem mtlD_neg {o p q b r d : Nat} (h : ¬ o ≤ d) : mtlD o p q b r d = r + 2 * (o - d) * b - (o - d) * q := by
  unfold mtlD
  rw [Bool.eq_false_iff.mpr fun e => h (Nat.le_of_ble_eq_true e)]
  rfl
theorem low_turn {n x : Nat} {f ρ : Nat → Int} {g : Nat → Int} (hx : x < n) (h0 : g x = 0) (hg : ∀ z, z < n → z ≠ x → addedBy (f x) (ρ z) = f x * g z) : low n (turnF x f ρ) = low n f + f x * low n g + (-2 * f x) * ((4194304 ^ x : Nat) : Int) := by
  rw [← low_delta n x (-2 * f x) hx, ← low_lin]
  have := low_lin n (fun z => f z + f x * g z) (fun z => if z = x then -2 * f x else 0) 1
  rw [Int.one_mul] at this
  rw [← this]
  refine low_congr n _ _ fun z hz => ?_
  unfold turnF
  by_cases e : z = x
  · subst e
    rw [if_pos rfl, if_pos rfl, h0]
    omega
  · rw [if_neg e, if_neg e, hg z hz e]
    omega
theorem nat_sub_of {a b c : Nat} (h : a = c + b) : a - b = c := by omega
theorem mtl_ok {n x : Nat} {f ρ : Nat → Int} (hx : x < n) (hf : ∀ z, z < n → inR (f z)) (h0 : ρ x = 0) (hnew : ∀ z, z < n → inR (turnF x f ρ z)) :
    mtl (pp n ρ) (pp n fun z => -(ρ z)) (4194304 ^ x) (pkN n f) = pkN n (turnF x f ρ) := by
  have hpf := pk_low n f hf
  have hpn := pk_low n (turnF x f ρ) hnew
  have hd := pk_digit n x f hf hx
  have hfx := hf x hx
  unfold inR at hfx
  rw [mtl_eq, hd]
  by_cases hp : 0 ≤ f x
  · obtain ⟨v, hv⟩ : ∃ v : Nat, f x = (v : Int) := ⟨(f x).toNat, by omega⟩
    have e1 := low_turn (ρ := ρ) (g := fun z => ((ρ z).toNat : Int)) hx (by rw [h0]; rfl) fun z _ _ => addedBy_pos hp
    rw [← pp_low, hv] at e1
    rw [mtlD_pos (by omega)]
    have hv2 : (f x + 2097152).toNat - 2097152 = v := by omega
    rw [hv2]
    refine nat_sub_of ?_
    generalize (4194304 ^ x : Nat) = b at e1 ⊢
    generalize pp n ρ = P at e1 ⊢
    apply Int.ofNat_inj.mp
    rw [Int.natCast_add, Int.natCast_add, Int.natCast_mul, Int.natCast_mul, Int.natCast_mul, hpf, hpn, e1]
    have : (-2 * (v : Int)) * (b : Int) = -(((2 : Nat) : Int) * (v : Int) * (b : Int)) := by
      rw [← Int.neg_mul, ← Int.neg_mul]
      rfl
    rw [this]
    omega
  · obtain ⟨v, hv⟩ : ∃ v : Nat, f x = -(v : Int) := ⟨(-(f x)).toNat, by omega⟩
    have e1 := low_turn (ρ := ρ) (g := fun z => ((-(ρ z)).toNat : Int)) hx (by rw [h0]; rfl) fun z _ _ => addedBy_neg (l := f x) (Int.not_le.mp hp)
    rw [← pp_low n fun z => -(ρ z), hv] at e1
    rw [mtlD_neg (by omega)]
    have hv2 : 2097152 - (f x + 2097152).toNat = v := by omega
    rw [hv2]
    refine nat_sub_of ?_
    generalize (4194304 ^ x : Nat) = b at e1 ⊢
    generalize pp n (fun z => -(ρ z)) = P at e1 ⊢
    apply Int.ofNat_inj.mp
    rw [Int.natCast_add, Int.natCast_add, Int.natCast_mul, Int.natCast_mul, Int.natCast_mul, hpf, hpn, e1]
    have : (-2 * -(v : Int)) * (b : Int) = ((2 : Nat) : Int) * (v : Int) * (b : Int) := by
      rw [Int.mul_neg, ← Int.neg_mul]
      rfl
    rw [this, Int.neg_mul]
    omega
theorem neg_ok {n : Nat} {f : Nat → Int} (hf : ∀ z, z < n → inR (f z)) (hn : ∀ z, z < n → inR (-(f z))) : 2 * pkN n (fun _ => 0) - pkN n f = pkN n fun z => -(f z) := by
  have h1 := pk_low n f hf
  have h2 := pk_low n (fun z => -(f z)) hn
  have h3 := pk_low n (fun _ => 0) fun z _ => ⟨by omega, by omega⟩
  rw [low_zero] at h3
  have h4 : low n (fun z => -(f z)) = -(low n f) := by
    have := low_lin n (fun _ => 0) f (-1)
    rw [low_zero] at this
    rw [low_congr n (fun z => -(f z)) (fun z => 0 + -1 * f z) fun z _ => by omega, this]
    omega
  rw [h4] at h2
  omega
end G
set_option maxRecDepth 100000
set_option maxHeartbeats 1000000
/-! M4: the check tells of every green row that ends. -/
namespace G
theorem behindTurn_eq {n : Nat} {w : Mx} (h : Sq n w) (x : Nat) : behindTurn w x = mOf n fun y z => if x = y ∨ x = z then -(at2 w y z) else at2 w y z + addedBy (at2 w y x) (at2 w x z) := by
  unfold behindTurn
  rw [h.len]
  rfl
theorem frameLines_eq {n : Nat} {w t : Mx} (h : Sq n w) (ht : Sq n t) (x : Nat) : frameLines w t x = mOf n fun i z => if z = x then -(at2 t i z) else at2 t i z + addedBy (at2 t i x) (at2 w x z) := by
  unfold frameLines
  have := map_range_getD [] (frameLine w x) t
  rw [← this, ht.len]
  unfold mOf
  refine List.map_congr_left fun i hi => ?_
  unfold frameLine
  rw [h.len]
  rfl
theorem isGreen_iff {n : Nat} {t : Mx} (ht : Sq n t) (hn : 1 ≤ n) {x : Nat} (hx : x < n) : isGreen t x = true ↔ ∀ i, i < n → 0 ≤ at2 t i x := by
  have hc : col t x = (List.range n).map fun i => at2 t i x := by
    have := ht.eta
    rw [this, col_mOf hx]
    refine List.map_congr_left fun i hi => ?_
    rw [← this]
  unfold isGreen
  rw [decide_eq_true_iff, hc]
  refine ⟨fun h i hi => ?_, fun h => ?_⟩
  · have := imin_le (ns := (List.range n).map fun i => at2 t i x) (y := at2 t i x) (List.mem_map.mpr ⟨i, List.mem_range.mpr hi, rfl⟩)
    omega
  · have hm := imin_mem (ns := (List.range n).map fun i => at2 t i x) (by rw [List.length_map, List.length_range]; omega)
    obtain ⟨i, hi, e⟩ := List.mem_map.mp hm
    rw [← e]
    exact h i (List.mem_range.mp hi)
theorem mem_greens {n : Nat} {t : Mx} (ht : Sq n t) (hn : 1 ≤ n) {x : Nat} : x ∈ greensOf t ↔ x < n ∧ ∀ i, i < n → 0 ≤ at2 t i x := by
  unfold greensOf
  rw [ht.len, List.mem_filter, List.mem_range]
  refine ⟨fun ⟨h1, h2⟩ => ⟨h1, (isGreen_iff ht hn h1).mp h2⟩, fun ⟨h1, h2⟩ => ⟨h1, (isGreen_iff ht hn h1).mpr h2⟩⟩
theorem green_stays {n : Nat} {w t : Mx} (hw : Sq n w) (ht : Sq n t) (hn : 1 ≤ n) {x y : Nat} (hx : x ∈ greensOf t) (hy : y ∈ greensOf t) (ne : y ≠ x) : y ∈ greensOf (frameLines w t x) := by
  obtain ⟨h1, h2⟩ := (mem_greens ht hn).mp hx
  obtain ⟨h3, h4⟩ := (mem_greens ht hn).mp hy
  refine (mem_greens (hw.lines ht x) hn).mpr ⟨h3, fun i hi => ?_⟩
  rw [frameLines_eq hw ht, mOf_at hi h3, if_neg ne, addedBy_pos (h2 i hi)]
  have a := h4 i hi
  have b := Int.mul_nonneg (h2 i hi) (Int.natCast_nonneg (at2 w x y).toNat)
  omega
theorem greens_in {n : Nat} (hn : 1 ≤ n) : ∀ (row : List Nat) (w t : Mx), Sq n w → Sq n t → GAlong w t row → greensOf (turns w t row).2 = [] → ∀ y, y ∈ greensOf t → y ∈ row
  | [], w, t, _, _, _, h, y, hy => by
    have h' : greensOf t = [] := h
    rw [h'] at hy
    cases hy
  | x :: r, w, t, hw, ht, ⟨a, _, _, d⟩, h, y, hy => by
    by_cases e : y = x
    · rw [e]
      simp
    · exact List.mem_cons_of_mem _ (greens_in hn r _ _ (hw.behind x) (hw.lines ht x) d h y (green_stays hw ht hn a hy e))
theorem sub_len : ∀ (l r : List Nat), l.Nodup → (∀ x, x ∈ l → x ∈ r) → l.length ≤ r.length
  | [], r, _, _ => Nat.zero_le _
  | a :: l, r, nd, h => by
    rw [List.nodup_cons] at nd
    have ha := h a (by simp)
    have h1 := sub_len l (r.erase a) nd.2 fun x hx => by
      have hne : x ≠ a := fun e => nd.1 (e ▸ hx)
      exact (List.mem_erase_of_ne hne).mpr (h x (List.mem_cons_of_mem _ hx))
    have := List.length_erase_of_mem ha
    have : 0 < r.length := List.length_pos_of_mem ha
    rw [List.length_cons]
    omega
theorem greens_nodup (t : Mx) : (greensOf t).Nodup := by
  unfold greensOf
  exact List.nodup_range.filter _
/-! ### the state, packed -/
def rowsN (n : Nat) (F : Nat → Nat → Int) : List Nat := (List.range' 0 n).map fun y => pkN n (F y)
def flagsOf (n : Nat) (t : Mx) : List Bool := (List.range' 0 n).map (isGreen t)
def lastN (n : Nat) : List Nat := (List.range' 0 n).map fun j => pkN n fun z => if z = j then -1 else 0
theorem mem_rg {n x : Nat} : x ∈ List.range' 0 n ↔ x < n := by
  rw [← List.range_eq_range', List.mem_range]
theorem rows_map {n : Nat} {F : Nat → Nat → Int} {g : Nat → Nat} {H : Nat → Nat → Int} (h : ∀ y, y < n → g (pkN n (F y)) = pkN n (H y)) : (rowsN n F).map g = rowsN n H := by
  unfold rowsN
  rw [List.map_map]
  exact List.map_congr_left fun y hy => h y (mem_rg.mp hy)
theorem Bd.inR {B : Int} {m : Mx} (h : Bd B m) (hB : 0 ≤ B) (hB2 : B ≤ 2000000) (y z : Nat) : inR (at2 m y z) := by
  have := h.at hB y z
  unfold G.inR
  omega
theorem nth_rows {n : Nat} {F : Nat → Nat → Int} {x : Nat} (hx : x < n) : nth (rowsN n F) x = pkN n (F x) := by
  rw [nth_eq]
  unfold rowsN
  rw [← List.range_eq_range']
  simp [hx]
theorem nth_flags {n : Nat} {t : Mx} {x : Nat} (hx : x < n) : nthB (flagsOf n t) x = isGreen t x := by
  rw [nthB_eq]
  unfold flagsOf
  rw [← List.range_eq_range']
  simp [hx]
theorem filter_map_len {α : Type} (f : α → Bool) : ∀ l : List α, ((l.map f).filter id).length = (l.filter f).length
  | [] => rfl
  | a :: l => by
    rw [List.map_cons, List.filter_cons, List.filter_cons]
    cases h : f a with
    | true =>
      show ((l.map f).filter id).length + 1 = (l.filter f).length + 1
      rw [filter_map_len f l]
    | false => exact filter_map_len f l
theorem cnt_flags {n : Nat} {t : Mx} (ht : Sq n t) : cntB (flagsOf n t) = (greensOf t).length := by
  rw [cntB_eq]
  unfold flagsOf greensOf
  rw [ht.len, ← List.range_eq_range']
  exact filter_map_len (isGreen t) (List.range n)
theorem lines_pk {n : Nat} {w t : Mx} {x : Nat} (hw : Sq n w) (ht : Sq n t) (bt : Bd 1000 t) (bt' : Bd 1000 (frameLines w t x)) (hx : x < n) (h0 : at2 w x x = 0) :
    (rowsN n (at2 t)).map (mtl (pp n (at2 w x)) (pp n fun z => -(at2 w x z)) (4194304 ^ x)) = rowsN n (at2 (frameLines w t x)) := by
  refine rows_map fun i hi => ?_
  have e : ∀ z, z < n → turnF x (at2 t i) (at2 w x) z = at2 (frameLines w t x) i z := fun z hz => by
    rw [frameLines_eq hw ht, mOf_at hi hz]
    rfl
  rw [mtl_ok hx (fun z _ => bt.inR (by decide) (by decide) i z) h0 fun z hz => by rw [e z hz]; exact bt'.inR (by decide) (by decide) i z]
  exact pkN_congr n _ _ e
theorem webs_pk {n : Nat} {w : Mx} {x : Nat} (g : GoodW n w) (g' : GoodW n (behindTurn w x)) (hx : x < n) :
    ((List.range' 0 n).map fun y => if y = x then 2 * pkN n (fun _ => 0) - pkN n (at2 w y) else mtl (pp n (at2 w x)) (pp n fun z => -(at2 w x z)) (4194304 ^ x) (pkN n (at2 w y))) = rowsN n (at2 (behindTurn w x)) := by
  unfold rowsN
  refine List.map_congr_left fun y hy => ?_
  have hy := mem_rg.mp hy
  by_cases e : y = x
  · subst e
    have ea : ∀ z, z < n → -(at2 w y z) = at2 (behindTurn w y) y z := fun z hz => by
      rw [behindTurn_eq g.sq, mOf_at hy hz, if_pos (.inl rfl)]
    rw [if_pos rfl, neg_ok (fun z _ => g.bd.inR (by decide) (by decide) y z) fun z hz => by rw [ea z hz]; exact g'.bd.inR (by decide) (by decide) y z]
    exact pkN_congr n _ _ ea
  · rw [if_neg e]
    have ea : ∀ z, z < n → turnF x (at2 w y) (at2 w x) z = at2 (behindTurn w x) y z := fun z hz => by
      rw [behindTurn_eq g.sq, mOf_at hy hz]
      unfold turnF
      by_cases c : z = x
      · rw [if_pos c, if_pos (.inr c.symm)]
      · rw [if_neg c, if_neg fun h => h.elim (fun h => e h.symm) fun h => c h.symm]
    have h0 : at2 w x x = 0 := by
      have := g.anti x x hx hx
      omega
    rw [mtl_ok hx (fun z _ => g.bd.inR (by decide) (by decide) y z) h0 fun z hz => by rw [ea z hz]; exact g'.bd.inR (by decide) (by decide) y z]
    exact pkN_congr n _ _ ea
theorem flags_pk {n : Nat} {t : Mx} (ht : Sq n t) (bt : Bd 1000 t) (hn : 1 ≤ n) (f : List Bool → Bool) : flags (rowsN n (at2 t)) n 1 f = f (flagsOf n t) := by
  have h := flags_eq (rowsN n (at2 t)) n 0 f
  rw [Nat.pow_zero] at h
  rw [h]
  congr 1
  unfold flagsOf
  refine List.map_congr_left fun x hx => ?_
  have hx := mem_rg.mp hx
  rw [Bool.eq_iff_iff, greenB_iff, isGreen_iff ht hn hx]
  have hd : ∀ i, i < n → pkN n (at2 t i) / 4194304 ^ x % 4194304 = (at2 t i x + 2097152).toNat := fun i _ => pk_digit n x _ (fun z _ => bt.inR (by decide) (by decide) i z) hx
  refine ⟨fun h i hi => ?_, fun h l hl => ?_⟩
  · have := h (pkN n (at2 t i)) (List.mem_map.mpr ⟨i, mem_rg.mpr hi, rfl⟩)
    rw [hd i hi] at this
    omega
  · obtain ⟨i, hi, rfl⟩ := List.mem_map.mp hl
    have hi := mem_rg.mp hi
    have := h i hi
    show 2097152 ≤ pkN n (at2 t i) / 4194304 ^ x % 4194304
    rw [hd i hi]
    omega
/-- minus a permutation -/
def NegP (n : Nat) (T : Mx) : Prop := (∀ i, i < n → ∃ j, j < n ∧ ∀ z, z < n → at2 T i z = if z = j then -1 else 0) ∧ ∀ i i', i < n → i' < n → (∀ z, z < n → at2 T i z = at2 T i' z) → i = i'
theorem last_neg {n : Nat} {t : Mx} (bt : Bd 1000 t) (h : lastB (lastN n) (rowsN n (at2 t)) = true) : NegP n t := by
  obtain ⟨h1, h2⟩ := lastB_ok _ _ h
  have hin : ∀ i z, inR (at2 t i z) := fun i z => bt.inR (by decide) (by decide) i z
  refine ⟨fun i hi => ?_, fun i i' hi hi' he => ?_⟩
  · have := h1 (pkN n (at2 t i)) (List.mem_map.mpr ⟨i, mem_rg.mpr hi, rfl⟩)
    obtain ⟨j, hj, e⟩ := List.mem_map.mp this
    refine ⟨j, mem_rg.mp hj, pk_inj (fun z _ => hin i z) (fun z _ => ?_) e.symm⟩
    unfold inR
    show _ ≤ (if z = j then (-1 : Int) else 0) ∧ (if z = j then (-1 : Int) else 0) < _
    split <;> omega
  · have e := pkN_congr n (at2 t i) (at2 t i') he
    have hp := List.pairwise_map.mp h2
    by_cases c : i = i'
    · exact c
    · exfalso
      have hpw : (List.range' 0 n).Pairwise fun a b => pkN n (at2 t a) ≠ pkN n (at2 t b) := hp
      rcases Nat.lt_or_gt_of_ne c with c | c
      · exact (List.pairwise_iff_getElem.mp hpw i i' (by simpa using hi) (by simpa using hi') c) (by simpa using e)
      · exact (List.pairwise_iff_getElem.mp hpw i' i (by simpa using hi') (by simpa using hi) c) (by simpa using e.symm)
def Grow' (n : Nat) : Nat → List Nat → Prop
  | _, [] => True
  | m, x :: r => x < m ∧ Grow' n (if x + 1 = m then (if m = n then m else m + 1) else m) r
theorem chk_succ (n z2 : Nat) (last : List Nat) (k m : Nat) (w t : List Nat) (g : List Bool) : chk n z2 last (k + 1) m w t g = allX m (fun x b => sel (nthB g x)
      (frc (nth w x) (fun r => frc (posP n r) (fun p => frc (negP n r) (fun q =>
        mapT p q b t (fun t' => flags t' n 1 (fun g' => frc (cntB g') (fun c =>
          sel (Nat.beq c 0) (lastB last t')
            (sel (Nat.ble c k) (mapW z2 p q b x w 0 (fun w' => sel (Nat.beq (Nat.succ x) m) (sel (Nat.beq m n) (chk n z2 last k m w' t' g') (chk n z2 last k (Nat.succ m) w' t' g')) (chk n z2 last k m w' t' g'))) true)))))))) true) 0 1 := rfl
theorem chk_ok {n : Nat} (hn : 1 ≤ n) : ∀ (k m : Nat) (w t : Mx) (row : List Nat), GoodW n w → Sq n t → Bd 1000 t → row ≠ [] → row.length ≤ k → GAlong w t row → Grow' n m row → greensOf (turns w t row).2 = [] →
    chk n (2 * pkN n (fun _ => 0)) (lastN n) k m (rowsN n (at2 w)) (rowsN n (at2 t)) (flagsOf n t) = true → NegP n (turns w t row).2
  | 0, m, w, t, row, _, _, _, ne, hl, _, _, _, _ => absurd (List.length_eq_zero_iff.mp (Nat.le_zero.mp hl)) ne
  | k + 1, m, w, t, [], _, _, _, ne, _, _, _, _, _ => absurd rfl ne
  | k + 1, m, w, t, x :: r, g, ht, bt, _, hl, ⟨hx, hs1, hs2, hal⟩, ⟨hxm, hgr⟩, hend, hc => by
    have hxn := ((mem_greens ht hn).mp hx).1
    have g' := g.behind hxn hs1
    have ht' := g.sq.lines ht x
    have bt' := isSmall_iff.mp hs2
    have h0 : at2 w x x = 0 := by
      have := g.anti x x hxn hxn
      omega
    rw [chk_succ] at hc
    have hb := allX_ok _ m 0 hc x (Nat.zero_le _) (by omega)
    have hfl : nthB (flagsOf n t) x = true := by
      rw [nth_flags hxn]
      exact (List.mem_filter.mp hx).2
    have hwx : ∀ z, z < n → inR (at2 w x z) := fun z _ => g.bd.inR (by decide) (by decide) x z
    simp only [hfl, sel_t, frc_eq, mapT_eq, nth_rows hxn, posP_eq n (at2 w x) hwx, negP_eq n (at2 w x) hwx, lines_pk g.sq ht bt bt' hxn h0, flags_pk ht' bt' hn, cnt_flags ht'] at hb
    show NegP n (turns (behindTurn w x) (frameLines w t x) r).2
    cases r with
    | nil =>
      have hend' : greensOf (frameLines w t x) = [] := hend
      rw [hend'] at hb
      exact last_neg bt' hb
    | cons y r =>
      have hy : y ∈ greensOf (frameLines w t x) := hal.1
      have hle := sub_len _ _ (greens_nodup _) (greens_in hn (y :: r) _ _ (g.sq.behind x) ht' hal hend)
      have hpos : 0 < (greensOf (frameLines w t x)).length := List.length_pos_of_mem hy
      have hl' : (y :: r).length ≤ k := Nat.le_of_succ_le_succ hl
      have b1 : Nat.beq (greensOf (frameLines w t x)).length 0 = false := Bool.eq_false_iff.mpr fun h => by
        have := Nat.eq_of_beq_eq_true h
        omega
      have b2 : Nat.ble (greensOf (frameLines w t x)).length k = true := Nat.ble_eq_true_of_le (by omega)
      have hmw := mapW_eq (2 * pkN n (fun _ => 0)) (pp n (at2 w x)) (pp n fun z => -(at2 w x z)) (4194304 ^ x) x (fun y => pkN n (at2 w y)) n 0
      simp only [webs_pk g g' hxn] at hmw
      have hmw' : ∀ f : List Nat → Bool, mapW (2 * pkN n (fun _ => 0)) (pp n (at2 w x)) (pp n fun z => -(at2 w x z)) (4194304 ^ x) x (rowsN n (at2 w)) 0 f = f (rowsN n (at2 (behindTurn w x))) := hmw
      simp only [b1, b2, sel_t, sel_f, hmw'] at hb
      by_cases c1 : x + 1 = m
      · have d1 : Nat.beq (Nat.succ x) m = true := by
          rw [← c1]
          exact Nat.beq_refl _
        rw [if_pos c1] at hgr
        rw [d1, sel_t] at hb
        by_cases c2 : m = n
        · have d2 : Nat.beq m n = true := by
            rw [c2]
            exact Nat.beq_refl _
          rw [if_pos c2] at hgr
          rw [d2, sel_t] at hb
          exact chk_ok hn k m _ _ (y :: r) g' ht' bt' (by simp) hl' hal hgr hend hb
        · have d2 : Nat.beq m n = false := Bool.eq_false_iff.mpr fun h => c2 (Nat.eq_of_beq_eq_true h)
          rw [if_neg c2] at hgr
          rw [d2, sel_f] at hb
          exact chk_ok hn k (m + 1) _ _ (y :: r) g' ht' bt' (by simp) hl' hal hgr hend hb
      · have d1 : Nat.beq (Nat.succ x) m = false := Bool.eq_false_iff.mpr fun h => c1 (Nat.eq_of_beq_eq_true h)
        rw [if_neg c1] at hgr
        rw [d1, sel_f] at hb
        exact chk_ok hn k m _ _ (y :: r) g' ht' bt' (by simp) hl' hal hgr hend hb
end G
set_option maxRecDepth 100000
set_option maxHeartbeats 1000000
/-! M5: other names for the nodes; growth strings; what minus a permutation is. -/
namespace G
/-- s and its inverse on the nodes below n -/
structure Ren (n : Nat) (s v : Nat → Nat) : Prop where
  lt : ∀ y, y < n → s y < n
  vlt : ∀ y, y < n → v y < n
  vs : ∀ y, y < n → v (s y) = y
  sv : ∀ y, y < n → s (v y) = y
theorem Ren.inj {n : Nat} {s v : Nat → Nat} (h : Ren n s v) {x y : Nat} (hx : x < n) (hy : y < n) : s x = s y ↔ x = y :=
  ⟨fun e => by rw [← h.vs x hx, e, h.vs y hy], fun e => by rw [e]⟩
def rel (n : Nat) (s : Nat → Nat) (m : Mx) : Mx := mOf n fun y z => at2 m (s y) (s z)
theorem rel_sq (n : Nat) (s : Nat → Nat) (m : Mx) : Sq n (rel n s m) := mOf_sq n _
section
variable {n : Nat} {s v : Nat → Nat} (h : Ren n s v)
include h
theorem rel_turn {w : Mx} (hw : Sq n w) {x : Nat} (hx : x < n) : behindTurn (rel n s w) x = rel n s (behindTurn w (s x)) := by
  rw [behindTurn_eq (rel_sq n s w)]
  unfold rel
  refine mOf_congr fun y z hy hz => ?_
  rw [behindTurn_eq hw, mOf_at (h.lt y hy) (h.lt z hz), mOf_at hy hz, mOf_at hy hx, mOf_at hx hz]
  have e1 := h.inj hx hy
  have e2 := h.inj hx hz
  simp only [e1, e2]
theorem rel_lines {w t : Mx} (hw : Sq n w) (ht : Sq n t) {x : Nat} (hx : x < n) : frameLines (rel n s w) (rel n s t) x = rel n s (frameLines w t (s x)) := by
  rw [frameLines_eq (rel_sq n s w) (rel_sq n s t)]
  unfold rel
  refine mOf_congr fun i z hi hz => ?_
  rw [frameLines_eq hw ht, mOf_at (h.lt i hi) (h.lt z hz), mOf_at hi hz, mOf_at hi hx, mOf_at hx hz]
  have e2 := h.inj hz hx
  simp only [e2]
theorem rel_bd {B : Int} (hB : 0 ≤ B) {m : Mx} (hm : Bd B m) : Bd B (rel n s m) := mOf_bd fun y z _ _ => hm.at hB _ _
theorem rel_small {m : Mx} (hm : isSmall m = true) : isSmall (rel n s m) = true := isSmall_iff.mpr (rel_bd h (by decide) (isSmall_iff.mp hm))
theorem rel_green {t : Mx} (ht : Sq n t) (hn : 1 ≤ n) {x : Nat} (hx : x < n) : x ∈ greensOf (rel n s t) ↔ s x ∈ greensOf t := by
  rw [mem_greens (rel_sq n s t) hn, mem_greens ht hn]
  refine ⟨fun ⟨_, a⟩ => ⟨h.lt x hx, fun i hi => ?_⟩, fun ⟨_, a⟩ => ⟨hx, fun i hi => ?_⟩⟩
  · have := a (v i) (h.vlt i hi)
    unfold rel at this
    rw [mOf_at (h.vlt i hi) hx, h.sv i hi] at this
    exact this
  · unfold rel
    rw [mOf_at hi hx]
    exact a (s i) (h.lt i hi)
theorem rel_along (hn : 1 ≤ n) : ∀ (row : List Nat) (w t : Mx), Sq n w → Sq n t → (∀ x, x ∈ row → x < n) → GAlong w t (row.map s) →
    GAlong (rel n s w) (rel n s t) row ∧ turns (rel n s w) (rel n s t) row = (rel n s (turns w t (row.map s)).1, rel n s (turns w t (row.map s)).2)
  | [], _, _, _, _, _, _ => ⟨trivial, rfl⟩
  | x :: r, w, t, hw, ht, hlt, ⟨a, b, c, d⟩ => by
    have hx := hlt x (by simp)
    obtain ⟨g1, g2⟩ := rel_along hn r (behindTurn w (s x)) (frameLines w t (s x)) (hw.behind _) (hw.lines ht _) (fun y hy => hlt y (List.mem_cons_of_mem _ hy)) d
    rw [← rel_turn h hw hx, ← rel_lines h hw ht hx] at g1 g2
    exact ⟨⟨(rel_green h ht hn hx).mpr a, by rw [rel_turn h hw hx]; exact rel_small h b, by rw [rel_lines h hw ht hx]; exact rel_small h c, g1⟩, g2⟩
theorem rel_first : rel n s (firstFrame n) = firstFrame n := by
  have e : firstFrame n = mOf n fun y x => b2 (decide (x = y)) := rfl
  unfold rel
  refine mOf_congr fun y z hy hz => ?_
  rw [e, mOf_at (h.lt y hy) (h.lt z hz), decide_eq_decide.mpr (h.inj hz hy)]
theorem rel_web {B : Int} (hB : 0 ≤ B) {w : Mx} (hw : WebS n B w) : WebS n B (rel n s w) :=
  ⟨rel_sq n s w, hw.pos, rel_bd h hB hw.bd, fun y z hy hz => by unfold rel; rw [mOf_at hy hz, mOf_at hz hy]; exact hw.anti _ _ (h.lt y hy) (h.lt z hz)⟩
theorem rel_neg {T : Mx} (hp : NegP n (rel n s T)) : NegP n T := by
  obtain ⟨p1, p2⟩ := hp
  have hat : ∀ i z, i < n → z < n → at2 T i z = at2 (rel n s T) (v i) (v z) := fun i z hi hz => by
    unfold rel
    rw [mOf_at (h.vlt i hi) (h.vlt z hz), h.sv i hi, h.sv z hz]
  refine ⟨fun i hi => ?_, fun i i' hi hi' he => ?_⟩
  · obtain ⟨j, hj, hz⟩ := p1 (v i) (h.vlt i hi)
    refine ⟨s j, h.lt j hj, fun z hzn => ?_⟩
    rw [hat i z hi hzn, hz (v z) (h.vlt z hzn)]
    have : v z = j ↔ z = s j := ⟨fun e => by rw [← e, h.sv z hzn], fun e => by rw [e, h.vs j hj]⟩
    simp only [this]
  · have := p2 (v i) (v i') (h.vlt i hi) (h.vlt i' hi') fun z hz => by
      have := he (s z) (h.lt z hz)
      rw [hat i _ hi (h.lt z hz), hat i' _ hi' (h.lt z hz), h.vs z hz] at this
      exact this
    rw [← h.sv i hi, this, h.sv i' hi']
end
/-! ### growth strings -/
def fullD (n : Nat) : List Nat → List Nat → List Nat
  | [], acc => acc ++ (List.range n).filter fun x => decide (x ∉ acc)
  | x :: r, acc => if x ∈ acc then fullD n r acc else fullD n r (acc ++ [x])
theorem fullD_ok (n : Nat) : ∀ (row acc : List Nat), acc.Nodup → (∀ x, x ∈ acc → x < n) → (∀ x, x ∈ row → x < n) → (fullD n row acc).Nodup ∧ (∀ x, x ∈ fullD n row acc → x < n) ∧ (∀ x, x < n → x ∈ fullD n row acc) ∧ ∃ e, fullD n row acc = acc ++ e
  | [], acc, nd, ha, _ => by
    unfold fullD
    refine ⟨?_, fun x hx => ?_, fun x hx => ?_, _, rfl⟩
    · rw [List.nodup_append]
      refine ⟨nd, List.nodup_range.filter _, fun a ha' b hb e => ?_⟩
      subst e
      exact of_decide_eq_true (List.mem_filter.mp hb).2 ha'
    · rcases List.mem_append.mp hx with hx | hx
      · exact ha x hx
      · exact List.mem_range.mp (List.mem_filter.mp hx).1
    · by_cases e : x ∈ acc
      · exact List.mem_append_left _ e
      · exact List.mem_append_right _ (List.mem_filter.mpr ⟨List.mem_range.mpr hx, decide_eq_true e⟩)
  | x :: r, acc, nd, ha, hr => by
    unfold fullD
    by_cases e : x ∈ acc
    · rw [if_pos e]
      exact fullD_ok n r acc nd ha fun y hy => hr y (List.mem_cons_of_mem _ hy)
    · rw [if_neg e]
      obtain ⟨h1, h2, h3, q, h4⟩ := fullD_ok n r (acc ++ [x]) (by
        rw [List.nodup_append]
        refine ⟨nd, by simp, fun a ha' b hb eq => ?_⟩
        obtain rfl : b = x := by simpa using hb
        exact e (eq ▸ ha')) (fun y hy => by
        rcases List.mem_append.mp hy with hy | hy
        · exact ha y hy
        · obtain rfl : y = x := by simpa using hy
          exact hr y (by simp)) fun y hy => hr y (List.mem_cons_of_mem _ hy)
      exact ⟨h1, h2, h3, [x] ++ q, by rw [h4, List.append_assoc]⟩
theorem fullD_grow (n : Nat) : ∀ (row acc : List Nat), acc.Nodup → (∀ x, x ∈ acc → x < n) → (∀ x, x ∈ row → x < n) → Grow' n (if acc.length = n then n else acc.length + 1) (row.map (fullD n row acc).idxOf)
  | [], _, _, _, _ => trivial
  | x :: r, acc, nd, ha, hr => by
    have hr' : ∀ y, y ∈ r → y < n := fun y hy => hr y (List.mem_cons_of_mem _ hy)
    have hlen := nodup_len n acc nd ha
    by_cases e : x ∈ acc
    · have ef : fullD n (x :: r) acc = fullD n r acc := by
        show (if x ∈ acc then fullD n r acc else fullD n r (acc ++ [x])) = _
        rw [if_pos e]
      obtain ⟨_, _, _, q, h4⟩ := fullD_ok n r acc nd ha hr'
      have hi : (fullD n r acc).idxOf x < acc.length := by
        rw [h4, List.idxOf_append, if_pos e]
        exact List.idxOf_lt_length_of_mem e
      have ih := fullD_grow n r acc nd ha hr'
      rw [ef]
      refine ⟨by show (fullD n r acc).idxOf x < _; split <;> omega, ?_⟩
      show Grow' n (if (fullD n r acc).idxOf x + 1 = (if acc.length = n then n else acc.length + 1) then _ else _) _
      by_cases c : acc.length = n
      · rw [if_pos c] at ih ⊢
        split
        · rw [if_pos rfl]
          exact ih
        · exact ih
      · rw [if_neg c] at ih ⊢
        rw [if_neg (by omega)]
        exact ih
    · have ef : fullD n (x :: r) acc = fullD n r (acc ++ [x]) := by
        show (if x ∈ acc then fullD n r acc else fullD n r (acc ++ [x])) = _
        rw [if_neg e]
      have nd' : (acc ++ [x]).Nodup := by
        rw [List.nodup_append]
        refine ⟨nd, by simp, fun a ha' b hb eq => ?_⟩
        obtain rfl : b = x := by simpa using hb
        exact e (eq ▸ ha')
      have ha' : ∀ y, y ∈ acc ++ [x] → y < n := fun y hy => by
        rcases List.mem_append.mp hy with hy | hy
        · exact ha y hy
        · obtain rfl : y = x := by simpa using hy
          exact hr y (by simp)
      obtain ⟨_, _, _, q, h4⟩ := fullD_ok n r (acc ++ [x]) nd' ha' hr'
      have hi : (fullD n r (acc ++ [x])).idxOf x = acc.length := by
        rw [h4, List.append_assoc, List.idxOf_append, if_neg e]
        simp
      have hl2 := nodup_len n (acc ++ [x]) nd' ha'
      rw [List.length_append] at hl2
      have hl3 : acc.length + 1 ≤ n := hl2
      have ih := fullD_grow n r (acc ++ [x]) nd' ha' hr'
      rw [ef]
      refine ⟨?_, ?_⟩
      · show (fullD n r (acc ++ [x])).idxOf x < _
        rw [hi]
        split <;> omega
      · show Grow' n (if (fullD n r (acc ++ [x])).idxOf x + 1 = (if acc.length = n then n else acc.length + 1) then (if (if acc.length = n then n else acc.length + 1) = n then (if acc.length = n then n else acc.length + 1) else (if acc.length = n then n else acc.length + 1) + 1) else _) _
        rw [hi, if_neg (show ¬ acc.length = n by omega), if_pos rfl]
        have el : (acc ++ [x]).length = acc.length + 1 := by simp
        rw [el] at ih
        by_cases c : acc.length + 1 = n
        · rw [if_pos c] at ih ⊢
          rw [c]
          exact ih
        · rw [if_neg c] at ih ⊢
          exact ih
theorem exists_ren {n : Nat} (hn : 1 ≤ n) {row : List Nat} (h : ∀ x, x ∈ row → x < n) : ∃ s v row', Ren n s v ∧ row'.map s = row ∧ (∀ x, x ∈ row' → x < n) ∧ Grow' n 1 row' := by
  obtain ⟨h1, h2, h3, _⟩ := fullD_ok n row [] List.nodup_nil (fun x hx => by cases hx) h
  have hg := fullD_grow n row [] List.nodup_nil (fun x hx => by cases hx) h
  rw [if_neg (show ¬ ([] : List Nat).length = n by show ¬ 0 = n; omega)] at hg
  generalize fullD n row [] = D at h1 h2 h3 hg
  have hlen : D.length = n := by
    have a := nodup_len n D h1 h2
    have b := sub_len (List.range n) D List.nodup_range fun x hx => h3 x (List.mem_range.mp hx)
    rw [List.length_range] at b
    omega
  have hget : ∀ y, y < n → D.getD y 0 ∈ D ∧ ∃ hy : y < D.length, D.getD y 0 = D[y] := fun y hy => by
    have hy' : y < D.length := by rw [hlen]; exact hy
    have e : D.getD y 0 = D[y] := by simp [hy']
    exact ⟨by rw [e]; exact List.getElem_mem hy', hy', e⟩
  have hsv : ∀ y, y < n → D.getD (D.idxOf y) 0 = y := fun y hy => by
    have hl := List.idxOf_lt_length_of_mem (h3 y hy)
    have e : D.getD (D.idxOf y) 0 = D[D.idxOf y] := by simp [hl]
    rw [e, List.getElem_idxOf]
  refine ⟨fun y => D.getD y 0, D.idxOf, row.map D.idxOf, ⟨fun y hy => h2 _ (hget y hy).1, fun y hy => ?_, fun y hy => ?_, hsv⟩, ?_, fun x hx => ?_, hg⟩
  · have := List.idxOf_lt_length_of_mem (h3 y hy)
    rw [hlen] at this
    exact this
  · obtain ⟨_, hy', e⟩ := hget y hy
    show D.idxOf (D.getD y 0) = y
    rw [e]
    exact h1.idxOf_getElem y hy'
  · rw [List.map_map]
    have : row.map ((fun y => D.getD y 0) ∘ D.idxOf) = row.map id := List.map_congr_left fun x hx => hsv x (h x hx)
    rw [this, List.map_id]
  · obtain ⟨y, hy, rfl⟩ := List.mem_map.mp hx
    have := List.idxOf_lt_length_of_mem (h3 y (h y hy))
    rw [hlen] at this
    exact this
/-! ### sums -/
theorem sum_one : ∀ (n j : Nat), ((List.range n).map fun z => if z = j then (-1 : Int) else 0).sum = if j < n then -1 else 0
  | 0, j => rfl
  | n + 1, j => by
    rw [List.range_succ, List.map_append, List.sum_append, sum_one n j]
    show _ + ((if n = j then (-1 : Int) else 0) + 0) = _
    by_cases c : n = j
    · subst c
      rw [if_neg (by omega), if_pos rfl, if_pos (by omega)]
      rfl
    · rw [if_neg c]
      by_cases d : j < n
      · rw [if_pos d, if_pos (by omega)]
        rfl
      · rw [if_neg d, if_neg (by omega)]
        rfl
theorem neg_sums {n : Nat} {T : Mx} (hn : 1 ≤ n) (hT : Sq n T) (h : NegP n T) : (∀ line, line ∈ T → imin line = -1 ∧ line.sum = -1 ∧ imax line ≤ 0) ∧ ∀ x, x < n → (col T x).sum = -1 := by
  obtain ⟨p1, p2⟩ := h
  have hf : ∃ f : Nat → Nat, ∀ i, i < n → f i < n ∧ ∀ z, z < n → at2 T i z = if z = f i then -1 else 0 :=
    ⟨fun i => if hi : i < n then Classical.choose (p1 i hi) else 0, fun i hi => by
      show (if hi : i < n then Classical.choose (p1 i hi) else 0) < n ∧ _
      have := Classical.choose_spec (p1 i hi)
      simp only [dif_pos hi]
      exact this⟩
  obtain ⟨f, hf⟩ := hf
  have hinj : ∀ i i', i < n → i' < n → f i = f i' → i = i' := fun i i' hi hi' e => p2 i i' hi hi' fun z hz => by
    rw [(hf i hi).2 z hz, (hf i' hi').2 z hz, e]
  refine ⟨fun line hl => ?_, fun x hx => ?_⟩
  · rw [hT.eta] at hl
    obtain ⟨i, hi, rfl⟩ := List.mem_map.mp hl
    have hi := List.mem_range.mp hi
    have e : (List.range n).map (fun z => at2 T i z) = (List.range n).map fun z => if z = f i then (-1 : Int) else 0 := List.map_congr_left fun z hz => (hf i hi).2 z (List.mem_range.mp hz)
    rw [e]
    have hl0 : 0 < ((List.range n).map fun z => if z = f i then (-1 : Int) else 0).length := by rw [List.length_map, List.length_range]; omega
    refine ⟨?_, ?_, ?_⟩
    · have a := imin_le (ns := (List.range n).map fun z => if z = f i then (-1 : Int) else 0) (y := -1) (List.mem_map.mpr ⟨f i, List.mem_range.mpr (hf i hi).1, if_pos rfl⟩)
      obtain ⟨z, _, b⟩ := List.mem_map.mp (imin_mem hl0)
      rw [← b] at a ⊢
      split at a
      · rw [if_pos (by assumption)]
      · omega
    · rw [sum_one, if_pos (hf i hi).1]
    · obtain ⟨z, _, b⟩ := List.mem_map.mp (imax_mem hl0)
      rw [← b]
      split <;> omega
  · have hc : col T x = (List.range n).map fun i => at2 T i x := by
      have := hT.eta
      rw [this, col_mOf hx]
      refine List.map_congr_left fun i hi => ?_
      rw [← this]
    have hcov := cover (n := n) (l := (List.range n).map f) (by
      rw [List.Nodup, List.pairwise_map]
      refine List.pairwise_iff_getElem.mpr fun i j hi hj hij e => ?_
      have hi' : i < n := by simpa using hi
      have hj' : j < n := by simpa using hj
      rw [List.getElem_range, List.getElem_range] at e
      have := hinj i j hi' hj' e
      omega) (by simp) (fun y hy => by
      obtain ⟨i, hi, rfl⟩ := List.mem_map.mp hy
      exact (hf i (List.mem_range.mp hi)).1) x hx
    obtain ⟨i0, hi0, e0⟩ := List.mem_map.mp hcov
    have hi0 := List.mem_range.mp hi0
    rw [hc]
    have e : (List.range n).map (fun i => at2 T i x) = (List.range n).map fun i => if i = i0 then (-1 : Int) else 0 := List.map_congr_left fun i hi => by
      have hi := List.mem_range.mp hi
      rw [(hf i hi).2 x hx]
      by_cases c : i = i0
      · subst c
        rw [if_pos e0.symm, if_pos rfl]
      · rw [if_neg c, if_neg fun q => c (hinj i i0 hi hi0 (q.symm.trans e0.symm))]
    rw [e, sum_one, if_pos hi0]
/-- what the kernel is to check -/
def Checked (n : Nat) : Prop := ∀ w, WebS n 2 w → chk n (2 * pkN n (fun _ => 0)) (lastN n) 6 1 (rowsN n (at2 w)) (rowsN n (at2 (firstFrame n))) (flagsOf n (firstFrame n)) = true
theorem perm_ok {n : Nat} (hn4 : n ≤ 4) (hc : Checked n) {w : Mx} {row : List Nat} (hw : WebS n 2 w) (h : greenRow w = some row) :
    (∀ line, line ∈ (turns w (firstFrame n) row).2 → imin line = -1 ∧ line.sum = -1 ∧ imax line ≤ 0) ∧ ∀ x, x < n → (col (turns w (firstFrame n) row).2 x).sum = -1 := by
  have hg := hw.good (by omega) (by omega)
  have hn := hg.pos
  obtain ⟨h6, hal, hend⟩ := green_end hg h
  have hlt := (hal.along hg.sq (firstFrame_sq n)).2
  obtain ⟨s, v, row', hr, hm, hlt', hgrow⟩ := exists_ren hn hlt
  have hal' := hal
  rw [← hm] at hal'
  obtain ⟨g1, g2⟩ := rel_along hr hn row' w (firstFrame n) hg.sq (firstFrame_sq n) hlt' hal'
  rw [rel_first hr] at g1 g2
  rw [hm] at g2
  have hw' := rel_web hr (by omega) hw
  have hg' := hw'.good (by omega) (by omega)
  have st := turns_sq (row := row) hg.sq (firstFrame_sq n)
  have hend' : greensOf (turns (rel n s w) (firstFrame n) row').2 = [] := by
    rw [g2]
    refine List.eq_nil_iff_forall_not_mem.mpr fun x hx => ?_
    have hx1 := ((mem_greens (rel_sq n s _) hn).mp hx).1
    have := (rel_green hr st.2 hn hx1).mp hx
    rw [hend] at this
    cases this
  have hne : row' ≠ [] := fun e => by
    rw [e] at hend'
    have h0 : greensOf (firstFrame n) = [] := hend'
    have : 0 ∈ greensOf (firstFrame n) := (mem_greens (firstFrame_sq n) hn).mpr ⟨by omega, fun i hi => by
      have e : firstFrame n = mOf n fun y x => b2 (decide (x = y)) := rfl
      rw [e, mOf_at hi (by omega)]
      unfold b2
      split <;> omega⟩
    rw [h0] at this
    cases this
  have hl : row'.length ≤ 6 := by
    have : row'.length = row.length := by rw [← hm, List.length_map]
    omega
  have hp := chk_ok hn 6 1 (rel n s w) (firstFrame n) row' hg' (firstFrame_sq n) (firstFrame_bd n) hne hl g1 hgrow hend' (hc _ hw')
  rw [g2] at hp
  exact neg_sums hn st.2 (rel_neg hr hp)
end G
set_option maxRecDepth 100000
set_option maxHeartbeats 1000000
/-! M6: the kernel's check of all webs of at most four nodes. -/
namespace G
def vals : List Int := [-2, -1, 0, 1, 2]
theorem mem_vals {x : Int} (h : -2 ≤ x ∧ x ≤ 2) : x ∈ vals := by
  have : x = -2 ∨ x = -1 ∨ x = 0 ∨ x = 1 ∨ x = 2 := by omega
  rcases this with rfl | rfl | rfl | rfl | rfl <;> decide
theorem of_vals {p : Int → Bool} (h : vals.all p = true) {x : Int} (hx : -2 ≤ x ∧ x ≤ 2) : p x = true := List.all_eq_true.mp h x (mem_vals hx)
def pk1 (x0 : Int) : Nat := (x0 + 2097152).toNat + 4194304 * 0
noncomputable def run1 : Bool := frcL [pk1 0] fun w => chk 1 4194304 [2097151] 6 1 w [2097153] [true]
theorem first1 : rowsN 1 (at2 (firstFrame 1)) = [2097153] := by decide +kernel
theorem last1 : lastN 1 = [2097151] := by decide +kernel
theorem two1 : 2 * pkN 1 (fun _ => 0) = 4194304 := by decide +kernel
theorem flag1 : flagsOf 1 (firstFrame 1) = [true] := by decide +kernel
theorem web1 {w : Mx} (h : WebS 1 2 w) : rowsN 1 (at2 w) = [pk1 0] := by
  have d0 : at2 w 0 0 = 0 := by
    have := h.anti 0 0 (by decide) (by decide)
    omega
  have r : rowsN 1 (at2 w) = [pk1 (at2 w 0 0)] := rfl
  rw [r, d0]
theorem all1 : (run1 ) = true := by decide +kernel
theorem runs1 {w : Mx} (h : WebS 1 2 w) : run1  = true := all1
theorem checked1 : Checked 1 := fun w h => by
  have r := runs1 h
  unfold run1 at r
  rw [frcL_eq] at r
  rw [web1 h, first1, last1, two1, flag1]
  exact r
def pk2 (x0 x1 : Int) : Nat := (x0 + 2097152).toNat + 4194304 * ((x1 + 2097152).toNat + 4194304 * 0)
noncomputable def run2 (a01 : Int) : Bool := frcL [pk2 0 a01, pk2 (-a01) 0] fun w => chk 2 17592190238720 [8796095119359, 8796090925056] 6 1 w [8796095119361, 8796099313664] [true, true]
theorem first2 : rowsN 2 (at2 (firstFrame 2)) = [8796095119361, 8796099313664] := by decide +kernel
theorem last2 : lastN 2 = [8796095119359, 8796090925056] := by decide +kernel
theorem two2 : 2 * pkN 2 (fun _ => 0) = 17592190238720 := by decide +kernel
theorem flag2 : flagsOf 2 (firstFrame 2) = [true, true] := by decide +kernel
theorem web2 {w : Mx} (h : WebS 2 2 w) : rowsN 2 (at2 w) = [pk2 0 (at2 w 0 1), pk2 (-(at2 w 0 1)) 0] := by
  have d0 : at2 w 0 0 = 0 := by
    have := h.anti 0 0 (by decide) (by decide)
    omega
  have d1 : at2 w 1 1 = 0 := by
    have := h.anti 1 1 (by decide) (by decide)
    omega
  have e10 : at2 w 1 0 = -(at2 w 0 1) := h.anti 1 0 (by decide) (by decide)
  have r : rowsN 2 (at2 w) = [pk2 (at2 w 0 0) (at2 w 0 1), pk2 (at2 w 1 0) (at2 w 1 1)] := rfl
  rw [r, d0, d1, e10]
theorem all2 : (vals.all fun a01 => run2 a01) = true := by decide +kernel
theorem runs2 {w : Mx} (h : WebS 2 2 w) : run2 (at2 w 0 1) = true := of_vals (all2) (h.bd.at (by decide) 0 1)
theorem checked2 : Checked 2 := fun w h => by
  have r := runs2 h
  unfold run2 at r
  rw [frcL_eq] at r
  rw [web2 h, first2, last2, two2, flag2]
  exact r
def pk3 (x0 x1 x2 : Int) : Nat := (x0 + 2097152).toNat + 4194304 * ((x1 + 2097152).toNat + 4194304 * ((x2 + 2097152).toNat + 4194304 * 0))
noncomputable def run3 (a01 a02 a12 : Int) : Bool := frcL [pk3 0 a01 a02, pk3 (-a01) 0 a12, pk3 (-a02) (-a12) 0] fun w => chk 3 73786993887028445184 [36893496943514222591, 36893496943510028288, 36893479351328178176] 6 1 w [36893496943514222593, 36893496943518416896, 36893514535700267008] [true, true, true]
theorem first3 : rowsN 3 (at2 (firstFrame 3)) = [36893496943514222593, 36893496943518416896, 36893514535700267008] := by decide +kernel
theorem last3 : lastN 3 = [36893496943514222591, 36893496943510028288, 36893479351328178176] := by decide +kernel
theorem two3 : 2 * pkN 3 (fun _ => 0) = 73786993887028445184 := by decide +kernel
theorem flag3 : flagsOf 3 (firstFrame 3) = [true, true, true] := by decide +kernel
theorem web3 {w : Mx} (h : WebS 3 2 w) : rowsN 3 (at2 w) = [pk3 0 (at2 w 0 1) (at2 w 0 2), pk3 (-(at2 w 0 1)) 0 (at2 w 1 2), pk3 (-(at2 w 0 2)) (-(at2 w 1 2)) 0] := by
  have d0 : at2 w 0 0 = 0 := by
    have := h.anti 0 0 (by decide) (by decide)
    omega
  have d1 : at2 w 1 1 = 0 := by
    have := h.anti 1 1 (by decide) (by decide)
    omega
  have d2 : at2 w 2 2 = 0 := by
    have := h.anti 2 2 (by decide) (by decide)
    omega
  have e10 : at2 w 1 0 = -(at2 w 0 1) := h.anti 1 0 (by decide) (by decide)
  have e20 : at2 w 2 0 = -(at2 w 0 2) := h.anti 2 0 (by decide) (by decide)
  have e21 : at2 w 2 1 = -(at2 w 1 2) := h.anti 2 1 (by decide) (by decide)
  have r : rowsN 3 (at2 w) = [pk3 (at2 w 0 0) (at2 w 0 1) (at2 w 0 2), pk3 (at2 w 1 0) (at2 w 1 1) (at2 w 1 2), pk3 (at2 w 2 0) (at2 w 2 1) (at2 w 2 2)] := rfl
  rw [r, d0, d1, d2, e10, e20, e21]
theorem all3 : (vals.all fun a01 => vals.all fun a02 => vals.all fun a12 => run3 a01 a02 a12) = true := by decide +kernel
theorem runs3 {w : Mx} (h : WebS 3 2 w) : run3 (at2 w 0 1) (at2 w 0 2) (at2 w 1 2) = true := of_vals (of_vals (of_vals (all3) (h.bd.at (by decide) 0 1)) (h.bd.at (by decide) 0 2)) (h.bd.at (by decide) 1 2)
theorem checked3 : Checked 3 := fun w h => by
  have r := runs3 h
  unfold run3 at r
  rw [frcL_eq] at r
  rw [web3 h, first3, last3, two3, flag3]
  exact r
def pk4 (x0 x1 x2 x3 : Int) : Nat := (x0 + 2097152).toNat + 4194304 * ((x1 + 2097152).toNat + 4194304 * ((x2 + 2097152).toNat + 4194304 * ((x3 + 2097152).toNat + 4194304 * 0)))
noncomputable def run4 (a01 a02 a03 a12 a13 a23 : Int) : Bool := frcL [pk4 0 a01 a02 a03, pk4 (-a01) 0 a12 a13, pk4 (-a02) (-a12) 0 a23, pk4 (-a03) (-a13) (-a23) 0] fun w => chk 4 309485083608338955753226240 [154742541804169477876613119, 154742541804169477872418816, 154742541804151885690568704, 154742468017193183038406656] 6 1 w [154742541804169477876613121, 154742541804169477880807424, 154742541804187070062657536, 154742615591145772714819584] [true, true, true, true]
theorem first4 : rowsN 4 (at2 (firstFrame 4)) = [154742541804169477876613121, 154742541804169477880807424, 154742541804187070062657536, 154742615591145772714819584] := by decide +kernel
theorem last4 : lastN 4 = [154742541804169477876613119, 154742541804169477872418816, 154742541804151885690568704, 154742468017193183038406656] := by decide +kernel
theorem two4 : 2 * pkN 4 (fun _ => 0) = 309485083608338955753226240 := by decide +kernel
theorem flag4 : flagsOf 4 (firstFrame 4) = [true, true, true, true] := by decide +kernel
theorem web4 {w : Mx} (h : WebS 4 2 w) : rowsN 4 (at2 w) = [pk4 0 (at2 w 0 1) (at2 w 0 2) (at2 w 0 3), pk4 (-(at2 w 0 1)) 0 (at2 w 1 2) (at2 w 1 3), pk4 (-(at2 w 0 2)) (-(at2 w 1 2)) 0 (at2 w 2 3), pk4 (-(at2 w 0 3)) (-(at2 w 1 3)) (-(at2 w 2 3)) 0] := by
  have d0 : at2 w 0 0 = 0 := by
    have := h.anti 0 0 (by decide) (by decide)
    omega
  have d1 : at2 w 1 1 = 0 := by
    have := h.anti 1 1 (by decide) (by decide)
    omega
  have d2 : at2 w 2 2 = 0 := by
    have := h.anti 2 2 (by decide) (by decide)
    omega
  have d3 : at2 w 3 3 = 0 := by
    have := h.anti 3 3 (by decide) (by decide)
    omega
  have e10 : at2 w 1 0 = -(at2 w 0 1) := h.anti 1 0 (by decide) (by decide)
  have e20 : at2 w 2 0 = -(at2 w 0 2) := h.anti 2 0 (by decide) (by decide)
  have e21 : at2 w 2 1 = -(at2 w 1 2) := h.anti 2 1 (by decide) (by decide)
  have e30 : at2 w 3 0 = -(at2 w 0 3) := h.anti 3 0 (by decide) (by decide)
  have e31 : at2 w 3 1 = -(at2 w 1 3) := h.anti 3 1 (by decide) (by decide)
  have e32 : at2 w 3 2 = -(at2 w 2 3) := h.anti 3 2 (by decide) (by decide)
  have r : rowsN 4 (at2 w) = [pk4 (at2 w 0 0) (at2 w 0 1) (at2 w 0 2) (at2 w 0 3), pk4 (at2 w 1 0) (at2 w 1 1) (at2 w 1 2) (at2 w 1 3), pk4 (at2 w 2 0) (at2 w 2 1) (at2 w 2 2) (at2 w 2 3), pk4 (at2 w 3 0) (at2 w 3 1) (at2 w 3 2) (at2 w 3 3)] := rfl
  rw [r, d0, d1, d2, d3, e10, e20, e21, e30, e31, e32]
theorem all4_00 : (vals.all fun a03 => vals.all fun a12 => vals.all fun a13 => vals.all fun a23 => run4 (-2) (-2) a03 a12 a13 a23) = true := by decide +kernel
theorem all4_01 : (vals.all fun a03 => vals.all fun a12 => vals.all fun a13 => vals.all fun a23 => run4 (-2) (-1) a03 a12 a13 a23) = true := by decide +kernel
theorem all4_02 : (vals.all fun a03 => vals.all fun a12 => vals.all fun a13 => vals.all fun a23 => run4 (-2) (0) a03 a12 a13 a23) = true := by decide +kernel
theorem all4_03 : (vals.all fun a03 => vals.all fun a12 => vals.all fun a13 => vals.all fun a23 => run4 (-2) (1) a03 a12 a13 a23) = true := by decide +kernel
theorem all4_04 : (vals.all fun a03 => vals.all fun a12 => vals.all fun a13 => vals.all fun a23 => run4 (-2) (2) a03 a12 a13 a23) = true := by decide +kernel
theorem all4_10 : (vals.all fun a03 => vals.all fun a12 => vals.all fun a13 => vals.all fun a23 => run4 (-1) (-2) a03 a12 a13 a23) = true := by decide +kernel
theorem all4_11 : (vals.all fun a03 => vals.all fun a12 => vals.all fun a13 => vals.all fun a23 => run4 (-1) (-1) a03 a12 a13 a23) = true := by decide +kernel
theorem all4_12 : (vals.all fun a03 => vals.all fun a12 => vals.all fun a13 => vals.all fun a23 => run4 (-1) (0) a03 a12 a13 a23) = true := by decide +kernel
theorem all4_13 : (vals.all fun a03 => vals.all fun a12 => vals.all fun a13 => vals.all fun a23 => run4 (-1) (1) a03 a12 a13 a23) = true := by decide +kernel
theorem all4_14 : (vals.all fun a03 => vals.all fun a12 => vals.all fun a13 => vals.all fun a23 => run4 (-1) (2) a03 a12 a13 a23) = true := by decide +kernel
theorem all4_20 : (vals.all fun a03 => vals.all fun a12 => vals.all fun a13 => vals.all fun a23 => run4 (0) (-2) a03 a12 a13 a23) = true := by decide +kernel
theorem all4_21 : (vals.all fun a03 => vals.all fun a12 => vals.all fun a13 => vals.all fun a23 => run4 (0) (-1) a03 a12 a13 a23) = true := by decide +kernel
theorem all4_22 : (vals.all fun a03 => vals.all fun a12 => vals.all fun a13 => vals.all fun a23 => run4 (0) (0) a03 a12 a13 a23) = true := by decide +kernel
theorem all4_23 : (vals.all fun a03 => vals.all fun a12 => vals.all fun a13 => vals.all fun a23 => run4 (0) (1) a03 a12 a13 a23) = true := by decide +kernel
theorem all4_24 : (vals.all fun a03 => vals.all fun a12 => vals.all fun a13 => vals.all fun a23 => run4 (0) (2) a03 a12 a13 a23) = true := by decide +kernel
theorem all4_30 : (vals.all fun a03 => vals.all fun a12 => vals.all fun a13 => vals.all fun a23 => run4 (1) (-2) a03 a12 a13 a23) = true := by decide +kernel
theorem all4_31 : (vals.all fun a03 => vals.all fun a12 => vals.all fun a13 => vals.all fun a23 => run4 (1) (-1) a03 a12 a13 a23) = true := by decide +kernel
theorem all4_32 : (vals.all fun a03 => vals.all fun a12 => vals.all fun a13 => vals.all fun a23 => run4 (1) (0) a03 a12 a13 a23) = true := by decide +kernel
theorem all4_33 : (vals.all fun a03 => vals.all fun a12 => vals.all fun a13 => vals.all fun a23 => run4 (1) (1) a03 a12 a13 a23) = true := by decide +kernel
theorem all4_34 : (vals.all fun a03 => vals.all fun a12 => vals.all fun a13 => vals.all fun a23 => run4 (1) (2) a03 a12 a13 a23) = true := by decide +kernel
theorem all4_40 : (vals.all fun a03 => vals.all fun a12 => vals.all fun a13 => vals.all fun a23 => run4 (2) (-2) a03 a12 a13 a23) = true := by decide +kernel
theorem all4_41 : (vals.all fun a03 => vals.all fun a12 => vals.all fun a13 => vals.all fun a23 => run4 (2) (-1) a03 a12 a13 a23) = true := by decide +kernel
theorem all4_42 : (vals.all fun a03 => vals.all fun a12 => vals.all fun a13 => vals.all fun a23 => run4 (2) (0) a03 a12 a13 a23) = true := by decide +kernel
theorem all4_43 : (vals.all fun a03 => vals.all fun a12 => vals.all fun a13 => vals.all fun a23 => run4 (2) (1) a03 a12 a13 a23) = true := by decide +kernel
theorem all4_44 : (vals.all fun a03 => vals.all fun a12 => vals.all fun a13 => vals.all fun a23 => run4 (2) (2) a03 a12 a13 a23) = true := by decide +kernel
theorem runs4 {w : Mx} (h : WebS 4 2 w) : run4 (at2 w 0 1) (at2 w 0 2) (at2 w 0 3) (at2 w 1 2) (at2 w 1 3) (at2 w 2 3) = true := by
  have h1 := h.bd.at (by decide) 0 1
  have h2 := h.bd.at (by decide) 0 2
  have c1 : at2 w 0 1 = -2 ∨ at2 w 0 1 = -1 ∨ at2 w 0 1 = 0 ∨ at2 w 0 1 = 1 ∨ at2 w 0 1 = 2 := by omega
  have c2 : at2 w 0 2 = -2 ∨ at2 w 0 2 = -1 ∨ at2 w 0 2 = 0 ∨ at2 w 0 2 = 1 ∨ at2 w 0 2 = 2 := by omega
  have k3 := h.bd.at (by decide) 0 3
  have k4 := h.bd.at (by decide) 1 2
  have k5 := h.bd.at (by decide) 1 3
  have k6 := h.bd.at (by decide) 2 3
  rcases c1 with e1 | e1 | e1 | e1 | e1 <;> rcases c2 with e2 | e2 | e2 | e2 | e2 <;> rw [e1, e2]
  · exact of_vals (of_vals (of_vals (of_vals all4_00 k3) k4) k5) k6
  · exact of_vals (of_vals (of_vals (of_vals all4_01 k3) k4) k5) k6
  · exact of_vals (of_vals (of_vals (of_vals all4_02 k3) k4) k5) k6
  · exact of_vals (of_vals (of_vals (of_vals all4_03 k3) k4) k5) k6
  · exact of_vals (of_vals (of_vals (of_vals all4_04 k3) k4) k5) k6
  · exact of_vals (of_vals (of_vals (of_vals all4_10 k3) k4) k5) k6
  · exact of_vals (of_vals (of_vals (of_vals all4_11 k3) k4) k5) k6
  · exact of_vals (of_vals (of_vals (of_vals all4_12 k3) k4) k5) k6
  · exact of_vals (of_vals (of_vals (of_vals all4_13 k3) k4) k5) k6
  · exact of_vals (of_vals (of_vals (of_vals all4_14 k3) k4) k5) k6
  · exact of_vals (of_vals (of_vals (of_vals all4_20 k3) k4) k5) k6
  · exact of_vals (of_vals (of_vals (of_vals all4_21 k3) k4) k5) k6
  · exact of_vals (of_vals (of_vals (of_vals all4_22 k3) k4) k5) k6
  · exact of_vals (of_vals (of_vals (of_vals all4_23 k3) k4) k5) k6
  · exact of_vals (of_vals (of_vals (of_vals all4_24 k3) k4) k5) k6
  · exact of_vals (of_vals (of_vals (of_vals all4_30 k3) k4) k5) k6
  · exact of_vals (of_vals (of_vals (of_vals all4_31 k3) k4) k5) k6
  · exact of_vals (of_vals (of_vals (of_vals all4_32 k3) k4) k5) k6
  · exact of_vals (of_vals (of_vals (of_vals all4_33 k3) k4) k5) k6
  · exact of_vals (of_vals (of_vals (of_vals all4_34 k3) k4) k5) k6
  · exact of_vals (of_vals (of_vals (of_vals all4_40 k3) k4) k5) k6
  · exact of_vals (of_vals (of_vals (of_vals all4_41 k3) k4) k5) k6
  · exact of_vals (of_vals (of_vals (of_vals all4_42 k3) k4) k5) k6
  · exact of_vals (of_vals (of_vals (of_vals all4_43 k3) k4) k5) k6
  · exact of_vals (of_vals (of_vals (of_vals all4_44 k3) k4) k5) k6
theorem checked4 : Checked 4 := fun w h => by
  have r := runs4 h
  unfold run4 at r
  rw [frcL_eq] at r
  rw [web4 h, first4, last4, two4, flag4]
  exact r
theorem maths : Maths where
  grow n w row hg h := by
    obtain ⟨h1, h2, _⟩ := green_end hg h
    obtain ⟨h3, h4⟩ := h2.along hg.sq (firstFrame_sq n)
    exact ⟨by omega, h4, h3⟩
  same n w hg := same_rows hg
  perm n w row hn hw h := by
    have hc : Checked n := by
      have := hw.pos
      have : n = 1 ∨ n = 2 ∨ n = 3 ∨ n = 4 := by omega
      rcases this with rfl | rfl | rfl | rfl
      · exact checked1
      · exact checked2
      · exact checked3
      · exact checked4
    exact perm_ok hn hc hw h
  sinks n w row hn hw h := sinks_ok hn hw h
end G
open PySem PySem.W PyProof.Rows
set_option maxRecDepth 100000 in
set_option maxHeartbeats 0 in
theorem PySem.Challenge.cw_dartwebs_k14_whole_green_rows_holds : PySem.Challenge.rw_dartwebs_k14_whole_green_rows.Holds := by
  w_on; o_law; k_head; (case hw => w_witness2)
  k_fill
  refine G.walk G.maths (l := PySem.Challenge.rw_dartwebs_k14_whole_green_rows) rfl rfl (fun w h Y => PySem.W.kIn_of Y) ?F
  case F =>
    intro w mg fa h KX hG hmg
    refine' G.all_mk G.maths KX hG hmg ?a0 ?l0 ?c0 ?k0 ?a1 ?l1 ?c1 ?k1 ?a2 ?l2 ?c2 ?k2 ?a3 ?l3 ?c3 ?k3 ?a4 ?l4 ?c4 ?k4 ?a5 ?l5 ?c5 ?k5 ?a6 ?l6 ?c6 ?k6 ?a7 ?l7 ?c7 ?k7 ?a8 ?l8 ?c8 ?k8 ?a9 ?l9 ?c9 ?k9 ?a10 ?l10 ?c10 ?k10 ?a11 ?l11 ?c11 ?k11 ?a12 ?l12 ?c12 ?k12 ?a13 ?l13 ?c13 ?k13 ?a14 ?l14 ?c14 ?k14 ?a15 ?l15 ?c15 ?k15 ?a16 ?l16 ?c16 ?k16 ?a17 ?l17 ?c17 ?k17 ?a18 ?l18 ?c18 ?k18 ?a19 ?l19 ?c19 ?k19 ?a20 ?l20 ?c20 ?k20 ?a21 ?l21 ?c21 ?k21 ?a22 ?l22 ?c22 ?k22 ?a23 ?l23 ?c23 ?k23 ?a24 ?l24 ?c24 ?k24 ?a25 ?l25 ?c25 ?k25 ?a26 ?l26 ?c26 ?k26 ?a27 ?l27 ?c27 ?k27 ?a28 ?l28 ?c28 ?k28 ?a29 ?l29 ?c29 ?k29 ?a30 ?l30 ?c30 ?k30 ?a31 ?l31 ?c31 ?k31 ?a32 ?l32 ?c32 ?k32 ?z0 ?z1 ?z2 ?z3 ?z4 ?z5 ?z6 ?z7 ?z8 ?z9 ?z10 ?z11 ?z12 ?z13 ?z14 ?z15 ?z16 ?m0 ?m1 ?m2 ?m3
    (case a0 => k_is)
    (case l0 => k_is)
    (case c0 => k_is)
    (case k0 => k_is)
    (case a1 => k_is)
    (case l1 => k_is)
    (case c1 => k_is)
    (case k1 => k_is)
    (case a2 => k_is)
    (case l2 => k_is)
    (case c2 => k_is)
    (case k2 => k_is)
    (case a3 => k_is)
    (case l3 => k_is)
    (case c3 => k_is)
    (case k3 => k_is)
    (case a4 => k_is)
    (case l4 => k_is)
    (case c4 => k_is)
    (case k4 => k_is)
    (case a5 => k_is)
    (case l5 => k_is)
    (case c5 => k_is)
    (case k5 => k_is)
    (case a6 => k_is)
    (case l6 => k_is)
    (case c6 => k_is)
    (case k6 => k_is)
    (case a7 => k_is)
    (case l7 => k_is)
    (case c7 => k_is)
    (case k7 => k_is)
    (case a8 => k_is)
    (case l8 => k_is)
    (case c8 => k_is)
    (case k8 => k_is)
    (case a9 => k_is)
    (case l9 => k_is)
    (case c9 => k_is)
    (case k9 => k_is)
    (case a10 => k_is)
    (case l10 => k_is)
    (case c10 => k_is)
    (case k10 => k_is)
    (case a11 => k_is)
    (case l11 => k_is)
    (case c11 => k_is)
    (case k11 => k_is)
    (case a12 => k_is)
    (case l12 => k_is)
    (case c12 => k_is)
    (case k12 => k_is)
    (case a13 => k_is)
    (case l13 => k_is)
    (case c13 => k_is)
    (case k13 => k_is)
    (case a14 => k_is)
    (case l14 => k_is)
    (case c14 => k_is)
    (case k14 => k_is)
    (case a15 => k_is)
    (case l15 => k_is)
    (case c15 => k_is)
    (case k15 => k_is)
    (case a16 => k_is)
    (case l16 => k_is)
    (case c16 => k_is)
    (case k16 => k_is)
    (case a17 => k_is)
    (case l17 => k_is)
    (case c17 => k_is)
    (case k17 => k_is)
    (case a18 => k_is)
    (case l18 => k_is)
    (case c18 => k_is)
    (case k18 => k_is)
    (case a19 => k_is)
    (case l19 => k_is)
    (case c19 => k_is)
    (case k19 => k_is)
    (case a20 => k_is)
    (case l20 => k_is)
    (case c20 => k_is)
    (case k20 => k_is)
    (case a21 => k_is)
    (case l21 => k_is)
    (case c21 => k_is)
    (case k21 => k_is)
    (case a22 => k_is)
    (case l22 => k_is)
    (case c22 => k_is)
    (case k22 => k_is)
    (case a23 => k_is)
    (case l23 => k_is)
    (case c23 => k_is)
    (case k23 => k_is)
    (case a24 => k_is)
    (case l24 => k_is)
    (case c24 => k_is)
    (case k24 => k_is)
    (case a25 => k_is)
    (case l25 => k_is)
    (case c25 => k_is)
    (case k25 => k_is)
    (case a26 => k_is)
    (case l26 => k_is)
    (case c26 => k_is)
    (case k26 => k_is)
    (case a27 => k_is)
    (case l27 => k_is)
    (case c27 => k_is)
    (case k27 => k_is)
    (case a28 => k_is)
    (case l28 => k_is)
    (case c28 => k_is)
    (case k28 => k_is)
    (case a29 => k_is)
    (case l29 => k_is)
    (case c29 => k_is)
    (case k29 => k_is)
    (case a30 => k_is)
    (case l30 => k_is)
    (case c30 => k_is)
    (case k30 => k_is)
    (case a31 => k_is)
    (case l31 => k_is)
    (case c31 => k_is)
    (case k31 => k_is)
    (case a32 => k_is)
    (case l32 => k_is)
    (case c32 => k_is)
    (case k32 => k_is)
    (case z0 => k_is)
    (case z1 => k_is)
    (case z2 => k_is)
    (case z3 => k_is)
    (case z4 => k_is)
    (case z5 => k_is)
    (case z6 => k_is)
    (case z7 => k_is)
    (case z8 => k_is)
    (case z9 => k_is)
    (case z10 => k_is)
    (case z11 => k_is)
    (case z12 => k_is)
    (case z13 => k_is)
    (case z14 => k_is)
    (case z15 => k_is)
    (case z16 => k_is)
    (case m0 => k_is)
    (case m1 => k_is)
    (case m2 => k_is)
    (case m3 => k_is)
