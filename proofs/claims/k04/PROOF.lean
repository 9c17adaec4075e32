import PyProof.Rows.All
import Wide.All
import OpenK.AllK
import Wide.FinOn
import HandS.ForMost
import HandS.Evl
import HandS.Wide
import HandS.Codes
import HandS.FStrTup
import Flt.Len
import HandS.Defaults
import HandS.HeadEnd
import HandS.HeadHook2
import HandS.Property
import HandS.IsInst
import HandS.OwnEq
import KE.KStateDown
import HandS.Head0
import HandS.Head1
import HandS.Head2
import HandS.Deep
import KE.GoesEnum
import KE.KDictItemsList
import HandS.ListItems
import PySem.Challenge.RW_everyzone_k04_zones_made
import HandS.HeadHook1
set_option Elab.async false
set_option linter.all false
set_option maxRecDepth 100000
set_option maxHeartbeats 2000000
namespace Z
open PySem L2
open Evl (Ex ex_l ex_t sz_of sz_lt fresh_back)

/-- what a Python value is worth, as a tree -/
inductive D where
  | non
  | bl (b : Bool)
  | int (i : Int)
  | str (x : Str)
  | lst (xs : List D)
  | tup (xs : List D)
  /-- a list that is read alone (the script, a list of the module's top) -/
  | rls (xs : List D)
  | obj (C : Addr) (fs : List (Str × D))
  /-- the place alone: nothing is said of what lies there -/
  | adr (a : Addr)

mutual
/-- v stands for the tree d, read off H -/
inductive Rp (K : PySem.W.Frag) (H : Hp) : V → D → Prop
  | non : Rp K H .non .non
  | bl (b : Bool) : Rp K H (.bl b) (.bl b)
  | int (i : Int) : Rp K H (.int i) (.int i)
  | str (x : Str) : Rp K H (.str x) (.str x)
  | lst {a : Addr} {xs : List V} {ds : List D} : H a = some (.lst xs) → RpA K H xs ds → Rp K H (.ref a) (.lst ds)
  | rls {a : Addr} {xs : List V} {ds : List D} : SqL K H a xs → RpA K H xs ds → Rp K H (.ref a) (.rls ds)
  | tup {a : Addr} {xs : List V} {ds : List D} : SqT K H a xs → RpA K H xs ds → Rp K H (.ref a) (.tup ds)
  | obj {a C dx : Addr} {fs : List (Str × V)} {gs : List (Str × D)} : H a = some (.ins C dx fs) → RpF K H fs gs → Rp K H (.ref a) (.obj C gs)
  | adr (a : Addr) : Rp K H (.ref a) (.adr a)
inductive RpA (K : PySem.W.Frag) (H : Hp) : List V → List D → Prop
  | nil : RpA K H [] []
  | cons {v : V} {vs : List V} {d : D} {ds : List D} : Rp K H v d → RpA K H vs ds → RpA K H (v :: vs) (d :: ds)
inductive RpF (K : PySem.W.Frag) (H : Hp) : List (Str × V) → List (Str × D) → Prop
  | nil : RpF K H [] []
  | cons {f : Str} {v : V} {d : D} {fs : List (Str × V)} {gs : List (Str × D)} : Rp K H v d → RpF K H fs gs → RpF K H ((f, v) :: fs) ((f, d) :: gs)
end

section
variable {K : PySem.W.Frag} {H H' : Hp}
mutual
theorem Rp.mono (e : Ex H H') : ∀ (d : D) (v : V), Rp K H v d → Rp K H' v d
  | .non, _, h => by cases h; exact .non
  | .bl _, _, h => by cases h; exact .bl _
  | .int _, _, h => by cases h; exact .int _
  | .str _, _, h => by cases h; exact .str _
  | .lst ds, _, h => by
    cases h with
    | lst h1 h2 => exact .lst (e _ _ h1) (RpA.mono e ds _ h2)
  | .rls ds, _, h => by
    cases h with
    | rls h1 h2 => exact .rls (ex_l e h1) (RpA.mono e ds _ h2)
  | .tup ds, _, h => by
    cases h with
    | tup h1 h2 => exact .tup (ex_t e h1) (RpA.mono e ds _ h2)
  | .obj _ gs, _, h => by
    cases h with
    | obj h1 h2 => exact .obj (e _ _ h1) (RpF.mono e gs _ h2)
  | .adr _, _, h => by cases h; exact .adr _
theorem RpA.mono (e : Ex H H') : ∀ (ds : List D) (vs : List V), RpA K H vs ds → RpA K H' vs ds
  | [], _, h => by cases h; exact .nil
  | d :: ds, _, h => by
    cases h with
    | cons h1 h2 => exact .cons (Rp.mono e d _ h1) (RpA.mono e ds _ h2)
theorem RpF.mono (e : Ex H H') : ∀ (gs : List (Str × D)) (fs : List (Str × V)), RpF K H fs gs → RpF K H' fs gs
  | [], _, h => by cases h; exact .nil
  | (_, d) :: gs, _, h => by
    cases h with
    | cons h1 h2 => exact .cons (Rp.mono e d _ h1) (RpF.mono e gs _ h2)
end
theorem Rp.up {v : V} {d : D} (h : Rp K H v d) (e : Ex H H') : Rp K H' v d := Rp.mono e d v h
theorem RpA.up {vs : List V} {ds : List D} (h : RpA K H vs ds) (e : Ex H H') : RpA K H' vs ds := RpA.mono e ds vs h
theorem RpF.up {vs : List (Str × V)} {ds : List (Str × D)} (h : RpF K H vs ds) (e : Ex H H') : RpF K H' vs ds := RpF.mono e ds vs h
theorem RpA.len : ∀ {vs : List V} {ds : List D}, RpA K H vs ds → vs.length = ds.length
  | _, _, .nil => rfl
  | _, _, .cons _ r => by rw [List.length_cons, List.length_cons, RpA.len r]
theorem RpA.get : ∀ {vs : List V} {ds : List D} {i : Nat} {d : D}, RpA K H vs ds → ds[i]? = some d → ∃ v, vs[i]? = some v ∧ Rp K H v d
  | _, _, _, _, .nil, e => by simp at e
  | _, _, 0, _, .cons r _, e => by simp at e; subst e; exact ⟨_, rfl, r⟩
  | _, _, i + 1, d, .cons _ t, e => by
    obtain ⟨v, h1, h2⟩ := RpA.get (i := i) (d := d) t (by simpa using e)
    exact ⟨v, by simpa using h1, h2⟩
theorem RpA.getV : ∀ {vs : List V} {ds : List D} {i : Nat} {v : V}, RpA K H vs ds → vs[i]? = some v → ∃ d, ds[i]? = some d ∧ Rp K H v d
  | _, _, _, _, .nil, e => by simp at e
  | _, _, 0, _, .cons r _, e => by simp at e; subst e; exact ⟨_, rfl, r⟩
  | _, _, i + 1, v, .cons _ t, e => by
    obtain ⟨d, h1, h2⟩ := RpA.getV (i := i) (v := v) t (by simpa using e)
    exact ⟨d, by simpa using h1, h2⟩
theorem RpA.append : ∀ {vs us : List V} {ds es : List D}, RpA K H vs ds → RpA K H us es → RpA K H (vs ++ us) (ds ++ es)
  | _, _, _, _, .nil, s => s
  | _, _, _, _, .cons r t, s => .cons r (RpA.append t s)
theorem RpA.take : ∀ {vs : List V} {ds : List D} (n : Nat), RpA K H vs ds → RpA K H (vs.take n) (ds.take n)
  | _, _, 0, _ => .nil
  | _, _, _ + 1, .nil => .nil
  | _, _, n + 1, .cons r t => .cons r (RpA.take n t)
theorem RpA.drop : ∀ {vs : List V} {ds : List D} (n : Nat), RpA K H vs ds → RpA K H (vs.drop n) (ds.drop n)
  | _, _, 0, r => r
  | _, _, _ + 1, .nil => .nil
  | _, _, n + 1, .cons _ t => RpA.drop n t
theorem RpA.set {v : V} {d : D} (r : Rp K H v d) : ∀ {vs : List V} {ds : List D} (i : Nat), RpA K H vs ds → RpA K H (vs.set i v) (ds.set i d)
  | _, _, _, .nil => .nil
  | _, _, 0, .cons _ t => .cons r t
  | _, _, i + 1, .cons q t => .cons q (RpA.set r i t)
theorem RpF.look : ∀ {fs : List (Str × V)} {gs : List (Str × D)} {f : Str} {d : D}, RpF K H fs gs → gs.lookup f = some d → ∃ v, fs.lookup f = some v ∧ Rp K H v d
  | _, _, _, _, .nil, e => by simp at e
  | _, _, f, d, .cons (f := g) r t, e => by
    rw [List.lookup_cons] at e ⊢
    cases q : f == g with
    | true =>
      rw [q] at e
      have e' : _ = d := Option.some.inj e
      subst e'
      exact ⟨_, rfl, r⟩
    | false =>
      rw [q] at e
      exact RpF.look t e
theorem RpF.lookN : ∀ {fs : List (Str × V)} {gs : List (Str × D)} {f : Str}, RpF K H fs gs → gs.lookup f = none → fs.lookup f = none
  | _, _, _, .nil, _ => rfl
  | _, _, f, .cons (f := g) r t, e => by
    rw [List.lookup_cons] at e ⊢
    cases q : f == g with
    | true =>
      rw [q] at e
      cases e
    | false =>
      rw [q] at e
      exact RpF.lookN t e
/-! ### what is flat -/
theorem Rp.int_inv {v : V} {i : Int} (h : Rp K H v (.int i)) : v = .int i := by cases h; rfl
theorem Rp.bl_inv {v : V} {i : Bool} (h : Rp K H v (.bl i)) : v = .bl i := by cases h; rfl
theorem Rp.str_inv {v : V} {i : Str} (h : Rp K H v (.str i)) : v = .str i := by cases h; rfl
theorem Rp.non_inv {v : V} (h : Rp K H v .non) : v = .non := by cases h; rfl
theorem Rp.lst_inv {v : V} {ds : List D} (h : Rp K H v (.lst ds)) : ∃ a xs, v = .ref a ∧ H a = some (.lst xs) ∧ RpA K H xs ds := by
  cases h with
  | lst h1 h2 => exact ⟨_, _, rfl, h1, h2⟩
theorem Rp.rls_inv {v : V} {ds : List D} (h : Rp K H v (.rls ds)) : ∃ a xs, v = .ref a ∧ SqL K H a xs ∧ RpA K H xs ds := by
  cases h with
  | rls h1 h2 => exact ⟨_, _, rfl, h1, h2⟩
theorem Rp.tup_inv {v : V} {ds : List D} (h : Rp K H v (.tup ds)) : ∃ a xs, v = .ref a ∧ SqT K H a xs ∧ RpA K H xs ds := by
  cases h with
  | tup h1 h2 => exact ⟨_, _, rfl, h1, h2⟩
theorem Rp.obj_inv {v : V} {C : Addr} {gs : List (Str × D)} (h : Rp K H v (.obj C gs)) : ∃ a dx fs, v = .ref a ∧ H a = some (.ins C dx fs) ∧ RpF K H fs gs := by
  cases h with
  | obj h1 h2 => exact ⟨_, _, _, rfl, h1, h2⟩
def D.flat : D → Bool
  | .non | .bl _ | .int _ | .str _ => true
  | _ => false
theorem Rp.flat {v : V} {d : D} (hf : d.flat = true) (h : Rp K H v d) : Rp K H' v d := by
  cases h with
  | non => exact .non
  | bl b => exact .bl b
  | int i => exact .int i
  | str x => exact .str x
  | lst _ _ => cases hf
  | rls _ _ => cases hf
  | tup _ _ => cases hf
  | obj _ _ => cases hf
  | adr _ => cases hf
theorem Rp.adr_inv {v : V} {a : Addr} (h : Rp K H v (.adr a)) : v = .ref a := by cases h; rfl
theorem RpA.ints : ∀ {vs : List V} {ns : List Int}, RpA K H vs (ns.map D.int) → vs = ns.map V.int
  | _, [], h => by cases h; rfl
  | _, n :: ns, h => by
    cases h with
    | cons h1 h2 => rw [h1.int_inv, RpA.ints h2]; rfl
theorem RpA.of_ints : ∀ (ns : List Int), RpA K H (ns.map V.int) (ns.map D.int)
  | [] => .nil
  | n :: ns => .cons (.int n) (RpA.of_ints ns)
end

/-! ### the heap without some addresses -/
def Hx (H : Hp) (S : List Addr) : Hp := fun a => if a ∈ S then none else H a
section
variable {K : PySem.W.Frag} {H H' H1 : Hp} {S T : List Addr} {a p : Addr} {o : HO}
theorem Hx.of (h : H a = some o) (n : a ∉ S) : Hx H S a = some o := by unfold Hx; rw [if_neg n]; exact h
theorem Hx.inv (h : Hx H S a = some o) : H a = some o ∧ a ∉ S := by
  unfold Hx at h
  by_cases m : a ∈ S
  · rw [if_pos m] at h; cases h
  · rw [if_neg m] at h; exact ⟨h, m⟩
theorem Hx.nil : Ex H (Hx H []) := fun a o h => Hx.of h (by simp)
theorem Hx.ex : Ex (Hx H S) H := fun a o h => (Hx.inv h).1
theorem Hx.sub (h : ∀ a ∈ T, a ∈ S) : Ex (Hx H S) (Hx H T) := fun a o q => Hx.of (Hx.inv q).1 fun m => (Hx.inv q).2 (h a m)
theorem Hx.mono (e : Ex H H') : Ex (Hx H S) (Hx H' S) := fun a o q => Hx.of (e _ _ (Hx.inv q).1) (Hx.inv q).2
/-- a new thing that is owned from now on: the ground stays -/
theorem Hx.own (h : H p = none) : Ex (Hx H S) (Hx (upd H p o) (p :: S)) := fun a u q => by
  obtain ⟨h1, h2⟩ := Hx.inv q
  have n : a ≠ p := ne_of_none h1 h
  refine Hx.of (by rw [upd_ne n]; exact h1) ?_
  simp [n, h2]
/-- an owned thing changes: the ground stays -/
theorem Hx.chg (h : p ∈ S) : Ex (Hx H S) (Hx (upd H p o) S) := fun a u q => by
  obtain ⟨h1, h2⟩ := Hx.inv q
  have n : a ≠ p := fun e => h2 (e ▸ h)
  exact Hx.of (by rw [upd_ne n]; exact h1) h2
/-- all of S is tracked -/
def Ok (S : List Addr) (H : Hp) : Prop := ∀ a ∈ S, H a ≠ none
theorem Ok.up (h : Ok S H) (e : Ex H H') : Ok S H' := fun a m z => by
  have := h a m
  cases q : H a with
  | none => exact this q
  | some o => rw [e a o q] at z; cases z
theorem Ok.no (h : Ok S H) (hp : H p = none) : p ∉ S := fun m => h p m hp
theorem Ok.nil : Ok [] H := fun a m => by simp at m
/-- a new thing of the ground -/
theorem Hx.new (ok : Ok S H) (h : H p = none) : Ex (Hx H S) (Hx (upd H p o) S) := fun a u q => by
  obtain ⟨h1, h2⟩ := Hx.inv q
  have n : a ≠ p := ne_of_none h1 h
  exact Hx.of (by rw [upd_ne n]; exact h1) h2
theorem Hx.at (ok : Ok S H) (h : H p = none) : Hx (upd H p o) S p = some o := Hx.of upd_same (ok.no h)
end
end Z


set_option Elab.async false
set_option linter.all false
set_option maxRecDepth 100000
set_option maxHeartbeats 2000000
namespace Z
open PySem L2
open Evl (Ex ex_l ex_t sz_of sz_lt fresh_back)

/-! ### what a reading evaluates to -/
/-- te comes to the tree d; facts in the heap without S; nothing that stood is changed -/
def Ev (K : PySem.W.Frag) (te : TE) (σ : L2.St) (G : Hp) (S : List Addr) (d : D) : Prop :=
  ∀ H1, Ex G (Hx H1 S) → Ok S H1 → ∀ Q : VK, (∀ v H2, Ex H1 H2 → Rp K (Hx H2 S) v d → Q v H2) → te σ H1 Q
def EvA (K : PySem.W.Frag) (ta : TA) (σ : L2.St) (G : Hp) (S : List Addr) (ds : List D) : Prop :=
  ∀ H1, Ex G (Hx H1 S) → Ok S H1 → ∀ Q : List V → Hp → Prop, (∀ vs H2, Ex H1 H2 → RpA K (Hx H2 S) vs ds → Q vs H2) → ta σ H1 Q
def EvT (tt : TT) (σ : L2.St) (G : Hp) (S : List Addr) (b : Bool) : Prop :=
  ∀ H1, Ex G (Hx H1 S) → Ok S H1 → ∀ Q : Bool → Hp → Prop, (∀ H2, Ex H1 H2 → Q b H2) → tt σ H1 Q
/-- te comes to a new list of the trees ds -/
def EvF (K : PySem.W.Frag) (te : TE) (σ : L2.St) (G : Hp) (S : List Addr) (ds : List D) : Prop :=
  ∀ H1, Ex G (Hx H1 S) → Ok S H1 → ∀ Q : VK, (∀ p xs H2, H1 p = none → Ex H1 H2 → H2 p = some (.lst xs) → RpA K (Hx H2 (p :: S)) xs ds → Q (.ref p) H2) → te σ H1 Q
def EvO (to : TO) (σ : L2.St) (G : Hp) (S : List Addr) (o : Option Int) : Prop :=
  ∀ H1, Ex G (Hx H1 S) → Ok S H1 → ∀ Q : Option Int → Hp → Prop, (∀ H2, Ex H1 H2 → Q o H2) → to σ H1 Q
/-- an operation upon values, a call of a built-in thing, upon trees -/
def RO (K : PySem.W.Frag) (r : R2) (x y z : D) : Prop := ∀ (S : List Addr) (H : Hp), Ok S H → ∀ u v, Rp K (Hx H S) u x → Rp K (Hx H S) v y → ∀ Q : VK, (∀ w H2, Ex H H2 → Rp K (Hx H2 S) w z → Q w H2) → r u v H Q
def RC (K : PySem.W.Frag) (r : List V → Hp → VK → Prop) (ds : List D) (z : D) : Prop := ∀ (S : List Addr) (H : Hp), Ok S H → ∀ us, RpA K (Hx H S) us ds → ∀ Q : VK, (∀ w H2, Ex H H2 → Rp K (Hx H2 S) w z → Q w H2) → r us H Q
def RM (K : PySem.W.Frag) (r : V → List V → Hp → VK → Prop) (x : D) (ds : List D) (z : D) : Prop := ∀ (S : List Addr) (H : Hp), Ok S H → ∀ u us, Rp K (Hx H S) u x → RpA K (Hx H S) us ds → ∀ Q : VK, (∀ w H2, Ex H H2 → Rp K (Hx H2 S) w z → Q w H2) → r u us H Q
def RCF (K : PySem.W.Frag) (r : List V → Hp → VK → Prop) (ds : List D) (zs : List D) : Prop := ∀ (S : List Addr) (H : Hp), Ok S H → ∀ us, RpA K (Hx H S) us ds → ∀ Q : VK, (∀ p xs H2, H p = none → Ex H H2 → H2 p = some (.lst xs) → RpA K (Hx H2 (p :: S)) xs zs → Q (.ref p) H2) → r us H Q

section
variable {K : PySem.W.Frag} {σ : L2.St} {H H' G G' : Hp} {S T : List Addr} {ta tb tc te : TE} {t u : TT} {x y z d : D} {r : R2} {i j : Int} {b c : Bool}
theorem hup {v : V} (h : Rp K (Hx H S) v d) (e : Ex H H') : Rp K (Hx H' S) v d := h.up (Hx.mono e)
theorem hupA {vs : List V} {ds : List D} (h : RpA K (Hx H S) vs ds) (e : Ex H H') : RpA K (Hx H' S) vs ds := h.up (Hx.mono e)
theorem hw {v : V} (h : Rp K (Hx H S) v d) : Rp K H v d := h.up Hx.ex
theorem hwA {vs : List V} {ds : List D} (h : RpA K (Hx H S) vs ds) : RpA K H vs ds := h.up Hx.ex
theorem gt {H1 H2 : Hp} (e : Ex G (Hx H1 S)) (e2 : Ex H1 H2) : Ex G (Hx H2 S) := e.trans (Hx.mono e2)
theorem Ev.mono (e : Ex G G') (h : Ev K te σ G S d) : Ev K te σ G' S d := fun H1 a => h H1 (Evl.Ex.trans e a)
theorem EvA.mono {ta : TA} {ds : List D} (e : Ex G G') (h : EvA K ta σ G S ds) : EvA K ta σ G' S ds := fun H1 a => h H1 (Evl.Ex.trans e a)
theorem EvT.mono (e : Ex G G') (h : EvT t σ G S b) : EvT t σ G' S b := fun H1 a => h H1 (Evl.Ex.trans e a)
theorem EvF.mono {ds : List D} (e : Ex G G') (h : EvF K te σ G S ds) : EvF K te σ G' S ds := fun H1 a => h H1 (Evl.Ex.trans e a)
theorem Ev.to (h : Ev K te σ G S d) (e : d = z) : Ev K te σ G S z := e ▸ h
theorem EvT.to (h : EvT t σ G S b) (e : b = c) : EvT t σ G S c := e ▸ h
theorem EvF.ev {ds : List D} (h : EvF K te σ G S ds) : Ev K te σ G S (.lst ds) := fun H1 e o Q q => h H1 e o Q fun p xs H2 hp e2 h2 ra =>
  q _ H2 e2 (.lst (Hx.of h2 (o.no hp)) (ra.up (Hx.sub fun a m => List.mem_cons_of_mem _ m)))
theorem ev_var {n : Nat} {v : V} (h : σ[n]? = some (some v)) (hr : Rp K G v d) : Ev K (tVar n) σ G S d := fun H1 e _ Q q => ⟨v, h, q v H1 (Ex.refl H1) (hr.up e)⟩
theorem ev_int : Ev K (tC (.int i)) σ G S (.int i) := fun H1 _ _ _ q => q _ H1 (Ex.refl H1) (.int i)
theorem ev_str {s : Str} : Ev K (tC (.str s)) σ G S (.str s) := fun H1 _ _ _ q => q _ H1 (Ex.refl H1) (.str s)
theorem ev_bl : Ev K (tC (.bl b)) σ G S (.bl b) := fun H1 _ _ _ q => q _ H1 (Ex.refl H1) (.bl b)
theorem ev_non : Ev K (tC .non) σ G S .non := fun H1 _ _ _ q => q _ H1 (Ex.refl H1) .non
theorem ev_op (ha : Ev K ta σ G S x) (hb : Ev K tb σ G S y) (hr : RO K r x y z) : Ev K (tOp r ta tb) σ G S z := fun H1 e o Q q =>
  ha H1 e o _ fun u H2 e2 ru => hb H2 (gt e e2) (o.up e2) _ fun v H3 e3 rv => hr S H3 ((o.up e2).up e3) u v (hup ru e3) rv Q fun w H4 e4 rw => q w H4 ((e2.trans e3).trans e4) rw
theorem ro_I0 {g : Int → Int → V} (hg : ∀ H, Rp K H (g i j) z) : RO K (rI0 g) (.int i) (.int j) z := fun S H o u v ru rv Q q => ⟨i, j, ru.int_inv, rv.int_inv, q _ H (Ex.refl H) (hg _)⟩
theorem ro_I {C : Int → Int → Prop} {g : Int → Int → V} (hc : C i j) (hg : ∀ H, Rp K H (g i j) z) : RO K (rI C g) (.int i) (.int j) z := fun S H o u v ru rv Q q => ⟨i, j, ru.int_inv, rv.int_inv, hc, q _ H (Ex.refl H) (hg _)⟩
theorem ev_add (ha : Ev K ta σ G S (.int i)) (hb : Ev K tb σ G S (.int j)) : Ev K (tOp (rI0 fun i j => .int (i + j)) ta tb) σ G S (.int (i + j)) := ev_op ha hb (ro_I0 fun _ => .int _)
theorem ev_sub (ha : Ev K ta σ G S (.int i)) (hb : Ev K tb σ G S (.int j)) : Ev K (tOp (rI0 fun i j => .int (i - j)) ta tb) σ G S (.int (i - j)) := ev_op ha hb (ro_I0 fun _ => .int _)
theorem ev_mul (ha : Ev K ta σ G S (.int i)) (hb : Ev K tb σ G S (.int j)) (hc : CMul i j) : Ev K (tOp (rI CMul fun i j => .int (i * j)) ta tb) σ G S (.int (i * j)) := ev_op ha hb (ro_I hc fun _ => .int _)
theorem ev_mod (ha : Ev K ta σ G S (.int i)) (hb : Ev K tb σ G S (.int j)) (hc : 0 < j) : Ev K (tOp (rI (fun _ j => 0 < j) fun i j => .int (i % j)) ta tb) σ G S (.int (i % j)) := ev_op ha hb (ro_I (C := fun _ j => 0 < j) hc fun _ => .int _)
theorem ev_div (ha : Ev K ta σ G S (.int i)) (hb : Ev K tb σ G S (.int j)) (hc : CDivW i j) : Ev K (tOp (rI CDivW fun i j => .int (i / j)) ta tb) σ G S (.int (i / j)) := ev_op ha hb (ro_I hc fun _ => .int _)
theorem ev_pow (ha : Ev K ta σ G S (.int i)) (hb : Ev K tb σ G S (.int j)) (hc : CPow i j) : Ev K (tOp (rI CPow fun i j => .int (i ^ j.toNat)) ta tb) σ G S (.int (i ^ j.toNat)) := ev_op ha hb (ro_I hc fun _ => .int _)
theorem ev_lt (ha : Ev K ta σ G S (.int i)) (hb : Ev K tb σ G S (.int j)) : Ev K (tOp (rI0 fun i j => .bl (decide (i < j))) ta tb) σ G S (.bl (decide (i < j))) := ev_op ha hb (ro_I0 fun _ => .bl _)
theorem ev_le (ha : Ev K ta σ G S (.int i)) (hb : Ev K tb σ G S (.int j)) : Ev K (tOp (rI0 fun i j => .bl (decide (i ≤ j))) ta tb) σ G S (.bl (decide (i ≤ j))) := ev_op ha hb (ro_I0 fun _ => .bl _)
theorem ev_gt (ha : Ev K ta σ G S (.int i)) (hb : Ev K tb σ G S (.int j)) : Ev K (tOp (rI0 fun i j => .bl (decide (j < i))) ta tb) σ G S (.bl (decide (j < i))) := ev_op ha hb (ro_I0 fun _ => .bl _)
theorem ev_ge (ha : Ev K ta σ G S (.int i)) (hb : Ev K tb σ G S (.int j)) : Ev K (tOp (rI0 fun i j => .bl (decide (j ≤ i))) ta tb) σ G S (.bl (decide (j ≤ i))) := ev_op ha hb (ro_I0 fun _ => .bl _)
theorem ev_eqI (ha : Ev K ta σ G S (.int i)) (hb : Ev K tb σ G S (.int j)) : Ev K (tOp rEq ta tb) σ G S (.bl (decide (i = j))) := ev_op ha hb fun S H o u v ru rv Q q => by
  rw [ru.int_inv, rv.int_inv]
  refine ⟨rfl, ?_⟩
  have e : decide ((V.int i) = V.int j) = decide (i = j) := by simp
  rw [e]
  exact q _ H (Ex.refl H) (.bl _)
theorem ev_neI (ha : Ev K ta σ G S (.int i)) (hb : Ev K tb σ G S (.int j)) : Ev K (tOp rNe ta tb) σ G S (.bl (!decide (i = j))) := ev_op ha hb fun S H o u v ru rv Q q => by
  rw [ru.int_inv, rv.int_inv]
  refine ⟨rfl, ?_⟩
  have e : decide ((V.int i) = V.int j) = decide (i = j) := by simp
  rw [e]
  exact q _ H (Ex.refl H) (.bl _)
theorem ev_eqS {i j : Str} (ha : Ev K ta σ G S (.str i)) (hb : Ev K tb σ G S (.str j)) : Ev K (tOp rEq ta tb) σ G S (.bl (decide (i = j))) := ev_op ha hb fun S H o u v ru rv Q q => by
  rw [ru.str_inv, rv.str_inv]
  refine ⟨rfl, ?_⟩
  have e : decide ((V.str i) = V.str j) = decide (i = j) := by simp
  rw [e]
  exact q _ H (Ex.refl H) (.bl _)
theorem ev_neS {i j : Str} (ha : Ev K ta σ G S (.str i)) (hb : Ev K tb σ G S (.str j)) : Ev K (tOp rNe ta tb) σ G S (.bl (!decide (i = j))) := ev_op ha hb fun S H o u v ru rv Q q => by
  rw [ru.str_inv, rv.str_inv]
  refine ⟨rfl, ?_⟩
  have e : decide ((V.str i) = V.str j) = decide (i = j) := by simp
  rw [e]
  exact q _ H (Ex.refl H) (.bl _)
theorem ev_eqB (ha : Ev K ta σ G S (.bl b)) (hb : Ev K tb σ G S (.bl c)) : Ev K (tOp rEq ta tb) σ G S (.bl (decide (b = c))) := ev_op ha hb fun S H o u v ru rv Q q => by
  rw [ru.bl_inv, rv.bl_inv]
  refine ⟨rfl, ?_⟩
  have e : decide ((V.bl b) = V.bl c) = decide (b = c) := by simp
  rw [e]
  exact q _ H (Ex.refl H) (.bl _)
theorem ev_neB (ha : Ev K ta σ G S (.bl b)) (hb : Ev K tb σ G S (.bl c)) : Ev K (tOp rNe ta tb) σ G S (.bl (!decide (b = c))) := ev_op ha hb fun S H o u v ru rv Q q => by
  rw [ru.bl_inv, rv.bl_inv]
  refine ⟨rfl, ?_⟩
  have e : decide ((V.bl b) = V.bl c) = decide (b = c) := by simp
  rw [e]
  exact q _ H (Ex.refl H) (.bl _)
theorem ev_neg (ha : Ev K ta σ G S (.int i)) : Ev K (tUn (rU fun i => .int (-i)) ta) σ G S (.int (-i)) := fun H1 e o Q q => ha H1 e o _ fun u H2 e2 ru => ⟨i, ru.int_inv, q _ H2 e2 (.int _)⟩
/-! tests -/
theorem et_test (h : Ev K te σ G S (.bl b)) : EvT (tTest te) σ G S b := fun H1 e o _ q => h H1 e o _ fun v H2 e2 rv => ⟨b, rv.bl_inv, q H2 e2⟩
theorem et_B (h : Ev K te σ G S (.bl b)) : EvT (tB te) σ G S b := fun H1 e o _ q => h H1 e o _ fun v H2 e2 rv => ⟨b, rv.bl_inv, q H2 e2⟩
theorem et_and (h1 : EvT t σ G S b) (h2 : b = true → EvT u σ G S c) : EvT (tAnd t u) σ G S (b && c) := fun H1 e o Q q => h1 H1 e o _ fun H2 e2 => by
  cases b with
  | true => exact h2 rfl H2 (gt e e2) (o.up e2) Q fun H3 e3 => q H3 (e2.trans e3)
  | false => exact q H2 e2
theorem et_or (h1 : EvT t σ G S b) (h2 : b = false → EvT u σ G S c) : EvT (tOr t u) σ G S (b || c) := fun H1 e o Q q => h1 H1 e o _ fun H2 e2 => by
  cases b with
  | true => exact q H2 e2
  | false => exact h2 rfl H2 (gt e e2) (o.up e2) Q fun H3 e3 => q H3 (e2.trans e3)
theorem et_not (h1 : EvT t σ G S b) : EvT (tNot t) σ G S (!b) := fun H1 e o _ q => h1 H1 e o _ fun H2 e2 => q H2 e2
theorem ev_andV (h1 : Ev K ta σ G S (.bl b)) (h2 : b = true → Ev K tb σ G S (.bl c)) : Ev K (tAndV ta tb) σ G S (.bl (b && c)) := fun H1 e o Q q => h1 H1 e o _ fun v H2 e2 rv => ⟨b, rv.bl_inv, by
  cases b with
  | true => exact h2 rfl H2 (gt e e2) (o.up e2) Q fun w H3 e3 rw => q w H3 (e2.trans e3) rw
  | false => exact q _ H2 e2 (.bl _)⟩
theorem ev_orV (h1 : Ev K ta σ G S (.bl b)) (h2 : b = false → Ev K tb σ G S (.bl c)) : Ev K (tOrV ta tb) σ G S (.bl (b || c)) := fun H1 e o Q q => h1 H1 e o _ fun v H2 e2 rv => ⟨b, rv.bl_inv, by
  cases b with
  | true => exact q _ H2 e2 (.bl _)
  | false => exact h2 rfl H2 (gt e e2) (o.up e2) Q fun w H3 e3 rw => q w H3 (e2.trans e3) rw⟩
theorem ev_notV (h1 : Ev K ta σ G S (.bl b)) : Ev K (tNotV ta) σ G S (.bl (!b)) := fun H1 e o _ q => h1 H1 e o _ fun v H2 e2 rv => ⟨b, rv.bl_inv, q _ H2 e2 (.bl _)⟩
theorem ev_if (h : EvT t σ G S b) (h1 : b = true → Ev K ta σ G S x) (h2 : b = false → Ev K tb σ G S y) : Ev K (tIf t ta tb) σ G S (if b then x else y) := fun H1 e o Q q => h H1 e o _ fun H2 e2 => by
  cases b with
  | true => exact h1 rfl H2 (gt e e2) (o.up e2) Q fun w H3 e3 rw => q w H3 (e2.trans e3) rw
  | false => exact h2 rfl H2 (gt e e2) (o.up e2) Q fun w H3 e3 rw => q w H3 (e2.trans e3) rw
/-! chains a < b < c of ints -/
theorem ev_chain {g g' : Int → Int → V} {k : Int} (hg : g i j = .bl b) (hg' : g' j k = .bl c) (ha : Ev K ta σ G S (.int i)) (hb : Ev K tb σ G S (.int j)) (hc : Ev K tc σ G S (.int k)) : Ev K (tChain (rI0 g) (rI0 g') ta tb tc) σ G S (.bl (b && c)) := fun H1 e o Q q =>
  ha H1 e o _ fun u H2 e2 ru => hb H2 (gt e e2) (o.up e2) _ fun v H3 e3 rv => ⟨i, j, ru.int_inv, rv.int_inv, b, hg, by
    cases b with
    | true => exact hc H3 (gt (gt e e2) e3) ((o.up e2).up e3) _ fun w H4 e4 rw => ⟨j, k, rv.int_inv, rw.int_inv, by rw [hg']; exact q _ H4 ((e2.trans e3).trans e4) (.bl _)⟩
    | false => exact q _ H3 (e2.trans e3) (.bl _)⟩
/-! displays, parts -/
theorem ea_nil : EvA K tNil σ G S [] := fun H1 _ _ _ q => q _ H1 (Ex.refl H1) .nil
theorem ea_cons {tr : TA} {ds : List D} (h : Ev K ta σ G S x) (hr : EvA K tr σ G S ds) : EvA K (tCons ta tr) σ G S (x :: ds) := fun H1 e o _ q =>
  h H1 e o _ fun v H2 e2 rv => hr H2 (gt e e2) (o.up e2) _ fun vs H3 e3 rs => q _ H3 (e2.trans e3) (.cons (hup rv e3) rs)
theorem ef_lst {ta : TA} {ds : List D} (h : EvA K ta σ G S ds) (hl : ds.length ≤ 100000) : EvF K (tLst ta) σ G S ds := fun H1 e o _ q =>
  h H1 e o _ fun vs H2 e2 rs => ⟨sz_of (by rw [rs.len]; exact hl), fun p hp => q p vs _ (fresh_back e2 hp) (e2.trans (Evl.Ex.new hp)) upd_same (rs.up (Hx.own hp))⟩
theorem ev_lst {ta : TA} {ds : List D} (h : EvA K ta σ G S ds) (hl : ds.length ≤ 100000) : Ev K (tLst ta) σ G S (.lst ds) := (ef_lst h hl).ev
theorem ev_tup {ta : TA} {ds : List D} (h : EvA K ta σ G S ds) (hl : ds.length ≤ 100000) : Ev K (tTup ta) σ G S (.tup ds) := fun H1 e o _ q =>
  h H1 e o _ fun vs H2 e2 rs => ⟨sz_of (by rw [rs.len]; exact hl), fun p hp => q _ _ (e2.trans (Evl.Ex.new hp)) (.tup (Or.inl (Or.inl (Hx.at (o.up e2) hp))) (rs.up (Hx.new (o.up e2) hp)))⟩
theorem atI_of {xs : List V} {ds : List D} (h : RpA K H xs ds) (ha : atI ds i = some d) : ∃ v, atI xs i = some v ∧ Rp K H v d := by
  unfold atI at ha ⊢
  rw [h.len]
  cases q : ixN ds.length i with
  | none => rw [q] at ha; cases ha
  | some n =>
    rw [q] at ha
    exact h.get ha
theorem ev_ixL {ds : List D} (ha : Ev K ta σ G S (.lst ds)) (hb : Ev K tb σ G S (.int i)) (hi : atI ds i = some d) : Ev K (tOp (rIxL K) ta tb) σ G S d := ev_op ha hb fun S H o u v ru rv Q q => by
  obtain ⟨a, xs, rfl, h1, h2⟩ := ru.lst_inv
  rw [rv.int_inv]
  obtain ⟨w, hw, rw⟩ := atI_of h2 hi
  exact ⟨a, xs, i, w, rfl, rfl, Or.inl (Or.inl (Hx.ex _ _ h1)), hw, q w H (Ex.refl H) rw⟩
theorem ev_ixR {ds : List D} (ha : Ev K ta σ G S (.rls ds)) (hb : Ev K tb σ G S (.int i)) (hi : atI ds i = some d) : Ev K (tOp (rIxL K) ta tb) σ G S d := ev_op ha hb fun S H o u v ru rv Q q => by
  obtain ⟨a, xs, rfl, h1, h2⟩ := ru.rls_inv
  rw [rv.int_inv]
  obtain ⟨w, hw, rw⟩ := atI_of h2 hi
  exact ⟨a, xs, i, w, rfl, rfl, ex_l Hx.ex h1, hw, q w H (Ex.refl H) rw⟩
theorem ev_ixT {ds : List D} (ha : Ev K ta σ G S (.tup ds)) (hb : Ev K tb σ G S (.int i)) (hi : atI ds i = some d) : Ev K (tOp (rIxT K) ta tb) σ G S d := ev_op ha hb fun S H o u v ru rv Q q => by
  obtain ⟨a, xs, rfl, h1, h2⟩ := ru.tup_inv
  rw [rv.int_inv]
  obtain ⟨w, hw, rw⟩ := atI_of h2 hi
  exact ⟨a, xs, i, w, rfl, rfl, ex_t Hx.ex h1, hw, q w H (Ex.refl H) rw⟩
theorem eo_none : EvO tNoPart σ G S none := fun H1 _ _ _ q => q H1 (Ex.refl H1)
theorem eo_some (h : Ev K te σ G S (.int i)) : EvO (tPart te) σ G S (some i) := fun H1 e o _ q => h H1 e o _ fun v H2 e2 rv => ⟨i, rv.int_inv, q H2 e2⟩
def cut {α : Type} (xs : List α) (lo hi : Option Int) : List α := (xs.drop (HT.sIx xs.length 0 lo)).take (HT.sIx xs.length xs.length hi - HT.sIx xs.length 0 lo)
theorem cut_of {xs : List V} {ds : List D} {lo hi : Option Int} (h : RpA K H xs ds) : RpA K H (cutV xs lo hi) (cut ds lo hi) := by
  unfold cutV cut
  rw [h.len]
  exact RpA.take _ (RpA.drop _ h)
theorem ef_sl {ds : List D} {tl th : TO} {lo hi : Option Int} (h : Ev K te σ G S (.lst ds)) (h1 : EvO tl σ G S lo) (h2 : EvO th σ G S hi) : EvF K (tSl (rSlL K) te tl th) σ G S (cut ds lo hi) := fun H1 e o _ q =>
  h H1 e o _ fun v H2 e2 rv => h1 H2 (gt e e2) (o.up e2) _ fun H3 e3 => h2 H3 (gt (gt e e2) e3) ((o.up e2).up e3) _ fun H4 e4 => by
    obtain ⟨a, xs, rfl, k1, k2⟩ := (hup (hup rv e3) e4).lst_inv
    exact ⟨a, xs, rfl, Or.inl (Or.inl (Hx.ex _ _ k1)), fun p hp => q p _ _ (fresh_back ((e2.trans e3).trans e4) hp) (((e2.trans e3).trans e4).trans (Evl.Ex.new hp)) upd_same ((cut_of k2).up (Hx.own hp))⟩
/-! built-in calls -/
theorem ev_cb {r : List V → Hp → VK → Prop} {ta : TA} {ds : List D} (h : EvA K ta σ G S ds) (hr : RC K r ds z) : Ev K (tCB r ta) σ G S z := fun H1 e o Q q =>
  h H1 e o _ fun vs H2 e2 rs => hr S H2 (o.up e2) vs rs Q fun w H3 e3 rw => q w H3 (e2.trans e3) rw
theorem ef_cb {r : List V → Hp → VK → Prop} {ta : TA} {ds zs : List D} (h : EvA K ta σ G S ds) (hr : RCF K r ds zs) : EvF K (tCB r ta) σ G S zs := fun H1 e o Q q =>
  h H1 e o _ fun vs H2 e2 rs => hr S H2 (o.up e2) vs rs Q fun p xs H3 hp e3 h3 rw => q p xs H3 (fresh_back e2 hp) (e2.trans e3) h3 rw
theorem RpA.one_inv {us : List V} (h : RpA K H us [x]) : ∃ u, us = [u] ∧ Rp K H u x := by
  cases h with
  | cons h1 h2 => cases h2; exact ⟨_, rfl, h1⟩
theorem RpA.two_inv {us : List V} (h : RpA K H us [x, y]) : ∃ u v, us = [u, v] ∧ Rp K H u x ∧ Rp K H v y := by
  cases h with
  | cons h1 h2 => obtain ⟨v, rfl, h3⟩ := RpA.one_inv h2; exact ⟨_, _, rfl, h1, h3⟩
theorem rc_abs : RC K (fun xs H Q => ∃ i, xs = [.int i] ∧ Q (.int (if i < 0 then -i else i)) H) [.int i] (.int (i.natAbs : Int)) := fun S H o us rs Q q => by
  obtain ⟨u, rfl, ru⟩ := rs.one_inv
  rw [ru.int_inv]
  refine ⟨i, rfl, ?_⟩
  have e : (if i < 0 then -i else i) = (i.natAbs : Int) := by split <;> omega
  rw [e]
  exact q _ H (Ex.refl H) (.int _)
theorem rc_max : RC K (fun xs H Q => ∃ i j, xs = [.int i, .int j] ∧ Q (.int (if j > i then j else i)) H) [.int i, .int j] (.int (max i j)) := fun S H o us rs Q q => by
  obtain ⟨u, v, rfl, ru, rv⟩ := rs.two_inv
  rw [ru.int_inv, rv.int_inv]
  refine ⟨i, j, rfl, ?_⟩
  have e : (if j > i then j else i) = max i j := by split <;> omega
  rw [e]
  exact q _ H (Ex.refl H) (.int _)
theorem rc_min : RC K (fun xs H Q => ∃ i j, xs = [.int i, .int j] ∧ Q (.int (if j < i then j else i)) H) [.int i, .int j] (.int (min i j)) := fun S H o us rs Q q => by
  obtain ⟨u, v, rfl, ru, rv⟩ := rs.two_inv
  rw [ru.int_inv, rv.int_inv]
  refine ⟨i, j, rfl, ?_⟩
  have e : (if j < i then j else i) = min i j := by split <;> omega
  rw [e]
  exact q _ H (Ex.refl H) (.int _)
theorem rc_lenL {ds : List D} : RC K (fun xs H Q => ∃ p ys, xs = [.ref p] ∧ (SqL K H p ys ∨ SqT K H p ys) ∧ Q (.int ys.length) H) [.lst ds] (.int ds.length) := fun S H o us rs Q q => by
  obtain ⟨u, rfl, ru⟩ := rs.one_inv
  obtain ⟨a, xs, rfl, h1, h2⟩ := ru.lst_inv
  refine ⟨a, xs, rfl, Or.inl (Or.inl (Or.inl (Hx.ex _ _ h1))), ?_⟩
  rw [h2.len]
  exact q _ H (Ex.refl H) (.int _)
theorem rc_lenR {ds : List D} : RC K (fun xs H Q => ∃ p ys, xs = [.ref p] ∧ (SqL K H p ys ∨ SqT K H p ys) ∧ Q (.int ys.length) H) [.rls ds] (.int ds.length) := fun S H o us rs Q q => by
  obtain ⟨u, rfl, ru⟩ := rs.one_inv
  obtain ⟨a, xs, rfl, h1, h2⟩ := ru.rls_inv
  refine ⟨a, xs, rfl, Or.inl (ex_l Hx.ex h1), ?_⟩
  rw [h2.len]
  exact q _ H (Ex.refl H) (.int _)
theorem rc_lenT {ds : List D} : RC K (fun xs H Q => ∃ p ys, xs = [.ref p] ∧ (SqL K H p ys ∨ SqT K H p ys) ∧ Q (.int ys.length) H) [.tup ds] (.int ds.length) := fun S H o us rs Q q => by
  obtain ⟨u, rfl, ru⟩ := rs.one_inv
  obtain ⟨a, xs, rfl, h1, h2⟩ := ru.tup_inv
  refine ⟨a, xs, rfl, Or.inr (ex_t Hx.ex h1), ?_⟩
  rw [h2.len]
  exact q _ H (Ex.refl H) (.int _)
theorem rcf_list {ds : List D} (hd : x = .lst ds ∨ x = .tup ds) : RCF K (fun xs H Q => ∃ p ys, xs = [.ref p] ∧ (SqL K H p ys ∨ SqT K H p ys) ∧ ∀ l, H l = none → Q (.ref l) (upd H l (.lst ys))) [x] ds := fun S H o us rs Q q => by
  obtain ⟨u, rfl, ru⟩ := rs.one_inv
  rcases hd with rfl | rfl
  · obtain ⟨a, xs, rfl, h1, h2⟩ := ru.lst_inv
    exact ⟨a, xs, rfl, Or.inl (Or.inl (Or.inl (Hx.ex _ _ h1))), fun l hl => q l xs _ hl (Evl.Ex.new hl) upd_same (h2.up (Hx.own hl))⟩
  · obtain ⟨a, xs, rfl, h1, h2⟩ := ru.tup_inv
    exact ⟨a, xs, rfl, Or.inr (ex_t Hx.ex h1), fun l hl => q l xs _ hl (Evl.Ex.new hl) upd_same (h2.up (Hx.own hl))⟩
theorem rc_tuple {ds : List D} (hd : x = .lst ds ∨ x = .tup ds) : RC K (fun xs H Q => ∃ p ys, xs = [.ref p] ∧ ((SqL K H p ys ∧ ∀ l, H l = none → Q (.ref l) (upd H l (.tup ys))) ∨ (SqT K H p ys ∧ Q (.ref p) H))) [x] (.tup ds) := fun S H o us rs Q q => by
  obtain ⟨u, rfl, ru⟩ := rs.one_inv
  rcases hd with rfl | rfl
  · obtain ⟨a, xs, rfl, h1, h2⟩ := ru.lst_inv
    exact ⟨a, xs, rfl, Or.inl ⟨Or.inl (Or.inl (Hx.ex _ _ h1)), fun l hl => q _ _ (Evl.Ex.new hl) (.tup (Or.inl (Or.inl (Hx.at o hl))) (h2.up (Hx.new o hl)))⟩⟩
  · obtain ⟨a, xs, e, h1, h2⟩ := ru.tup_inv
    subst e
    exact ⟨a, xs, rfl, Or.inr ⟨ex_t Hx.ex h1, q _ H (Ex.refl H) ru⟩⟩
theorem rc_int1B : RC K (fun xs H Q => (∃ i, xs = [.int i] ∧ Q (.int i) H) ∨ ∃ k, xs = [.bl k] ∧ Q (.int (if k then 1 else 0)) H) [.bl b] (.int (if b then 1 else 0)) := fun S H o us rs Q q => by
  obtain ⟨u, rfl, ru⟩ := rs.one_inv
  rw [ru.bl_inv]
  exact Or.inr ⟨b, rfl, q _ H (Ex.refl H) (.int _)⟩
/-! lists joined -/
theorem ef_cat {xs ys : List D} (ha : Ev K ta σ G S (.lst xs)) (hb : Ev K tb σ G S (.lst ys)) (hl : xs.length + ys.length ≤ 100000) : EvF K (tOp rCat ta tb) σ G S (xs ++ ys) := fun H1 e o Q q =>
  ha H1 e o _ fun u H2 e2 ru => hb H2 (gt e e2) (o.up e2) _ fun v H3 e3 rv => by
    obtain ⟨a, us, rfl, h1, h2⟩ := (hup ru e3).lst_inv
    obtain ⟨c, vs, rfl, h3, h4⟩ := rv.lst_inv
    exact ⟨a, c, us, vs, rfl, rfl, Hx.ex _ _ h1, Hx.ex _ _ h3, sz_of (by rw [h2.len, h4.len]; exact hl), fun p hp => q p _ _ (fresh_back (e2.trans e3) hp) ((e2.trans e3).trans (Evl.Ex.new hp)) upd_same ((h2.append h4).up (Hx.own hp))⟩
/-! fields -/
theorem ev_fld {C : Addr} {gs : List (Str × D)} {f : Str} (ha : Ev K ta σ G S (.obj C gs)) (hc : Cls K C) (hn : NoAttr K C f) (hl : gs.lookup f = some d) : Ev K (tFld K ta f) σ G S d := fun H1 e o Q q =>
  ha H1 e o _ fun u H2 e2 ru => by
    obtain ⟨a, dx, fs, rfl, h1, h2⟩ := ru.obj_inv
    obtain ⟨w, hw, rw⟩ := h2.look hl
    exact ⟨a, C, dx, fs, w, rfl, Hx.ex _ _ h1, hc, hn, hw, q w H2 e2 rw⟩
end
end Z


set_option Elab.async false
set_option linter.all false
set_option maxRecDepth 100000
set_option maxHeartbeats 2000000
namespace Z
open PySem L2
open Evl (Ex ex_l ex_t sz_of sz_lt fresh_back)

/-! ### slots -/
inductive Sl where
  | no
  | d (x : D)
  | at (a : Addr)
  /-- the object at a, and the tree that it stands for -/
  | ad (a : Addr) (x : D)
def SlR (K : PySem.W.Frag) (G : Hp) : Option V → Sl → Prop
  | _, .no => True
  | o, .d x => ∃ v, o = some v ∧ Rp K G v x
  | o, .at a => o = some (.ref a)
  | o, .ad a x => o = some (.ref a) ∧ Rp K G (.ref a) x
theorem SlR.up {K : PySem.W.Frag} {G G' : Hp} (e : Ex G G') : ∀ {o : Option V} {s : Sl}, SlR K G o s → SlR K G' o s
  | _, .no, _ => trivial
  | _, .d _, ⟨v, h, r⟩ => ⟨v, h, r.up e⟩
  | _, .at _, h => h
  | _, .ad _ _, ⟨h, r⟩ => ⟨h, r.up e⟩
abbrev Sls (K : PySem.W.Frag) (G : Hp) : L2.St → List Sl → Prop := Paired (SlR K G)
theorem Sls.up {K : PySem.W.Frag} {G G' : Hp} (e : Ex G G') : ∀ {σ : L2.St} {Γ : List Sl}, Sls K G σ Γ → Sls K G' σ Γ
  | _, _, .nil => .nil
  | _, _, .cons h t => .cons (SlR.up e h) (Sls.up e t)
theorem Sls.get {K : PySem.W.Frag} {G : Hp} : ∀ {σ : L2.St} {Γ : List Sl} {i : Nat} {s : Sl}, Sls K G σ Γ → Γ[i]? = some s → ∃ o, σ[i]? = some o ∧ SlR K G o s
  | _, _, _, _, .nil, e => by simp at e
  | _, _, 0, _, .cons r _, e => by simp at e; subst e; exact ⟨_, rfl, r⟩
  | _, _, i + 1, s, .cons _ t, e => by
    obtain ⟨v, h1, h2⟩ := Sls.get (i := i) (s := s) t (by simpa using e)
    exact ⟨v, by simpa using h1, h2⟩
theorem Sls.set {K : PySem.W.Frag} {G : Hp} {o : Option V} {s : Sl} (r : SlR K G o s) : ∀ {σ : L2.St} {Γ : List Sl} (i : Nat), Sls K G σ Γ → Sls K G (σ.set i o) (Γ.set i s)
  | _, _, _, .nil => .nil
  | _, _, 0, .cons _ t => .cons r t
  | _, _, i + 1, .cons q t => .cons q (Sls.set r i t)
def wipeΓ (Γ : List Sl) : List Nat → List Sl
  | [] => Γ
  | v :: vs => (wipeΓ Γ vs).set v .no
theorem Sls.wipe {K : PySem.W.Frag} {G : Hp} {σ : L2.St} {Γ : List Sl} (h : Sls K G σ Γ) : ∀ vs : List Nat, Sls K G (L2.wipe σ vs) (wipeΓ Γ vs)
  | [] => h
  | v :: vs => Sls.set (o := none) (s := .no) trivial v (Sls.wipe h vs)
/-- Γ' tells less than Γ -/
def fits : List Sl → List Sl → Prop
  | [], [] => True
  | s :: Γ, s' :: Γ' => (s' = s ∨ s' = .no) ∧ fits Γ Γ'
  | _, _ => False
theorem Sls.weak {K : PySem.W.Frag} {G : Hp} : ∀ {σ : L2.St} {Γ Γ' : List Sl}, Sls K G σ Γ → fits Γ Γ' → Sls K G σ Γ'
  | _, [], [], .nil, _ => .nil
  | _, s :: Γ, s' :: Γ', .cons r t, ⟨h, k⟩ => .cons (by
      rcases h with h | h
      · rw [h]; exact r
      · rw [h]; trivial) (Sls.weak t k)
  | _, [], _ :: _, .nil, h => h.elim
  | _, _ :: _, [], .cons _ _, h => h.elim
theorem fits.rfl' : ∀ Γ : List Sl, fits Γ Γ
  | [] => trivial
  | _ :: Γ => ⟨.inl rfl, fits.rfl' Γ⟩
section
variable {K : PySem.W.Frag} {σ : L2.St} {G : Hp} {S : List Addr} {d : D}
theorem ev_sl {Γ : List Sl} {n : Nat} (h : Sls K G σ Γ) (hn : Γ[n]? = some (.d d)) : Ev K (tVar n) σ G S d := by
  obtain ⟨o, h1, v, rfl, rv⟩ := h.get hn
  exact ev_var h1 rv
theorem ev_sla {Γ : List Sl} {n : Nat} {a : Addr} (h : Sls K G σ Γ) (hn : Γ[n]? = some (.ad a d)) : Ev K (tVar n) σ G S d := by
  obtain ⟨o, h1, rfl, rv⟩ := h.get hn
  exact ev_var h1 rv
theorem Sls.slotA {Γ : List Sl} {n : Nat} {a : Addr} (h : Sls K G σ Γ) (hn : Γ[n]? = some (.ad a d)) : σ[n]? = some (some (.ref a)) := by
  obtain ⟨o, h1, rfl, rv⟩ := h.get hn
  exact h1
theorem Sls.slotI {Γ : List Sl} {n : Nat} {i : Int} (h : Sls K G σ Γ) (hn : Γ[n]? = some (.d (.int i))) : σ[n]? = some (some (.int i)) := by
  obtain ⟨o, h1, v, rfl, rv⟩ := h.get hn
  rw [h1, rv.int_inv]
end

/-! ### the state of a body -/
abbrev Os := List (Addr × List D)
abbrev adr (os : Os) (S0 : List Addr) : List Addr := os.map (·.1) ++ S0
structure Sta (K : PySem.W.Frag) (B F : Hp) (S0 : List Addr) (os : Os) (Γ : List Sl) (tm : List (V × D)) (σ : L2.St) (H : Hp) : Prop where
  ext : Ex B (Hx H (adr os S0))
  frm : ∀ a ∈ S0, H a = F a
  ok0 : Ok S0 F
  nd : (os.map (·.1)).Nodup
  ns : ∀ p ∈ os, p.1 ∉ S0
  own : ∀ p ∈ os, ∃ xs, H p.1 = some (.lst xs) ∧ RpA K (Hx H (adr os S0)) xs p.2
  sl : Sls K (Hx H (adr os S0)) σ Γ
  tmp : ∀ p ∈ tm, Rp K (Hx H (adr os S0)) p.1 p.2
section
variable {K : PySem.W.Frag} {B B' F H H' : Hp} {S0 : List Addr} {os : Os} {Γ Γ' : List Sl} {tm : List (V × D)} {σ : L2.St} {v : V} {d : D} {ds : List D} {l : Addr}
theorem Sta.ok (st : Sta K B F S0 os Γ tm σ H) : Ok (adr os S0) H := fun a m z => by
  rcases List.mem_append.mp m with m | m
  · obtain ⟨p, hp, rfl⟩ := List.mem_map.mp m
    obtain ⟨xs, h, _⟩ := st.own p hp
    rw [h] at z; cases z
  · rw [st.frm a m] at z
    exact st.ok0 a m z
theorem Sta.step (st : Sta K B F S0 os Γ tm σ H) (e : Ex H H') : Sta K B F S0 os Γ tm σ H' where
  ext := st.ext.trans (Hx.mono e)
  frm := fun a m => by
    have h := st.frm a m
    have n := st.ok0 a m
    cases q : F a with
    | none => exact absurd q n
    | some o => rw [q] at h; exact e a o h
  ok0 := st.ok0
  nd := st.nd
  ns := st.ns
  own := fun p hp => by
    obtain ⟨xs, h, r⟩ := st.own p hp
    exact ⟨xs, e _ _ h, r.up (Hx.mono e)⟩
  sl := st.sl.up (Hx.mono e)
  tmp := fun p hp => (st.tmp p hp).up (Hx.mono e)
theorem Sta.base (st : Sta K B' F S0 os Γ tm σ H) (e : Ex B B') : Sta K B F S0 os Γ tm σ H := ⟨e.trans st.ext, st.frm, st.ok0, st.nd, st.ns, st.own, st.sl, st.tmp⟩
theorem Sta.weak (st : Sta K B F S0 os Γ tm σ H) (f : fits Γ Γ') : Sta K B F S0 os Γ' tm σ H := ⟨st.ext, st.frm, st.ok0, st.nd, st.ns, st.own, st.sl.weak f, st.tmp⟩
theorem Sta.add (st : Sta K B F S0 os Γ tm σ H) (r : Rp K (Hx H (adr os S0)) v d) : Sta K B F S0 os Γ ((v, d) :: tm) σ H := ⟨st.ext, st.frm, st.ok0, st.nd, st.ns, st.own, st.sl, fun p hp => by
  rcases List.mem_cons.mp hp with rfl | hp
  · exact r
  · exact st.tmp p hp⟩
theorem Sta.clr (st : Sta K B F S0 os Γ tm σ H) : Sta K B F S0 os Γ [] σ H := ⟨st.ext, st.frm, st.ok0, st.nd, st.ns, st.own, st.sl, fun p hp => by simp at hp⟩
theorem Sta.top (st : Sta K B F S0 os Γ ((v, d) :: tm) σ H) : Rp K (Hx H (adr os S0)) v d := st.tmp (v, d) List.mem_cons_self
theorem Sta.tl (st : Sta K B F S0 os Γ ((v, d) :: tm) σ H) : Sta K B F S0 os Γ tm σ H := ⟨st.ext, st.frm, st.ok0, st.nd, st.ns, st.own, st.sl, fun p hp => st.tmp p (List.mem_cons_of_mem _ hp)⟩
theorem Sta.set (i : Nat) (st : Sta K B F S0 os Γ tm σ H) (r : Rp K (Hx H (adr os S0)) v d) : Sta K B F S0 os (Γ.set i (.d d)) [] (σ.set i (some v)) H :=
  ⟨st.ext, st.frm, st.ok0, st.nd, st.ns, st.own, st.sl.set (s := .d d) (show SlR K _ (some v) (.d d) from ⟨v, rfl, r⟩) i, fun p hp => by simp at hp⟩
theorem Sta.setT (i : Nat) (st : Sta K B F S0 os Γ ((v, d) :: tm) σ H) : Sta K B F S0 os (Γ.set i (.d d)) [] (σ.set i (some v)) H := st.tl.set i st.top
theorem Sta.setAt (i : Nat) (st : Sta K B F S0 os Γ tm σ H) : Sta K B F S0 os (Γ.set i (.at l)) [] (σ.set i (some (.ref l))) H :=
  ⟨st.ext, st.frm, st.ok0, st.nd, st.ns, st.own, st.sl.set (s := .at l) rfl i, fun p hp => by simp at hp⟩
/-- a new list is owned -/
theorem Sta.gain {xs : List V} (st : Sta K B F S0 os Γ tm σ H) (e : Ex H H') (hp : H l = none) (h2 : H' l = some (.lst xs)) (r : RpA K (Hx H' (l :: adr os S0)) xs ds) : Sta K B F S0 ((l, ds) :: os) Γ tm σ H' := by
  have hn : l ∉ adr os S0 := st.ok.no hp
  have g : Ex (Hx H (adr os S0)) (Hx H' (l :: adr os S0)) := fun a u q => by
    obtain ⟨q1, q2⟩ := Hx.inv q
    refine Hx.of (e _ _ q1) ?_
    simp only [List.mem_cons, not_or]
    exact ⟨ne_of_none q1 hp, q2⟩
  have st' := st.step e
  refine ⟨st.ext.trans g, st'.frm, st.ok0, ?_, ?_, ?_, st.sl.up g, fun p hp => (st.tmp p hp).up g⟩
  · rw [List.map_cons, List.nodup_cons]
    exact ⟨fun m => hn (List.mem_append_left _ m), st.nd⟩
  · intro p hp'
    rcases List.mem_cons.mp hp' with rfl | hp'
    · exact fun m => hn (List.mem_append_right _ m)
    · exact st.ns p hp'
  · intro p hp'
    rcases List.mem_cons.mp hp' with rfl | hp'
    · exact ⟨xs, h2, r⟩
    · obtain ⟨ys, k1, k2⟩ := st.own p hp'
      exact ⟨ys, e _ _ k1, k2.up g⟩
/-- an owned list changes -/
theorem Sta.chg {k : Nat} {es : List D} {xs : List V} (st : Sta K B F S0 os Γ tm σ H) (hk : os[k]? = some (l, ds)) (r : RpA K (Hx H (adr os S0)) xs es) : Sta K B F S0 (os.set k (l, es)) Γ tm σ (upd H l (.lst xs)) := by
  have ha : (os.set k (l, es)).map (·.1) = os.map (·.1) := by
    rw [List.map_set]
    apply List.ext_getElem?
    intro i
    by_cases hi : k = i
    · subst hi
      have hlt := (List.getElem?_eq_some_iff.mp hk).1
      rw [List.getElem?_set_self (by rw [List.length_map]; exact hlt), List.getElem?_map, hk]
      rfl
    · rw [List.getElem?_set_ne hi]
  have hS : adr (os.set k (l, es)) S0 = adr os S0 := by unfold adr; rw [ha]
  have hm : l ∈ adr os S0 := List.mem_append_left _ (List.mem_map.mpr ⟨_, List.mem_of_getElem? hk, rfl⟩)
  have g : Ex (Hx H (adr os S0)) (Hx (upd H l (.lst xs)) (adr os S0)) := Hx.chg hm
  have hns := st.ns _ (List.mem_of_getElem? hk)
  have hi := List.getElem?_eq_some_iff.mp hk
  refine ⟨?_, fun a m => ?_, st.ok0, by rw [ha]; exact st.nd, ?_, ?_, ?_, ?_⟩
  · rw [hS]; exact st.ext.trans g
  · rw [upd_ne (fun e => hns (by rw [← e]; exact m))]; exact st.frm a m
  · intro p hp
    rcases List.mem_or_eq_of_mem_set hp with hp | rfl
    · exact st.ns p hp
    · exact hns
  · intro p hp
    rw [hS]
    obtain ⟨i, hi'⟩ := List.getElem?_of_mem hp
    by_cases e : k = i
    · subst e
      rw [List.getElem?_set_self hi.1] at hi'
      cases hi'
      exact ⟨xs, upd_same, r.up g⟩
    · rw [List.getElem?_set_ne e] at hi'
      obtain ⟨ys, k1, k2⟩ := st.own p (List.mem_of_getElem? hi')
      have n : p.1 ≠ l := fun q => e (by
        have h1 : (os.map (·.1))[i]? = some l := by rw [List.getElem?_map, hi', ← q]; rfl
        have h2 : (os.map (·.1))[k]? = some l := by rw [List.getElem?_map, hk]; rfl
        exact (nd_ix st.nd h2 h1))
      exact ⟨ys, by rw [upd_ne n]; exact k1, k2.up g⟩
  · rw [hS]; exact st.sl.up g
  · rw [hS]; exact fun p hp => (st.tmp p hp).up g
/-- an owned list at a place of os -/
theorem Sta.at_ {k : Nat} (st : Sta K B F S0 os Γ tm σ H) (hk : os[k]? = some (l, ds)) : ∃ xs, H l = some (.lst xs) ∧ RpA K (Hx H (adr os S0)) xs ds := st.own _ (List.mem_of_getElem? hk)
theorem Sta.slot {n : Nat} (st : Sta K B F S0 os Γ tm σ H) (hn : Γ[n]? = some (.at l)) : σ[n]? = some (some (.ref l)) := by
  obtain ⟨o, h1, h2⟩ := st.sl.get hn
  rw [h1, show o = some (.ref l) from h2]
/-- the first owned list is let go: it is of the ground from now on -/
theorem Sta.free (st : Sta K B F S0 ((l, ds) :: os) Γ tm σ H) (f : fits Γ Γ') (tm' : ∀ p ∈ tm, p ∈ tm) : Sta K B F S0 os Γ' ((.ref l, .lst ds) :: tm) σ H := by
  have sub : ∀ a ∈ adr os S0, a ∈ adr ((l, ds) :: os) S0 := fun a m => List.mem_cons_of_mem _ m
  have g : Ex (Hx H (adr ((l, ds) :: os) S0)) (Hx H (adr os S0)) := Hx.sub sub
  have hl : l ∉ adr os S0 := fun m => by
    rcases List.mem_append.mp m with m | m
    · have := st.nd; rw [List.map_cons, List.nodup_cons] at this; exact this.1 m
    · exact st.ns (l, ds) List.mem_cons_self m
  obtain ⟨xs, h1, h2⟩ := st.own (l, ds) List.mem_cons_self
  refine ⟨st.ext.trans g, st.frm, st.ok0, ?_, fun p hp => st.ns p (List.mem_cons_of_mem _ hp), ?_, (st.sl.up g).weak f, ?_⟩
  · have := st.nd; rw [List.map_cons, List.nodup_cons] at this; exact this.2
  · intro p hp
    obtain ⟨ys, k1, k2⟩ := st.own p (List.mem_cons_of_mem _ hp)
    exact ⟨ys, k1, k2.up g⟩
  · intro p hp
    rcases List.mem_cons.mp hp with rfl | hp
    · exact .lst (Hx.of h1 hl) (h2.up g)
    · exact (st.tmp p hp).up g
/-- behind it all: what stood at the entry stands -/
theorem Sta.exF (st : Sta K (Hx F S0) F S0 os Γ tm σ H) : Ex F H := fun a o h => by
  by_cases m : a ∈ S0
  · rw [st.frm a m]; exact h
  · exact Hx.ex _ _ (st.ext a o (Hx.of h m))
theorem Sta.gnd (st : Sta K B F S0 os Γ tm σ H) : Ex (Hx H (adr os S0)) (Hx H S0) := Hx.sub fun a m => List.mem_append_right _ m
/-- at the entry -/
theorem sls_start {G : Hp} : ∀ {N : List Str} {vs : List V} {ds : List D}, RpA K G vs ds → Sls K G (L2.start N vs) (ds.map Sl.d ++ List.replicate (N.length - ds.length) Sl.no) := by
  intro N vs ds h
  unfold L2.start
  rw [h.len]
  have h2 : ∀ n : Nat, Sls K G (List.replicate n none) (List.replicate n Sl.no) := fun n => by
    induction n with
    | zero => exact .nil
    | succ n ih => exact .cons trivial ih
  have h3 : ∀ {vs : List V} {ds : List D}, RpA K G vs ds → ∀ {σ : L2.St} {Γ : List Sl}, Sls K G σ Γ → Sls K G (vs.map some ++ σ) (ds.map Sl.d ++ Γ) := by
    intro vs ds
    induction vs generalizing ds with
    | nil => intro h σ Γ s; cases h; exact s
    | cons v vs ih =>
      intro h σ Γ s
      cases h with
      | cons a b => exact .cons ⟨v, rfl, a⟩ (ih b s)
  exact h3 h (h2 _)
theorem Sta.initG {N : List Str} {vs : List V} (ok : Ok S0 H) (r : Sls K (Hx H S0) (L2.start N vs) Γ) : Sta K (Hx H S0) H S0 [] Γ [] (L2.start N vs) H :=
  ⟨Ex.refl _, fun _ _ => rfl, ok, List.nodup_nil, fun p hp => by simp at hp, fun p hp => by simp at hp, r, fun p hp => by simp at hp⟩
theorem Sta.init {N : List Str} {vs : List V} (ok : Ok S0 H) (r : RpA K (Hx H S0) vs ds) (hΓ : ds.map Sl.d ++ List.replicate (N.length - ds.length) Sl.no = Γ) : Sta K (Hx H S0) H S0 [] Γ [] (L2.start N vs) H :=
  ⟨Ex.refl _, fun _ _ => rfl, ok, List.nodup_nil, fun p hp => by simp at hp, fun p hp => by simp at hp, hΓ ▸ sls_start r, fun p hp => by simp at hp⟩
end

/-! ### statements -/
section
variable {K : PySem.W.Frag} {B F H : Hp} {S0 : List Addr} {os : Os} {Γ : List Sl} {tm : List (V × D)} {σ : L2.St} {v : V} {d x y : D} {ds : List D} {l : Addr} {E : Ends} {te ta tb : TE} {t : TT} {tu tw tz : TS} {b : Bool}
theorem w_pure {Q : VK} (st : Sta K B F S0 os Γ tm σ H) (h : Ev K te σ (Hx H (adr os S0)) (adr os S0) d) (k : ∀ v H', Sta K B F S0 os Γ ((v, d) :: tm) σ H' → Q v H') : te σ H Q :=
  h H (Ex.refl _) st.ok Q fun v H2 e rv => k v H2 ((st.step e).add rv)
theorem w_int {Q : VK} {i : Int} (st : Sta K B F S0 os Γ tm σ H) (h : Ev K te σ (Hx H (adr os S0)) (adr os S0) (.int i)) (k : ∀ H', Sta K B F S0 os Γ tm σ H' → Q (.int i) H') : te σ H Q :=
  h H (Ex.refl _) st.ok Q fun v H2 e rv => by rw [rv.int_inv]; exact k H2 (st.step e)
theorem s_asg {i : Nat} (st : Sta K B F S0 os Γ tm σ H) (h : Ev K te σ (Hx H (adr os S0)) (adr os S0) d) (k : ∀ σ' H', Sta K B F S0 os (Γ.set i (.d d)) [] σ' H' → E.nx σ' H') : tAsg te (gName i) E σ H :=
  w_pure st h fun v H' st' => k _ H' (st'.setT i)
theorem q_asg {i : Nat} (st : Sta K B F S0 os Γ tm σ H) (h : Ev K te σ (Hx H (adr os S0)) (adr os S0) d) (k : ∀ σ' H', Sta K B F S0 os (Γ.set i (.d d)) [] σ' H' → tz E σ' H') : tSeq (tAsg te (gName i)) tz E σ H := s_asg (E := { E with nx := tz E }) st h k
/-- a new list is stored and owned -/
theorem s_asgF {i : Nat} (st : Sta K B F S0 os Γ tm σ H) (h : EvF K te σ (Hx H (adr os S0)) (adr os S0) ds) (k : ∀ l σ' H', Sta K B F S0 ((l, ds) :: os) (Γ.set i (.at l)) [] σ' H' → E.nx σ' H') : tAsg te (gName i) E σ H :=
  h H (Ex.refl _) st.ok _ fun p xs H2 hp e h2 ra => k p _ H2 ((st.gain e hp h2 ra).setAt i)
theorem q_asgF {i : Nat} (st : Sta K B F S0 os Γ tm σ H) (h : EvF K te σ (Hx H (adr os S0)) (adr os S0) ds) (k : ∀ l σ' H', Sta K B F S0 ((l, ds) :: os) (Γ.set i (.at l)) [] σ' H' → tz E σ' H') : tSeq (tAsg te (gName i)) tz E σ H := s_asgF (E := { E with nx := tz E }) st h k
/-- a, b = [..], e -/
theorem s_parF {i j : Nat} (st : Sta K B F S0 os Γ tm σ H) (h : EvF K ta σ (Hx H (adr os S0)) (adr os S0) ds) (he : ∀ p, Ev K tb σ (Hx H (adr os S0)) (p :: adr os S0) d)
    (k : ∀ l σ' H', Sta K B F S0 ((l, ds) :: os) ((Γ.set i (.at l)).set j (.d d)) [] σ' H' → E.nx σ' H') : tPar i j (tCons ta (tCons tb tNil)) E σ H :=
  h H (Ex.refl _) st.ok _ fun p xs H2 hp e h2 ra => by
    have st2 := st.gain e hp h2 ra
    have g : Ex (Hx H (adr os S0)) (Hx H2 (p :: adr os S0)) := fun a u q => by
      obtain ⟨q1, q2⟩ := Hx.inv q
      refine Hx.of (e _ _ q1) ?_
      simp only [List.mem_cons, not_or]
      exact ⟨ne_of_none q1 hp, q2⟩
    refine he p H2 g st2.ok _ fun w H3 e3 rw => ?_
    refine ⟨.ref p, w, rfl, k p _ H3 ?_⟩
    exact Sta.set j ((st2.step e3).setAt i) rw
theorem q_parF {i j : Nat} (st : Sta K B F S0 os Γ tm σ H) (h : EvF K ta σ (Hx H (adr os S0)) (adr os S0) ds) (he : ∀ p, Ev K tb σ (Hx H (adr os S0)) (p :: adr os S0) d)
    (k : ∀ l σ' H', Sta K B F S0 ((l, ds) :: os) ((Γ.set i (.at l)).set j (.d d)) [] σ' H' → tz E σ' H') : tSeq (tPar i j (tCons ta (tCons tb tNil))) tz E σ H := s_parF (E := { E with nx := tz E }) st h he k
theorem s_par {i j : Nat} (st : Sta K B F S0 os Γ tm σ H) (h : Ev K ta σ (Hx H (adr os S0)) (adr os S0) x) (he : Ev K tb σ (Hx H (adr os S0)) (adr os S0) y)
    (k : ∀ σ' H', Sta K B F S0 os ((Γ.set i (.d x)).set j (.d y)) [] σ' H' → E.nx σ' H') : tPar i j (tCons ta (tCons tb tNil)) E σ H :=
  h H (Ex.refl _) st.ok _ fun v H2 e rv => he H2 (Hx.mono e) (st.ok.up e) _ fun w H3 e3 rw => ⟨v, w, rfl, k _ H3 (Sta.set j (((st.step e).step e3).set i (hup rv e3)) rw)⟩
theorem q_par {i j : Nat} (st : Sta K B F S0 os Γ tm σ H) (h : Ev K ta σ (Hx H (adr os S0)) (adr os S0) x) (he : Ev K tb σ (Hx H (adr os S0)) (adr os S0) y)
    (k : ∀ σ' H', Sta K B F S0 os ((Γ.set i (.d x)).set j (.d y)) [] σ' H' → tz E σ' H') : tSeq (tPar i j (tCons ta (tCons tb tNil))) tz E σ H := s_par (E := { E with nx := tz E }) st h he k
/-- xs.append(e), xs an owned list in slot n, at place k of os -/
theorem s_app {n k : Nat} (st : Sta K B F S0 os Γ tm σ H) (hn : Γ[n]? = some (.at l)) (hk : os[k]? = some (l, ds)) (h : Ev K te σ (Hx H (adr os S0)) (adr os S0) d) (hz : ds.length < 100000)
    (kk : ∀ H', Sta K B F S0 (os.set k (l, ds ++ [d])) Γ [] σ H' → E.nx σ H') : tDrop (tBM K "list" rAppend (tVar n) (tCons te tNil)) E σ H := by
  obtain ⟨xs, h1, h2⟩ := st.at_ hk
  refine ⟨_, st.slot hn, Or.inl ⟨rfl, xs, Or.inl (Or.inl h1)⟩, ?_⟩
  refine h H (Ex.refl _) st.ok _ fun v H2 e rv => ?_
  have st2 := (st.step e).clr
  have r2 := h2.up (Hx.mono e)
  refine ⟨l, xs, v, rfl, rfl, e _ _ h1, sz_lt (by rw [h2.len]; exact hz), kk _ ?_⟩
  exact st2.chg hk (r2.append (.cons rv .nil))
theorem q_app {n k : Nat} (st : Sta K B F S0 os Γ tm σ H) (hn : Γ[n]? = some (.at l)) (hk : os[k]? = some (l, ds)) (h : Ev K te σ (Hx H (adr os S0)) (adr os S0) d) (hz : ds.length < 100000)
    (kk : ∀ H', Sta K B F S0 (os.set k (l, ds ++ [d])) Γ [] σ H' → tz E σ H') : tSeq (tDrop (tBM K "list" rAppend (tVar n) (tCons te tNil))) tz E σ H := s_app (E := { E with nx := tz E }) st hn hk h hz kk
theorem s_if (st : Sta K B F S0 os Γ tm σ H) (h : EvT t σ (Hx H (adr os S0)) (adr os S0) b) (h1 : b = true → ∀ H', Sta K B F S0 os Γ tm σ H' → tu E σ H') (h2 : b = false → ∀ H', Sta K B F S0 os Γ tm σ H' → tw E σ H') : tIfS t tu tw E σ H :=
  h H (Ex.refl _) st.ok _ fun H2 e => by
    cases b with
    | true => exact h1 rfl H2 (st.step e)
    | false => exact h2 rfl H2 (st.step e)
theorem q_if (st : Sta K B F S0 os Γ tm σ H) (h : EvT t σ (Hx H (adr os S0)) (adr os S0) b) (h1 : b = true → ∀ H', Sta K B F S0 os Γ tm σ H' → tu { E with nx := tz E } σ H') (h2 : b = false → ∀ H', Sta K B F S0 os Γ tm σ H' → tw { E with nx := tz E } σ H') : tSeq (tIfS t tu tw) tz E σ H := s_if (E := { E with nx := tz E }) st h h1 h2
theorem s_ret (st : Sta K B F S0 os Γ tm σ H) (h : Ev K te σ (Hx H (adr os S0)) (adr os S0) d) (k : ∀ v H', Sta K B F S0 os Γ ((v, d) :: tm) σ H' → E.rt v H') : tRet te E σ H := w_pure st h k
/-- return an owned list -/
theorem s_retAt {n : Nat} (st : Sta K B F S0 os Γ tm σ H) (hn : Γ[n]? = some (.at l)) (k : E.rt (.ref l) H) : tRet (tVar n) E σ H := ⟨_, st.slot hn, k⟩
theorem s_drop (st : Sta K B F S0 os Γ tm σ H) (h : Ev K te σ (Hx H (adr os S0)) (adr os S0) d) (k : ∀ H', Sta K B F S0 os Γ tm σ H' → E.nx σ H') : tDrop te E σ H := w_pure st h fun v H' st' => k H' st'.tl
theorem q_drop (st : Sta K B F S0 os Γ tm σ H) (h : Ev K te σ (Hx H (adr os S0)) (adr os S0) d) (k : ∀ H', Sta K B F S0 os Γ tm σ H' → tz E σ H') : tSeq (tDrop te) tz E σ H := s_drop (E := { E with nx := tz E }) st h k
/-! targets -/
theorem g_two {i j : Nat} {Q : L2.St → Hp → Prop} (st : Sta K B F S0 os Γ ((v, .tup [x, y]) :: tm) σ H) (k : ∀ σ', Sta K B F S0 os ((Γ.set i (.d x)).set j (.d y)) [] σ' H → Q σ' H) : gTup K 2 (gCons (gName i) (gCons (gName j) gNil)) v σ H Q := by
  obtain ⟨a, xs, rfl, h1, h2⟩ := st.top.tup_inv
  obtain ⟨u, w, rfl, ru, rw⟩ := h2.two_inv
  exact ⟨a, _, rfl, ex_t Hx.ex h1, rfl, u, _, rfl, w, _, rfl, rfl, k _ (Sta.set j (st.tl.set i ru) rw)⟩
theorem s_unp {i j : Nat} (st : Sta K B F S0 os Γ tm σ H) (h : Ev K te σ (Hx H (adr os S0)) (adr os S0) (.tup [x, y])) (k : ∀ σ' H', Sta K B F S0 os ((Γ.set i (.d x)).set j (.d y)) [] σ' H' → E.nx σ' H') : tAsg te (gTup K 2 (gCons (gName i) (gCons (gName j) gNil))) E σ H :=
  w_pure st h fun v H' st' => g_two st' fun σ' st2 => k σ' H' st2
theorem q_unp {i j : Nat} (st : Sta K B F S0 os Γ tm σ H) (h : Ev K te σ (Hx H (adr os S0)) (adr os S0) (.tup [x, y])) (k : ∀ σ' H', Sta K B F S0 os ((Γ.set i (.d x)).set j (.d y)) [] σ' H' → tz E σ' H') : tSeq (tAsg te (gTup K 2 (gCons (gName i) (gCons (gName j) gNil)))) tz E σ H := s_unp (E := { E with nx := tz E }) st h k
end
end Z


set_option Elab.async false
set_option linter.all false
set_option maxRecDepth 100000
set_option maxHeartbeats 2000000
namespace Z
open PySem L2
open Evl (Ex ex_l ex_t sz_of sz_lt fresh_back)

/-! ### what is walked -/
/-- J gives the trees ds, one a turn, while the ground G0 stands -/
def Src (K : PySem.W.Frag) (J : It) (G0 : Hp) (ds : List D) : Prop := ∀ (S' : List Addr) (H : Hp), Ex G0 (Hx H S') → Ok S' H →
  (∀ i d, ds[i]? = some d → J.go i H ∧ ∀ x H', J.yld i H x H' → Ex H H' ∧ Rp K (Hx H' S') x d) ∧ J.stop ds.length H
def EvI (K : PySem.W.Frag) (wi : TI) (σ : L2.St) (G : Hp) (S : List Addr) (ds : List D) : Prop :=
  ∀ H1, Ex G (Hx H1 S) → Ok S H1 → ∀ R : It → Hp → Prop, (∀ J H2, Ex H1 H2 → Src K J (Hx H2 S) ds → R J H2) → wi σ H1 R
section
variable {K : PySem.W.Frag} {σ : L2.St} {G H : Hp} {S : List Addr} {tl ta tb : TE} {ds es : List D} {i j n : Int}
theorem src_list {a : Addr} {xs : List V} {G0 : Hp} (h1 : SqL K G0 a xs) (h2 : RpA K G0 xs ds) : Src K (Itl K a) G0 ds := fun S' H e o => by
  have h1' : SqL K H a xs := ex_l (e.trans Hx.ex) h1
  refine ⟨fun i d hd => ?_, ⟨xs, h1', by rw [h2.len]; exact Nat.le_refl _⟩⟩
  obtain ⟨v, hv, rv⟩ := h2.get hd
  refine ⟨⟨xs, v, h1', hv⟩, fun x H' hy => ?_⟩
  obtain ⟨rfl, hx⟩ := hy
  have : some v = some x := hv.symm.trans (hx xs h1')
  cases this
  exact ⟨Ex.refl _, rv.up e⟩
theorem ei_list (h : Ev K tl σ G S (.lst ds)) : EvI K (iList K tl) σ G S ds := fun H1 e o R q => h H1 e o _ fun v H2 e2 rv => by
  obtain ⟨a, xs, rfl, h1, h2⟩ := rv.lst_inv
  exact ⟨a, rfl, ⟨xs, Or.inl (Or.inl (Hx.ex _ _ h1))⟩, q _ H2 e2 (src_list (Or.inl (Or.inl h1)) h2)⟩
theorem ei_rls (h : Ev K tl σ G S (.rls ds)) : EvI K (iList K tl) σ G S ds := fun H1 e o R q => h H1 e o _ fun v H2 e2 rv => by
  obtain ⟨a, xs, rfl, h1, h2⟩ := rv.rls_inv
  exact ⟨a, rfl, ⟨xs, ex_l Hx.ex h1⟩, q _ H2 e2 (src_list h1 h2)⟩
theorem ei_tup (h : Ev K tl σ G S (.tup ds)) : EvI K (iTup K tl) σ G S ds := fun H1 e o R q => h H1 e o _ fun v H2 e2 rv => by
  obtain ⟨a, xs, rfl, h1, h2⟩ := rv.tup_inv
  refine ⟨a, rfl, ⟨xs, ex_t Hx.ex h1⟩, q _ H2 e2 fun S' H e o => ?_⟩
  have h1' : SqT K H a xs := ex_t (e.trans Hx.ex) h1
  refine ⟨fun i d hd => ?_, ⟨xs, h1', by rw [h2.len]; exact Nat.le_refl _⟩⟩
  obtain ⟨v, hv, rv⟩ := h2.get hd
  refine ⟨⟨xs, v, h1', hv⟩, fun x H' hy => ?_⟩
  obtain ⟨rfl, hx⟩ := hy
  have : some v = some x := hv.symm.trans (hx xs h1')
  cases this
  exact ⟨Ex.refl _, rv.up e⟩
def rangeD (lo : Int) (n : Nat) : List D := (List.range n).map fun (k : Nat) => D.int (lo + (k : Int))
theorem rangeD_len (lo : Int) (n : Nat) : (rangeD lo n).length = n := by unfold rangeD; simp
theorem rangeD_get {lo : Int} {n k : Nat} {d : D} (h : (rangeD lo n)[k]? = some d) : k < n ∧ d = .int (lo + (k : Int)) := by
  unfold rangeD at h
  rw [List.getElem?_map] at h
  by_cases hk : k < n
  · rw [List.getElem?_range hk] at h
    exact ⟨hk, (Option.some.inj h).symm⟩
  · rw [List.getElem?_eq_none (by simpa using hk)] at h
    cases h
theorem src_range {lo : Int} {n : Nat} {G0 : Hp} : Src K (Itr lo n) G0 (rangeD lo n) := fun S' H e o => by
  refine ⟨fun i d hd => ?_, by rw [rangeD_len]; exact Nat.le_refl _⟩
  obtain ⟨hi, rfl⟩ := rangeD_get hd
  exact ⟨hi, fun x H' ⟨h1, h2⟩ => by subst h1; subst h2; exact ⟨Ex.refl _, .int _⟩⟩
theorem ei_range {ta : TA} (h : EvA K ta σ G S [.int n]) (hn : n ≤ 1000000) (h0 : -1000000 ≤ n) : EvI K (iRng1 ta) σ G S (rangeD 0 n.toNat) := fun H1 e o R q => h H1 e o _ fun vs H2 e2 rv => by
  obtain ⟨u, rfl, ru⟩ := rv.one_inv
  rw [ru.int_inv]
  exact ⟨n, rfl, by omega, by omega, q _ H2 e2 src_range⟩
theorem ei_range2 {ta : TA} (h : EvA K ta σ G S [.int i, .int j]) (hi : -(2 ^ 62) ≤ i ∧ i < 2 ^ 62) (hj : -(2 ^ 62) ≤ j ∧ j < 2 ^ 62) : EvI K (iRng2 ta) σ G S (rangeD i (j - i).toNat) := fun H1 e o R q => h H1 e o _ fun vs H2 e2 rv => by
  obtain ⟨u, v, rfl, ru, rv⟩ := rv.two_inv
  rw [ru.int_inv, rv.int_inv]
  exact ⟨i, j, rfl, ⟨hi.1, hi.2, hj.1, hj.2⟩, q _ H2 e2 src_range⟩
end

/-! ### for -/
section
variable {K : PySem.W.Frag} {B F H : Hp} {S0 : List Addr} {os : Os} {Γ : List Sl} {tm : List (V × D)} {σ : L2.St} {ds : List D} {E : Ends} {wi : TI} {g : TG} {tb tz : TS} {ε : Type}
/-- the state between two turns -/
def Lw (K : PySem.W.Frag) (B F : Hp) (S0 : List Addr) (P : Nat → ε → Prop) (of : ε → Os) (Gf : ε → List Sl) (i : Nat) (σ : L2.St) (H : Hp) : Prop := ∃ e, P i e ∧ Sta K B F S0 (of e) (Gf e) [] σ H
theorem s_for (st : Sta K B F S0 os Γ tm σ H) (h : EvI K wi σ (Hx H (adr os S0)) (adr os S0) ds) (P : Nat → ε → Prop) (of : ε → Os) (Gf : ε → List Sl)
    (e0 : ε) (h0 : P 0 e0) (ho : of e0 = os) (hg : fits Γ (Gf e0)) (ha : ∀ e, (of e).map (·.1) = os.map (·.1))
    (hs : ∀ i d e, ds[i]? = some d → P i e → ∀ (B' : Hp) v σ' H', Ex B B' → Sta K B' F S0 (of e) (Gf e) [(v, d)] σ' H' →
      g v σ' H' fun σ2 H2 => tb { E with nx := Lw K B' F S0 P of Gf (i + 1), ct := Lw K B' F S0 P of Gf (i + 1), bk := E.nx } σ2 H2)
    (hd : ∀ e, P ds.length e → ∀ σ' H', Sta K B F S0 (of e) (Gf e) [] σ' H' → E.nx σ' H') : tFor wi g tb E σ H := by
  refine h H (Ex.refl _) st.ok _ fun J H2 e2 hJ => ?_
  have hS : ∀ e, adr (of e) S0 = adr os S0 := fun e => by unfold adr; rw [ha e]
  have hB : Ex B (Hx H2 (adr os S0)) := st.ext.trans (Hx.mono e2)
  have st2 : Sta K (Hx H2 (adr os S0)) F S0 (of e0) (Gf e0) [] σ H2 := by
    have s := ((st.step e2).clr).weak hg
    rw [ho]
    exact ⟨Ex.refl _, s.frm, s.ok0, s.nd, s.ns, s.own, s.sl, s.tmp⟩
  refine ⟨fun i m σ' H' => m = ds.length - i ∧ i ≤ ds.length ∧ Lw K (Hx H2 (adr os S0)) F S0 P of Gf i σ' H', ⟨ds.length, by simp, Nat.zero_le _, e0, h0, st2⟩, ?_⟩
  rintro i m σ' H' ⟨rfl, hi, e, hP, s⟩
  have hx : Ex (Hx H2 (adr os S0)) (Hx H' (adr os S0)) := by
    have := s.ext
    rw [hS e] at this
    exact this
  have ok' : Ok (adr os S0) H' := by
    have := s.ok
    rw [hS e] at this
    exact this
  obtain ⟨h1, h2⟩ := hJ (adr os S0) H' hx ok'
  by_cases hlt : i < ds.length
  · obtain ⟨d, hd'⟩ : ∃ d, ds[i]? = some d := ⟨ds[i], List.getElem?_eq_getElem hlt⟩
    obtain ⟨hgo, hy⟩ := h1 i d hd'
    refine Or.inr ⟨hgo, Lw K (Hx H2 (adr os S0)) F S0 P of Gf (i + 1), fun σ2 H3 q => ⟨ds.length - (i + 1), by omega, rfl, hlt, q⟩, fun x H3 hyl => ?_⟩
    obtain ⟨e3, rx⟩ := hy x H3 hyl
    refine hs i d e hd' hP _ x σ' H3 hB ?_
    refine (s.step e3).add ?_
    rw [hS e]
    exact rx
  · have e' : i = ds.length := by omega
    subst e'
    exact Or.inl ⟨h2, hd e hP σ' H' (s.base hB)⟩
theorem q_for (st : Sta K B F S0 os Γ tm σ H) (h : EvI K wi σ (Hx H (adr os S0)) (adr os S0) ds) (P : Nat → ε → Prop) (of : ε → Os) (Gf : ε → List Sl)
    (e0 : ε) (h0 : P 0 e0) (ho : of e0 = os) (hg : fits Γ (Gf e0)) (ha : ∀ e, (of e).map (·.1) = os.map (·.1))
    (hs : ∀ i d e, ds[i]? = some d → P i e → ∀ (B' : Hp) v σ' H', Ex B B' → Sta K B' F S0 (of e) (Gf e) [(v, d)] σ' H' →
      g v σ' H' fun σ2 H2 => tb { E with nx := Lw K B' F S0 P of Gf (i + 1), ct := Lw K B' F S0 P of Gf (i + 1), bk := tz E } σ2 H2)
    (hd : ∀ e, P ds.length e → ∀ σ' H', Sta K B F S0 (of e) (Gf e) [] σ' H' → tz E σ' H') : tSeq (tFor wi g tb) tz E σ H := s_for (E := { E with nx := tz E }) st h P of Gf e0 h0 ho hg ha hs hd
end

/-! ### comprehensions -/
theorem wipe_set {j : Nat} {o : Option V} : ∀ {vs : List Nat} {σ : L2.St}, j ∈ vs → wipe (σ.set j o) vs = wipe σ vs
  | [], _, h => by simp at h
  | v :: vs, σ, h => by
    show (wipe (σ.set j o) vs).set v none = (wipe σ vs).set v none
    by_cases hv : j ∈ vs
    · rw [wipe_set hv]
    · have e : j = v := by
        rcases List.mem_cons.mp h with e | e
        · exact e
        · exact absurd e hv
      subst e
      have k : ∀ {us : List Nat}, j ∉ us → wipe (σ.set j o) us = (wipe σ us).set j o := by
        intro us
        induction us with
        | nil => intro _; rfl
        | cons u us ih =>
          intro hm
          show (wipe (σ.set j o) us).set u none = ((wipe σ us).set u none).set j o
          rw [ih (fun m => hm (List.mem_cons_of_mem _ m)), List.set_comm]
          intro e
          exact hm (by rw [e]; exact List.mem_cons_self)
      rw [k hv, List.set_set]
theorem wipe_wipe (σ : L2.St) : ∀ vs : List Nat, wipe (wipe σ vs) vs = wipe σ vs := by
  have k : ∀ (us vs : List Nat) (τ : L2.St), (∀ u ∈ us, u ∈ vs) → wipe (wipe τ us) vs = wipe τ vs := by
    intro us
    induction us with
    | nil => intro vs τ _; rfl
    | cons u us ih =>
      intro vs τ hm
      show wipe ((wipe τ us).set u none) vs = wipe τ vs
      rw [wipe_set (hm u List.mem_cons_self)]
      exact ih vs τ fun w hw => hm w (List.mem_cons_of_mem _ hw)
  exact fun vs => k vs vs σ fun _ h => h
/-- a target that stores a tree of the form x -/
def Tg (K : PySem.W.Frag) (g : TG) (vs : List Nat) (x : D) (up : List Sl → List Sl) : Prop := ∀ (S : List Addr) (σ : L2.St) (H : Hp) (v : V) (Q : L2.St → Hp → Prop) (Γ : List Sl), Rp K (Hx H S) v x → Sls K (Hx H S) σ Γ →
  (∀ σ2, Sls K (Hx H S) σ2 (up Γ) → wipe σ2 vs = wipe σ vs → Q σ2 H) → g v σ H Q
section
variable {K : PySem.W.Frag} {vs : List Nat} {x y z : D}
theorem tg_name {j : Nat} (h : j ∈ vs) : Tg K (gName j) vs x fun Γ => Γ.set j (.d x) := fun S σ H v Q Γ rv sl q => q _ (sl.set (s := .d x) (show SlR K _ (some v) (.d x) from ⟨v, rfl, rv⟩) j) (wipe_set h)
theorem tg_two {i j : Nat} (h1 : i ∈ vs) (h2 : j ∈ vs) : Tg K (gTup K 2 (gCons (gName i) (gCons (gName j) gNil))) vs (.tup [x, y]) fun Γ => (Γ.set i (.d x)).set j (.d y) := fun S σ H v Q Γ rv sl q => by
  obtain ⟨a, xs, rfl, k1, k2⟩ := rv.tup_inv
  obtain ⟨u, w, rfl, ru, rw⟩ := k2.two_inv
  refine ⟨a, _, rfl, ex_t Hx.ex k1, rfl, u, _, rfl, w, _, rfl, rfl, q _ ?_ ?_⟩
  · exact Sls.set (s := .d y) (show SlR K _ (some w) (.d y) from ⟨w, rfl, rw⟩) j (Sls.set (s := .d x) (show SlR K _ (some u) (.d x) from ⟨u, rfl, ru⟩) i sl)
  · rw [wipe_set h2, wipe_set h1]
end
section
variable {K : PySem.W.Frag} {σ : L2.St} {G : Hp} {S : List Addr} {Γ : List Sl} {wi : TI} {g : TG} {tt : TT} {te : TE} {vs : List Nat} {α : Type}
theorem ef_lc {ps : List α} {f : α → D} {keep : α → Bool} {val : α → D} {up : α → List Sl → List Sl} (sl : Sls K G σ Γ) (h : EvI K wi σ G S (ps.map f)) (hz : ps.length ≤ 40000) (htg : ∀ a ∈ ps, Tg K g vs (f a) (up a))
    (ht : ∀ a ∈ ps, ∀ σ' G' S', Sls K G' σ' (up a (wipeΓ Γ vs)) → EvT tt σ' G' S' (keep a))
    (he : ∀ a ∈ ps, keep a = true → ∀ σ' G' S', Sls K G' σ' (up a (wipeΓ Γ vs)) → Ev K te σ' G' S' (val a)) : EvF K (tLc wi g tt te vs) σ G S ((ps.filter keep).map val) := fun H1 e o Q q => h H1 e o _ fun J H2 e2 hJ Dl hD => by
  have okD : Dl ∉ S := (o.up e2).no hD
  refine ⟨fun i m H => m = ps.length - i ∧ i ≤ ps.length ∧ Ex H2 H ∧ ∃ acc, H Dl = some (.lst acc) ∧ RpA K (Hx H (Dl :: S)) acc (((ps.take i).filter keep).map val), ⟨ps.length, by simp, Nat.zero_le _, Evl.Ex.new hD, [], upd_same, .nil⟩, ?_⟩
  rintro i m H ⟨rfl, hi, eH, acc, hacc, hr⟩
  have g1 : Ex (Hx H2 S) (Hx H (Dl :: S)) := fun a u q => by
    obtain ⟨q1, q2⟩ := Hx.inv q
    refine Hx.of (eH _ _ q1) ?_
    simp only [List.mem_cons, not_or]
    exact ⟨ne_of_none q1 hD, q2⟩
  have ok1 : Ok (Dl :: S) H := fun a m z => by
    rcases List.mem_cons.mp m with rfl | m
    · rw [hacc] at z; cases z
    · exact ((o.up e2).up eH) a m z
  obtain ⟨k1, k2⟩ := hJ (Dl :: S) H g1 ok1
  rw [List.length_map] at k2
  by_cases hlt : i < ps.length
  · obtain ⟨a, ha⟩ : ∃ a, ps[i]? = some a := ⟨ps[i], List.getElem?_eq_getElem hlt⟩
    have ham : a ∈ ps := List.mem_of_getElem? ha
    obtain ⟨hgo, hy⟩ := k1 i (f a) (by rw [List.getElem?_map, ha]; rfl)
    have htk : ps.take (i + 1) = ps.take i ++ [a] := by
      rw [List.take_succ, ha]; rfl
    refine Or.inr ⟨hgo, fun H' => Ex H2 H' ∧ ∃ acc, H' Dl = some (.lst acc) ∧ RpA K (Hx H' (Dl :: S)) acc (((ps.take (i + 1)).filter keep).map val), fun H' q' => ⟨ps.length - (i + 1), by omega, rfl, hlt, q'⟩, fun x H' hyl => ?_⟩
    obtain ⟨e3, rx⟩ := hy x H' hyl
    have sl1 : Sls K (Hx H' (Dl :: S)) (wipe σ vs) (wipeΓ Γ vs) := (sl.wipe vs).up (((e.trans (Hx.mono e2)).trans g1).trans (Hx.mono e3))
    have ok2 : Ok (Dl :: S) H' := ok1.up e3
    refine htg a ham (Dl :: S) (wipe σ vs) H' x _ _ rx sl1 fun σ2 sl2 hw => ⟨by rw [hw, wipe_wipe], ?_⟩
    refine ht a ham σ2 _ (Dl :: S) sl2 H' (Ex.refl _) ok2 _ fun H3 e4 => ?_
    have lenA : acc.length ≤ i := by
      rw [hr.len, List.length_map]
      exact Nat.le_trans (List.length_filter_le _ _) (by rw [List.length_take]; exact Nat.min_le_left _ _)
    cases hk : keep a with
    | true =>
      show te σ2 H3 _
      refine he a ham hk σ2 _ (Dl :: S) (sl2.up (Hx.mono e4)) H3 (Ex.refl _) (ok2.up e4) _ fun w H4 e5 rw => ?_
      have eA := (e3.trans e4).trans e5
      refine ⟨acc, eA _ _ hacc, sz_lt (by omega), ?_, acc ++ [w], upd_same, ?_⟩
      · exact Evl.Ex.mut (eH.trans eA) hD
      · rw [htk, List.filter_append, List.map_append, List.filter_cons, if_pos hk]
        refine RpA.append ((hr.up (Hx.mono eA)).up (Hx.chg List.mem_cons_self)) (.cons (rw.up (Hx.chg List.mem_cons_self)) .nil)
    | false =>
      show Ex H2 H3 ∧ _
      refine ⟨(eH.trans e3).trans e4, acc, (e3.trans e4) _ _ hacc, ?_⟩
      rw [htk, List.filter_append, List.map_append, List.filter_cons, if_neg (by rw [hk]; decide)]
      show RpA K _ acc (_ ++ [])
      rw [List.append_nil]
      exact hr.up (Hx.mono (e3.trans e4))
  · have e' : i = ps.length := by omega
    subst e'
    rw [List.take_length] at hr
    exact Or.inl ⟨k2, q Dl acc H (fresh_back e2 hD) (e2.trans eH) hacc hr⟩
theorem et_yes {G : Hp} : EvT tYes σ G S true := fun H1 _ _ _ q => q H1 (Ex.refl _)
end

/-! ### promises over trees -/
def spR (K : PySem.W.Frag) (R : List D → D → Prop) : Sp := fun vs H Q _ => ∃ S ds d, Ok S H ∧ RpA K (Hx H S) vs ds ∧ R ds d ∧ ∀ v H', Ex H H' → Rp K (Hx H' S) v d → Q v H'
/-- .. that hand back a new list -/
def spF (K : PySem.W.Frag) (R : List D → List D → Prop) : Sp := fun vs H Q _ => ∃ S ds zs, Ok S H ∧ RpA K (Hx H S) vs ds ∧ R ds zs ∧ ∀ p xs H', H p = none → Ex H H' → H' p = some (.lst xs) → RpA K (Hx H' (p :: S)) xs zs → Q (.ref p) H'
section
variable {K : PySem.W.Frag} {σ : L2.St} {G : Hp} {S : List Addr} {ta : TA} {te : TE} {ds dds zs : List D} {d z : D} {R : List D → D → Prop} {RF : List D → List D → Prop} {dvs : List V} {X : XK} {C : Addr} {gs : List (Str × D)} {m : Str}
theorem ev_call (h : EvA K ta σ G S ds) (hR : R ds z) : Ev K (tCall (spR K R) [] X ta) σ G S z := fun H1 e o Q q => h H1 e o _ fun vs H2 e2 rs =>
  ⟨S, ds, z, o.up e2, by rw [List.append_nil]; exact rs, hR, fun v H' e3 rv => q v H' (e2.trans e3) rv⟩
theorem ev_callD (h : EvA K ta σ G S ds) (hd : ∀ H, RpA K H dvs dds) (hR : R (ds ++ dds) z) : Ev K (tCall (spR K R) dvs X ta) σ G S z := fun H1 e o Q q => h H1 e o _ fun vs H2 e2 rs =>
  ⟨S, ds ++ dds, z, o.up e2, rs.append (hd _), hR, fun v H' e3 rv => q v H' (e2.trans e3) rv⟩
theorem ef_call (h : EvA K ta σ G S ds) (hR : RF ds zs) : EvF K (tCall (spF K RF) [] X ta) σ G S zs := fun H1 e o Q q => h H1 e o _ fun vs H2 e2 rs =>
  ⟨S, ds, zs, o.up e2, by rw [List.append_nil]; exact rs, hR, fun p xs H' hp e3 h3 rv => q p xs H' (fresh_back e2 hp) (e2.trans e3) h3 rv⟩
theorem ev_meth (h0 : Ev K te σ G S (.obj C gs)) (hm : gs.lookup m = none) (h : EvA K ta σ G S ds) (hR : R (.obj C gs :: ds) z) : Ev K (tMeth C m (spR K R) [] X te ta) σ G S z := fun H1 e o Q q => h0 H1 e o _ fun u H2 e2 ru => by
  obtain ⟨a, dx, fs, rfl, h1, h2⟩ := ru.obj_inv
  refine ⟨a, dx, fs, rfl, Hx.ex _ _ h1, h2.lookN hm, h H2 (gt e e2) (o.up e2) _ fun vs H3 e3 rs => ?_⟩
  exact ⟨S, _, z, (o.up e2).up e3, .cons (hup ru e3) (by rw [List.append_nil]; exact rs), hR, fun v H' e4 rv => q v H' ((e2.trans e3).trans e4) rv⟩
theorem ef_meth (h0 : Ev K te σ G S (.obj C gs)) (hm : gs.lookup m = none) (h : EvA K ta σ G S ds) (hR : RF (.obj C gs :: ds) zs) : EvF K (tMeth C m (spF K RF) [] X te ta) σ G S zs := fun H1 e o Q q => h0 H1 e o _ fun u H2 e2 ru => by
  obtain ⟨a, dx, fs, rfl, h1, h2⟩ := ru.obj_inv
  refine ⟨a, dx, fs, rfl, Hx.ex _ _ h1, h2.lookN hm, h H2 (gt e e2) (o.up e2) _ fun vs H3 e3 rs => ?_⟩
  exact ⟨S, _, zs, (o.up e2).up e3, .cons (hup ru e3) (by rw [List.append_nil]; exact rs), hR, fun p xs H' hp e4 h4 rv => q p xs H' (fresh_back (e2.trans e3) hp) ((e2.trans e3).trans e4) h4 rv⟩
end
/-! the end of a def that promises spR, spF -/
section
variable {K : PySem.W.Frag} {F H : Hp} {S0 : List Addr} {os : Os} {Γ : List Sl} {tm : List (V × D)} {σ : L2.St} {v : V} {d z : D} {ds : List D} {l : Addr} {E : Ends} {te : TE}
theorem r_ret (st : Sta K (Hx F S0) F S0 os Γ tm σ H) (h : Ev K te σ (Hx H (adr os S0)) (adr os S0) d) (e : d = z) (k : ∀ v H', Ex F H' → Rp K (Hx H' S0) v z → E.rt v H') : tRet te E σ H :=
  s_ret st h fun v H' st' => k v H' st'.exF (by rw [← e]; exact st'.top.up st'.gnd)
theorem r_retAt {n : Nat} {zs : List D} (st : Sta K (Hx F S0) F S0 ((l, ds) :: os) Γ tm σ H) (hn : Γ[n]? = some (.at l)) (e : ds = zs) (k : ∀ p xs H', F p = none → Ex F H' → H' p = some (.lst xs) → RpA K (Hx H' (p :: S0)) xs zs → E.rt (.ref p) H') : tRet (tVar n) E σ H := by
  refine s_retAt st hn ?_
  obtain ⟨xs, h1, h2⟩ := st.own (l, ds) List.mem_cons_self
  have hl : F l = none := by
    cases q : F l with
    | none => rfl
    | some o =>
      have hs : l ∉ S0 := st.ns (l, ds) List.mem_cons_self
      have := (Hx.inv (st.ext l o (Hx.of q hs))).2
      exact absurd (List.mem_cons_self) this
  refine k l xs H hl st.exF h1 ?_
  rw [← e]
  refine h2.up (Hx.sub fun a m => ?_)
  rcases List.mem_cons.mp m with rfl | m
  · exact List.mem_cons_self
  · exact List.mem_append_right _ m
theorem r_retF {zs : List D} (st : Sta K (Hx F S0) F S0 os Γ tm σ H) (h : EvF K te σ (Hx H (adr os S0)) (adr os S0) ds) (e : ds = zs) (k : ∀ p xs H', F p = none → Ex F H' → H' p = some (.lst xs) → RpA K (Hx H' (p :: S0)) xs zs → E.rt (.ref p) H') : tRet te E σ H := by
  refine h H (Ex.refl _) st.ok _ fun p xs H2 hp e2 h2 ra => ?_
  have st2 := st.step e2
  refine k p xs H2 (fresh_back st.exF hp) st2.exF h2 ?_
  rw [← e]
  refine ra.up (Hx.sub fun a m => ?_)
  rcases List.mem_cons.mp m with rfl | m
  · exact List.mem_cons_self
  · exact List.mem_cons_of_mem _ (List.mem_append_right _ m)
end
end Z


set_option Elab.async false
set_option linter.all false
set_option maxRecDepth 100000
set_option maxHeartbeats 2000000
namespace Z
open PySem L2
open Evl (Ex ex_l ex_t sz_of sz_lt fresh_back)

/-! ### trees without objects, as the library's data -/
mutual
def D.py : D → PyData
  | .non => .none
  | .bl b => .bool b
  | .int i => .int i
  | .str x => .str x
  | .lst xs => .list (pyL xs)
  | .rls xs => .list (pyL xs)
  | .tup xs => .tuple (pyL xs)
  | .obj _ _ => .none
  | .adr _ => .none
def pyL : List D → List PyData
  | [] => []
  | x :: xs => x.py :: pyL xs
end
theorem pyL_map : ∀ xs : List D, pyL xs = xs.map D.py
  | [] => by simp [pyL]
  | x :: xs => by rw [pyL, pyL_map xs]; rfl
/-- no object in it, texts of plain signs, not deeper than n -/
def good : Nat → D → Prop
  | _, .non => True
  | _, .bl _ => True
  | _, .int _ => True
  | _, .str x => PyData.strOk x = true
  | _, .obj _ _ => False
  | _, .adr _ => False
  | 0, _ => False
  | n + 1, .lst xs => ∀ x ∈ xs, good n x
  | n + 1, .rls xs => ∀ x ∈ xs, good n x
  | n + 1, .tup xs => ∀ x ∈ xs, good n x
section
variable {K : PySem.W.Frag} {H : Hp}
theorem rp_dpA {n : Nat} (ih : ∀ (d : D) (v : V), good n d → Rp K H v d → Dp K H v d.py) : ∀ (ds : List D) (vs : List V), (∀ x ∈ ds, good n x) → RpA K H vs ds → DpAll K H vs (pyL ds)
  | [], _, _, h => by cases h; rw [pyL]; exact .nil
  | d :: ds, _, g, h => by
    cases h with
    | cons h1 h2 => rw [pyL]; exact .cons (ih d _ (g d List.mem_cons_self) h1) (rp_dpA ih ds _ (fun x hx => g x (List.mem_cons_of_mem _ hx)) h2)
theorem Rp.dp : ∀ (n : Nat) (d : D) (v : V), good n d → Rp K H v d → Dp K H v d.py
  | _, .non, _, _, h => by cases h; rw [D.py]; exact .non
  | _, .bl _, _, _, h => by cases h; rw [D.py]; exact .bl _
  | _, .int _, _, _, h => by cases h; rw [D.py]; exact .int _
  | _, .str _, _, _, h => by cases h; rw [D.py]; exact .str _
  | _, .obj _ _, _, g, _ => by unfold good at g; exact g.elim
  | _, .adr _, _, g, _ => by unfold good at g; exact g.elim
  | 0, .lst _, _, g, _ => by unfold good at g; exact g.elim
  | 0, .rls _, _, g, _ => by unfold good at g; exact g.elim
  | 0, .tup _, _, g, _ => by unfold good at g; exact g.elim
  | n + 1, .lst xs, v, g, h => by
    obtain ⟨a, us, rfl, h1, h2⟩ := h.lst_inv
    rw [D.py]
    exact .lst (Or.inl (Or.inl h1)) (rp_dpA (Rp.dp n) xs us (by unfold good at g; exact g) h2)
  | n + 1, .rls xs, v, g, h => by
    obtain ⟨a, us, rfl, h1, h2⟩ := h.rls_inv
    rw [D.py]
    exact .lst h1 (rp_dpA (Rp.dp n) xs us (by unfold good at g; exact g) h2)
  | n + 1, .tup xs, v, g, h => by
    obtain ⟨a, us, rfl, h1, h2⟩ := h.tup_inv
    rw [D.py]
    exact .tup h1 (rp_dpA (Rp.dp n) xs us (by unfold good at g; exact g) h2)
theorem depthAll_le {n : Nat} : ∀ xs : List PyData, (∀ x ∈ xs, x.depth ≤ n) → PyData.depthAll xs ≤ n
  | [], _ => by simp [PyData.depthAll]
  | x :: xs, h => by
    rw [PyData.depthAll]
    have h1 := h x List.mem_cons_self
    have h2 := depthAll_le xs fun y hy => h y (List.mem_cons_of_mem _ hy)
    omega
theorem canLayAll_of : ∀ xs : List PyData, (∀ x ∈ xs, x.canLay0 = true) → PyData.canLayAll0 xs = true
  | [], _ => by simp [PyData.canLayAll0]
  | x :: xs, h => by
    rw [PyData.canLayAll0, h x List.mem_cons_self, canLayAll_of xs fun y hy => h y (List.mem_cons_of_mem _ hy)]
    rfl
theorem good_py : ∀ (n : Nat) (d : D), good n d → d.py.depth ≤ n ∧ d.py.canLay0 = true
  | _, .non, _ => by rw [D.py]; exact ⟨by simp [PyData.depth], by simp [PyData.canLay0]⟩
  | _, .bl _, _ => by rw [D.py]; exact ⟨by simp [PyData.depth], by simp [PyData.canLay0]⟩
  | _, .int _, _ => by rw [D.py]; exact ⟨by simp [PyData.depth], by simp [PyData.canLay0]⟩
  | _, .str _, g => by rw [D.py]; exact ⟨by simp [PyData.depth], by unfold good at g; simp [PyData.canLay0, g]⟩
  | _, .obj _ _, g => by unfold good at g; exact g.elim
  | _, .adr _, g => by unfold good at g; exact g.elim
  | 0, .lst _, g => by unfold good at g; exact g.elim
  | 0, .rls _, g => by unfold good at g; exact g.elim
  | 0, .tup _, g => by unfold good at g; exact g.elim
  | n + 1, .lst xs, g => by
    rw [D.py, pyL_map, PyData.depth, PyData.canLay0]
    unfold good at g
    refine ⟨Nat.succ_le_succ (depthAll_le _ fun x hx => ?_), canLayAll_of _ fun x hx => ?_⟩ <;>
    · obtain ⟨y, hy, rfl⟩ := List.mem_map.mp hx
      first | exact (good_py n y (g y hy)).1 | exact (good_py n y (g y hy)).2
  | n + 1, .rls xs, g => by
    rw [D.py, pyL_map, PyData.depth, PyData.canLay0]
    unfold good at g
    refine ⟨Nat.succ_le_succ (depthAll_le _ fun x hx => ?_), canLayAll_of _ fun x hx => ?_⟩ <;>
    · obtain ⟨y, hy, rfl⟩ := List.mem_map.mp hx
      first | exact (good_py n y (g y hy)).1 | exact (good_py n y (g y hy)).2
  | n + 1, .tup xs, g => by
    rw [D.py, pyL_map, PyData.depth, PyData.canLay0]
    unfold good at g
    refine ⟨Nat.succ_le_succ (depthAll_le _ fun x hx => ?_), canLayAll_of _ fun x hx => ?_⟩ <;>
    · obtain ⟨y, hy, rfl⟩ := List.mem_map.mp hx
      first | exact (good_py n y (g y hy)).1 | exact (good_py n y (g y hy)).2
theorem good_shaped {n : Nat} {d : D} (g : good n d) (hn : n ≤ 64) : SeqAt.shaped d.py = true := by
  obtain ⟨h1, h2⟩ := good_py n d g
  unfold SeqAt.shaped
  rw [h2, decide_eq_true (by omega)]
  rfl
end
/-- == of data -/
def D.eq (x y : D) : Bool := PyData.eqv x.py y.py
section
variable {K : PySem.W.Frag} {σ : L2.St} {G : Hp} {S : List Addr} {ta tb : TE} {x y : D} {n m : Nat}
theorem ev_eqD (n m : Nat) (ha : Ev K ta σ G S x) (hb : Ev K tb σ G S y) (gx : good n x) (gy : good m y) (hn : n ≤ 64 := by decide) (hm : m ≤ 64 := by decide) : Ev K (tOp (rEqD K) ta tb) σ G S (.bl (x.eq y)) := ev_op ha hb fun S H o u v ru rv Q q =>
  ⟨x.py, y.py, Rp.dp n x u gx (hw ru), Rp.dp m y v gy (hw rv), good_shaped gx hn, good_shaped gy hm, q _ H (Ex.refl H) (.bl _)⟩
theorem ev_neD (n m : Nat) (ha : Ev K ta σ G S x) (hb : Ev K tb σ G S y) (gx : good n x) (gy : good m y) (hn : n ≤ 64 := by decide) (hm : m ≤ 64 := by decide) : Ev K (tOp (rNeD K) ta tb) σ G S (.bl (!x.eq y)) := ev_op ha hb fun S H o u v ru rv Q q =>
  ⟨x.py, y.py, Rp.dp n x u gx (hw ru), Rp.dp m y v gy (hw rv), good_shaped gx hn, good_shaped gy hm, q _ H (Ex.refl H) (.bl _)⟩
end
theorem eqvAll_refl : ∀ xs : List PyData, (∀ x ∈ xs, PyData.eqv x x = true) → PyData.eqvAll xs xs = true
  | [], _ => by simp [PyData.eqvAll]
  | x :: xs, h => by rw [PyData.eqvAll, h x List.mem_cons_self, eqvAll_refl xs fun y hy => h y (List.mem_cons_of_mem _ hy)]; rfl
theorem eq_refl : ∀ (n : Nat) (d : D), good n d → d.eq d = true
  | _, .non, _ => by unfold D.eq; rw [D.py]; simp [PyData.eqv]
  | _, .bl _, _ => by unfold D.eq; rw [D.py]; simp [PyData.eqv]
  | _, .int _, _ => by unfold D.eq; rw [D.py]; simp [PyData.eqv]
  | _, .str _, _ => by unfold D.eq; rw [D.py]; simp [PyData.eqv]
  | _, .obj _ _, g => by unfold good at g; exact g.elim
  | _, .adr _, g => by unfold good at g; exact g.elim
  | 0, .lst _, g => by unfold good at g; exact g.elim
  | 0, .rls _, g => by unfold good at g; exact g.elim
  | 0, .tup _, g => by unfold good at g; exact g.elim
  | n + 1, .lst xs, g => by
    unfold good at g; unfold D.eq
    rw [D.py, pyL_map, PyData.eqv]
    refine eqvAll_refl _ fun x hx => ?_
    obtain ⟨y, hy, rfl⟩ := List.mem_map.mp hx
    exact eq_refl n y (g y hy)
  | n + 1, .rls xs, g => by
    unfold good at g; unfold D.eq
    rw [D.py, pyL_map, PyData.eqv]
    refine eqvAll_refl _ fun x hx => ?_
    obtain ⟨y, hy, rfl⟩ := List.mem_map.mp hx
    exact eq_refl n y (g y hy)
  | n + 1, .tup xs, g => by
    unfold good at g; unfold D.eq
    rw [D.py, pyL_map, PyData.eqv]
    refine eqvAll_refl _ fun x hx => ?_
    obtain ⟨y, hy, rfl⟩ := List.mem_map.mp hx
    exact eq_refl n y (g y hy)

/-! ### repr -/
/-- how long the text may be -/
def wt : Nat → D → Nat
  | _, .non => 4
  | _, .bl _ => 5
  | _, .int _ => 1921
  | _, .str x => 10 * x.length + 2
  | n + 1, .lst xs => 2 + (xs.map fun x => wt n x + 2).sum
  | n + 1, .rls xs => 2 + (xs.map fun x => wt n x + 2).sum
  | n + 1, .tup xs => 4 + (xs.map fun x => wt n x + 2).sum
  | _, _ => 0
/-- ints of at most 1,900 bits, texts of signs -/
def shows : Nat → D → Prop
  | _, .non => True
  | _, .bl _ => True
  | _, .int i => i.natAbs < 2 ^ 1900
  | _, .str x => PyData.strOk x = true ∧ ∀ c ∈ x.cps.toList, c < 16 ^ 8
  | _, .obj _ _ => False
  | _, .adr _ => False
  | 0, _ => False
  | n + 1, .lst xs => ∀ x ∈ xs, shows n x
  | n + 1, .rls xs => ∀ x ∈ xs, shows n x
  | n + 1, .tup xs => ∀ x ∈ xs, shows n x
theorem listText_le : ∀ ts : List Str, (listText ts).length ≤ piled ts + 2
  | [] => by decide +kernel
  | t :: r => by
    have h := textFrom_length_pos r 1 (("[" : Str) ++ (if (0 : Nat) > 0 then ", " else "" : String) ++ t) (Nat.succ_pos 0)
    have e : listText (t :: r) = textFrom 1 (("[" : Str) ++ (if (0 : Nat) > 0 then ", " else "" : String) ++ t) r ++ "]" := rfl
    have e1 : ((("[" : String) : Str)).length = 1 := rfl
    have e2 : ((("]" : String) : Str)).length = 1 := rfl
    have e3 : (((if (0 : Nat) > 0 then ", " else "" : String) : Str)).length = 0 := rfl
    rw [e, strLen_append, h, strLen_append, strLen_append, piled_cons, e1, e2, e3]
    omega
theorem shownAll_map : ∀ xs : List PyData, PyData.shownAll xs = xs.map PyData.shown
  | [] => by simp [PyData.shownAll]
  | x :: xs => by rw [PyData.shownAll, shownAll_map xs]; rfl
theorem showableAll_of : ∀ xs : List PyData, (∀ x ∈ xs, x.showable = true) → PyData.showableAll xs = true
  | [], _ => by simp [PyData.showableAll]
  | x :: xs, h => by rw [PyData.showableAll, h x List.mem_cons_self, showableAll_of xs fun y hy => h y (List.mem_cons_of_mem _ hy)]; rfl
theorem piled_of {n : Nat} : ∀ xs : List D, (∀ x ∈ xs, x.py.shown.length ≤ wt n x) → piled (PyData.shownAll (pyL xs)) ≤ (xs.map fun x => wt n x + 2).sum
  | [], _ => by simp [pyL, PyData.shownAll, piled]
  | x :: xs, h => by
    rw [pyL, PyData.shownAll, piled_cons, List.map_cons, List.sum_cons]
    have h1 := h x List.mem_cons_self
    have h2 := piled_of xs fun y hy => h y (List.mem_cons_of_mem _ hy)
    omega
theorem shows_py : ∀ (n : Nat) (d : D), shows n d → d.py.shown.length ≤ wt n d ∧ d.py.showable = true
  | _, .non, _ => by rw [D.py]; unfold wt; exact ⟨by rw [PyData.shown]; decide +kernel, by simp [PyData.showable]⟩
  | _, .bl b, _ => by rw [D.py]; unfold wt; exact ⟨by rw [PyData.shown]; cases b <;> decide +kernel, by simp [PyData.showable]⟩
  | _, .int i, g => by
    unfold shows at g
    have h : i.natAbs.log2 < 1920 := Nat.lt_of_lt_of_le (PySem.Flt.log2_lt_of (by decide) g) (by decide)
    rw [D.py]; unfold wt
    exact ⟨by rw [PyData.shown]; exact PyProof.Rows.int_text_len_1921 h, by simp [PyData.showable, h]⟩
  | _, .str x, g => by
    unfold shows at g
    rw [D.py]; unfold wt
    exact ⟨by rw [PyData.shown]; exact StrLaws.reprText_len x g.2, by simp [PyData.showable]⟩
  | _, .obj _ _, g => by unfold shows at g; exact g.elim
  | _, .adr _, g => by unfold shows at g; exact g.elim
  | 0, .lst _, g => by unfold shows at g; exact g.elim
  | 0, .rls _, g => by unfold shows at g; exact g.elim
  | 0, .tup _, g => by unfold shows at g; exact g.elim
  | n + 1, .lst xs, g => by
    unfold shows at g
    rw [D.py]
    unfold wt
    rw [PyData.shown, PyData.showable]
    have h1 := listText_le (PyData.shownAll (pyL xs))
    have h2 := piled_of (n := n) xs fun x hx => (shows_py n x (g x hx)).1
    refine ⟨by omega, showableAll_of _ fun x hx => ?_⟩
    rw [pyL_map] at hx
    obtain ⟨y, hy, rfl⟩ := List.mem_map.mp hx
    exact (shows_py n y (g y hy)).2
  | n + 1, .rls xs, g => by
    unfold shows at g
    rw [D.py]
    unfold wt
    rw [PyData.shown, PyData.showable]
    have h1 := listText_le (PyData.shownAll (pyL xs))
    have h2 := piled_of (n := n) xs fun x hx => (shows_py n x (g x hx)).1
    refine ⟨by omega, showableAll_of _ fun x hx => ?_⟩
    rw [pyL_map] at hx
    obtain ⟨y, hy, rfl⟩ := List.mem_map.mp hx
    exact (shows_py n y (g y hy)).2
  | n + 1, .tup xs, g => by
    unfold shows at g
    rw [D.py]
    unfold wt
    rw [PyData.shown, PyData.showable]
    have h1 := fmt_text (PyData.shownAll (pyL xs))
    have h2 := piled_of (n := n) xs fun x hx => (shows_py n x (g x hx)).1
    refine ⟨by omega, showableAll_of _ fun x hx => ?_⟩
    rw [pyL_map] at hx
    obtain ⟨y, hy, rfl⟩ := List.mem_map.mp hx
    exact (shows_py n y (g y hy)).2
theorem shows_good : ∀ (n : Nat) (d : D), shows n d → good n d
  | _, .non, _ => by unfold good; trivial
  | _, .bl _, _ => by unfold good; trivial
  | _, .int _, _ => by unfold good; trivial
  | _, .str _, g => by unfold shows at g; unfold good; exact g.1
  | _, .obj _ _, g => by unfold shows at g; exact g.elim
  | _, .adr _, g => by unfold shows at g; exact g.elim
  | 0, .lst _, g => by unfold shows at g; exact g.elim
  | 0, .rls _, g => by unfold shows at g; exact g.elim
  | 0, .tup _, g => by unfold shows at g; exact g.elim
  | n + 1, .lst xs, g => by unfold shows at g; unfold good; exact fun x hx => shows_good n x (g x hx)
  | n + 1, .rls xs, g => by unfold shows at g; unfold good; exact fun x hx => shows_good n x (g x hx)
  | n + 1, .tup xs, g => by unfold shows at g; unfold good; exact fun x hx => shows_good n x (g x hx)
/-! the call of repr, where no repr is under way -/
def rRepr (K : PySem.W.Frag) : List V → Hp → VK → Prop := fun xs H Q => ∃ (x : V) (e : PyData), xs = [x] ∧ Dp K H x e ∧ e.showable = true ∧ e.canLay0 = true ∧ e.depth ≤ 60 ∧ e.shown.length ≤ sizeLine ∧ Q (.str e.shown) H
theorem call_repr {X : Cx} {k : Nat} (hg : X.A.guards = some []) (hr : Room k X.A) : CallR X (.builtin "repr") (rRepr X.K) := by
  intro pins s σ H xs us Q I r h
  obtain ⟨x, e, rfl, hd, h1, h2, h3, h4, q⟩ := h
  cases r with
  | cons rx rn =>
    cases rn
    rename_i u
    have hun := hr.un
    have hnd : e.hasDict = false := PyData.hasDict_of_canLay e h2
    obtain ⟨as, hre⟩ := Dp.reads I e x u hd rx
    cases hd with
    | non => cases rx; refine PySem.P.repr_of_none ?_; exact ⟨.str "None", H, I.tok _, ⟨_, rfl⟩, by rw [PyData.shown] at q; exact q⟩
    | bl b => cases rx; refine PySem.P.repr_of_bool ?_; exact ⟨.str (if b = true then "True" else "False"), H, I.tok _, ⟨_, rfl⟩, by rw [PyData.shown] at q; exact q⟩
    | int i =>
      obtain ⟨t, rfl⟩ := rx
      have hi : i.natAbs.log2 < 1920 := by simpa [PyData.showable] using h1
      refine PySem.P.repr_of_int hi ?_
      exact ⟨.str (toString i), H, I.tok _, ⟨_, rfl⟩, by rw [PyData.shown] at q; exact q⟩
    | str z =>
      obtain ⟨t, rfl⟩ := rx
      refine PySem.P.repr_of_str ?_ (by rw [PyData.shown] at h4; exact h4)
      exact ⟨.str (reprText z), H, I.tok _, ⟨_, rfl⟩, by rw [PyData.shown] at q; exact q⟩
    | lst a b =>
      cases rx
      exact repr_of_reads' hre h1 (PyData.noDict_hsm hnd) hg (by omega) (fun _ _ e => e) (fun h' w tk hk => ⟨.str (PyData.shown _), H, I.kept hk, ⟨w, rfl⟩, q⟩) h4
    | tup a b =>
      cases rx
      exact repr_of_reads' hre h1 (PyData.noDict_hsm hnd) hg (by omega) (fun _ _ e => e) (fun h' w tk hk => ⟨.str (PyData.shown _), H, I.kept hk, ⟨w, rfl⟩, q⟩) h4
theorem rc_repr {K : PySem.W.Frag} {d : D} (n : Nat) (g : shows n d) (hn : n ≤ 60) (hw' : wt n d ≤ 16000000) : RC K (rRepr K) [d] (.str d.py.shown) := fun S H o us rs Q q => by
  obtain ⟨u, rfl, ru⟩ := rs.one_inv
  obtain ⟨h1, h2⟩ := shows_py n d g
  obtain ⟨h3, h4⟩ := good_py n d (shows_good n d g)
  exact ⟨u, d.py, rfl, Rp.dp n d u (shows_good n d g) (hw ru), h2, h4, by omega, Nat.le_trans (Nat.le_trans h1 hw') (by decide), q _ H (Ex.refl H) (.str _)⟩
end Z


set_option Elab.async false
set_option linter.all false
set_option maxRecDepth 100000
set_option maxHeartbeats 2000000
namespace Z
open PySem L2 PySem.Spec PyProof.Rows
open Evl (Ex ex_l ex_t sz_of sz_lt fresh_back)

/-! ### a def that is called where no repr is under way -/
structure FnG (P : Program) (w : World) (K : PySem.W.Frag) (mg : Str → Option Value) (base : Heap) (k : Nat) (f : Addr) (fd : FuncData) (ps : List Str) (sp : Sp) : Prop where
  len : ∀ zs H Q X, sp zs H Q X → zs.length = ps.length
  run : ∀ (A : Around) (outer : List Env) (s : Shared) (H : Hp) (args : Args) (us : List Value) (zs : List V) (Q : VK) (X : XK), A.guards = some [] → Room k A → Env0 P w K mg base A outer s H → BindsTo s fd args (ps.zip us) → Vals zs us → sp zs H Q X →
    codeAny (model P w) A (.call (.ref f) args) (CR CX0 outer P w H s Q X) s
section
variable {P : Program} {w : World} {K : PySem.W.Frag} {mg : Str → Option Value} {base : Heap} {x qual : Str} {params : Arguments} {body : List Stmt} {scope : Scope} {dvs : List V} {kws : List (Str × V)} {f : Addr} {fd : FuncData}
theorem fnG {N ps : List Str} {k : Nat} {sp : Sp} (Fd : FunD K x qual params body scope dvs kws f fd) (Sc : FnScope N ps scope) (len : ∀ zs H Q X, sp zs H Q X → zs.length = ps.length)
    (hbody : ∀ (cdv : Value) (A : Around) (outer : List Env) (s : Shared) (H : Hp) (zs : List V) (Q : VK) (X : XK), A.guards = some [] → Room k (A.deeper (envOfC qual scope s.heap.objs.size f cdv)) → sp zs H Q X →
      ∃ t, PSs (cxOf CX0 P w K mg base N qual scope f cdv A outer s H X) body t ∧ t { nx := fun _ H' => Q .non H', rt := Q } (L2.start N zs) H) : FnG P w K mg base (k + 1) f fd ps sp := by
  obtain ⟨c1, c2, c3, c4, c5, c6, c7, cdv, c8, c9, rfl, lk, hcd, -, -⟩ := Fd.ex
  refine ⟨len, fun A outer s H args us zs Q X hG hr e0 hb r hsp => ?_⟩
  have keep := fun b o (e : base.get? b = some o) => (e0.bs b o e).1
  have KX : K.In s.heap := e0.mod.kin.keeps keep
  have lim : s.heap.NoLimit := e0.mod.nolimit.keeps keep
  have hkind : ∀ q ∈ ps.zip us, scope.names.lookup q.1 = some .local ∨ (scope.names.lookup q.1 = some .cell ∧ ((cellsFrom (s.heap.objs.size + 1) scope.names []).lookup q.1).isSome = true) := by
    rintro ⟨n, v⟩ hq
    rcases Sc.par n (List.of_mem_zip hq).1 with z | z
    · exact Or.inl z
    · exact Or.inr ⟨z, PySem.W.cellsFrom_some _ _ _ (Or.inl z)⟩
  refine codeAny_call_function hr.depth (KX _ _ lk) rfl Sc.co Sc.gen rfl (PySem.W.codeRec_of KX hcd) (hb _ _ _ _ (wpAny_newFunctionEnv_cells Sc.kind hkind fun env he s1 y => ?_))
  subst he
  refine ⟨lim.keeps y.toInCall.keep, codeAny_func ?_⟩
  obtain ⟨t, ht, hq⟩ := hbody cdv A outer s H zs Q X hG (hr.deeper _) hsp
  have J0 := inv_start (CX := CX0) (E := X) Sc hr.hd e0 (len _ _ _ _ hsp) r y
  refine wpAny_mono (ht.run [] s1 (L2.start N zs) H _ J0 hq) (fun fl s' hs => ?_) fun e s' hs => hs
  cases fl with
  | ret u => obtain ⟨v, σ', H', J, rv, q⟩ := hs; exact ⟨v, H', J.os, J.bare, J.base, J.hok, rv, q⟩
  | next => obtain ⟨σ', H', J, q⟩ := hs; exact ⟨V.non, H', J.os, J.bare, J.base, J.hok, rfl, q⟩
  | brk => obtain ⟨_, _, _, q⟩ := hs; exact (show False from q).elim
  | cont => obtain ⟨_, _, _, q⟩ := hs; exact (show False from q).elim
end
theorem FnG.of {P : Program} {w : World} {K : PySem.W.Frag} {mg : Str → Option Value} {base : Heap} {k : Nat} {f : Addr} {fd : FuncData} {ps : List Str} {sp : Sp} (h : FnOk P w K mg base CX0 k f fd ps sp) : FnG P w K mg base k f fd ps sp :=
  ⟨h.len, fun A outer s H args us zs Q X _ hr e0 hb r hsp => h.run A outer s H args us zs Q X hr e0 hb r hsp⟩
/-- .. by its name -/
structure CalG (P : Program) (w : World) (K : PySem.W.Frag) (mg : Str → Option Value) (base : Heap) (k : Nat) (x : Str) (sp : Sp) (dvs : List V) : Prop where
  ex : ∃ (f : Addr) (fd : FuncData) (ps : List Str) (ds : List Value), FnG P w K mg base k f fd ps sp ∧ mg x = some (.ref f) ∧ PySem.W.keepIn K (.ref f) = true ∧ Binds K fd ps ds ∧ Vals dvs ds
section
variable {X : Cx} {k j : Nat} {x : Str} {sp : Sp} {dvs : List V} {p pos : Pos} {e : Expr} {es : List Expr} {t : TA}
theorem pe_cG (c : CalG X.prog X.w X.K X.mg X.base k x sp dvs) (hG : X.A.guards = some []) (hr : Room j X.A) (hk : k ≤ j) (hg : Gl X x) (ha : PA X (e :: es) t)
    (hdb : (x == ("__debug__" : Str)) = false := by decide) (he : starEach (e :: es) X.env = (false, eval e X.env) :: starEach es X.env := by rfl) (hpl : (backTo pos (starEach es X.env)).any (·.1) = false := by rfl) :
    PE X (.Call (.Name x p) (e :: es) [] pos) (tCall sp dvs E0 t) := by
  obtain ⟨f, fd, ps, ds, F, hm, kp, b, d⟩ := c.ex
  constructor
  intro pins s σ H Q I h
  refine wpAny_Call_Name_kw (ld_glob I hg hm (PySem.W.callWith_K (h₀ := X.base) I.ok.mod.kin kp (thn (ha.run pos pins s σ H _ I h) fun us s1 hh => ?_) he hpl) hdb)
  obtain ⟨vs, H1, I1, r, q⟩ := hh
  refine ⟨I1.kIn, ?_⟩
  have r2 : Vals (vs ++ dvs) (us ++ ds) := r.append d
  have hl : (us ++ ds).length = ps.length := by rw [← r2.length]; exact F.len _ _ _ _ q
  refine wpAny_call (codeAny_mono (F.run X.A X.stack s1 H1 ⟨us, []⟩ (us ++ ds) (vs ++ dvs) Q E0 hG (hr.mono hk) I1.env0 (b s1 us I1.kIn hl) r2 q) fun rr s' hq => ?_)
  cases rr with
  | error er => exact (show False from hq).elim
  | ok fl =>
    cases fl with
    | ret u => exact I1.after hq
    | next => exact (show False from hq).elim
    | brk => exact (show False from hq).elim
    | cont => exact (show False from hq).elim
end
/-- the law's call, by a promise that wants no repr under way -/
theorem law_callG {P : Program} {w : World} {K : PySem.W.Frag} {mg mb : Str → Option Value} {k : Nat} {fa a : Addr} {fd : FuncData} {x : Str} {sp : Sp} {s₁ : Shared} {vs : List Value} {ns : List Int}
    (KX : K.In s₁.heap) (hns : s₁.heap.Ns mainGlobals mg) (hb : s₁.heap.Ns builtinsNs mb) (hbb : ∀ x : Str, x ≠ "__name__" → mb x = bootBuiltins x) (hlim : s₁.heap.NoLimit) (hg : s₁.gens = #[])
    (ha : s₁.heap.get? a = some { cls := .type "list", data := .seq vs.toArray }) (hi : IntsAre vs ns) (hl : ns.length ≤ sizeLine) (hr : Room k callerA)
    (F : ∀ base : Heap, K.In base → base.Ns mainGlobals mg → FnG P w K mg base k fa fd [x] sp) (hbind : ∀ (s : Shared) (u : Value), BindsTo s fd ⟨[u], []⟩ [(x, u)])
    (hsp : ∀ H : Hp, Only H → SqL K H a (ns.map V.int) → sp [.ref a] H (fun v _ => v = .bl true) fun _ _ _ => False) :
    codeAny (model P w) callerA (.call (.ref fa) ⟨[.ref a], []⟩) (fun r s' => r = .ok (.ret (.bool true)) ∧ OldK s₁.heap s'.heap ∧ s'.os = s₁.os ∧ AllBare s'.gens) s₁ := by
  -- the same road as the library's for FnOk, at the caller's own stack
  have core : ∀ H : Hp, Only H → SqL K H a (ns.map V.int) → HOk P w H s₁.heap → (∀ b, H b ≠ none → b = a) → (H a ≠ none → K.lookup a = none) →
      codeAny (model P w) callerA (.call (.ref fa) ⟨[.ref a], []⟩) (fun r s' => r = .ok (.ret (.bool true)) ∧ OldK s₁.heap s'.heap ∧ s'.os = s₁.os ∧ AllBare s'.gens) s₁ := by
    intro H hO hS hok hA hK
    have isA : ∀ {b : Addr} {u : HO}, H b = some u → b = a := fun {b u} q => hA b (by rw [q]; exact Option.some_ne_none u)
    have dictN : ∀ {b : Addr} {o : Obj} {es : Array DictEntry} {ep : Nat}, s₁.heap.get? b = some o → o.data = .dict es ep → H b = none := by
      intro b o es ep e d
      cases q : H b with
      | none => rfl
      | some u =>
        have e' := isA q
        rw [e', ha] at e
        cases e
        cases d
    have nsK : ∀ {b : Addr} {m : Str → Option Value}, s₁.heap.Ns b m → (hidT s₁.heap H).Ns b m := by
      rintro b m ⟨o, es, ep, e, d, r⟩
      exact ⟨o, es, ep, hidT_get e (dictN e d), d, r⟩
    have hKb : K.In (hidT s₁.heap H) := by
      intro b o e
      refine hidT_get (KX b o e) ?_
      cases q : H b with
      | none => rfl
      | some u =>
        have e' := isA q
        rw [e'] at e q
        rw [hK (by rw [q]; exact Option.some_ne_none u)] at e
        cases e
    obtain ⟨mc, lim1, lim2⟩ := hlim
    have hM : Mod K mg (hidT s₁.heap H) := ⟨hKb, nsK hns, ⟨mb, nsK hb, hbb⟩, ⟨mc, nsK lim1, lim2⟩⟩
    have e0 : Env0 P w K mg (hidT s₁.heap H) callerA [] s₁ H := ⟨rfl, hM, fun b o e => of_hidT e, Nat.le_of_eq (hidT_size _ _), trivial, (fun b z => nomatch (show b ∈ ([] : List Addr) from z)), hok, .of_eq hg⟩
    refine codeAny_mono ((F _ hKb (nsK hns)).run callerA [] s₁ H ⟨[.ref a], []⟩ [.ref a] [.ref a] _ _ rfl hr e0 (hbind s₁ (.ref a)) (.cons rfl .nil) (hsp H hO hS)) ?_
    intro r s' h
    match r, h with
    | .error e, h => exact (show False from h).elim
    | .ok .next, h => exact (show False from h).elim
    | .ok .brk, h => exact (show False from h).elim
    | .ok .cont, h => exact (show False from h).elim
    | .ok (.ret u), h =>
      obtain ⟨v, H', os, bare, un, hok', r', q⟩ := h
      have ev : v = .bl true := q
      rw [ev] at r'
      have eu : u = Value.bool true := r'
      refine ⟨by rw [eu], OldK.of_keep ?_, os, bare⟩
      intro b o e
      cases qb : H b with
      | none => exact un.keep b o e qb (fun z => nomatch (show b ∈ ([] : List Addr) from z)) (fun z => nomatch (show b ∈ ([] : List Addr) from z))
      | some u' =>
        rcases hO b with z | ⟨ob, xs, z⟩
        · rw [qb] at z; cases z
        · have k1 := (hok b _ z).1
          have k2 := (hok' b _ (un.frzs b ob _ z)).1
          rw [e] at k1
          cases k1
          exact k2
  have rv := vals_ints hi
  have hsz : vs.toArray.size ≤ sizeLine := by rw [List.size_toArray, hi.length]; exact hl
  cases hk : K.lookup a with
  | some o =>
    have e := KX a o hk
    rw [ha] at e
    cases e
    exact core (fun _ => none) (fun _ => Or.inl rfl) (Or.inr ⟨_, vs.toArray, _, hk, rfl, rfl, rfl, hsz, by simpa using rv⟩) (fun b u z => nomatch (show (none : Option HO) = some u from z)) (fun b z => absurd rfl z) fun z => absurd rfl z
  | none =>
    let ob : Obj := { cls := .type "list", data := .seq vs.toArray }
    let H : Hp := fun b => if b = a then some (.frz ob (.lst (ns.map V.int))) else none
    have hat : H a = some (.frz ob (.lst (ns.map V.int))) := if_pos rfl
    have hno : ∀ b, b ≠ a → H b = none := fun b n => if_neg n
    refine core H (fun b => ?_) (Or.inl (Or.inr ⟨ob, hat⟩)) (fun b u z => ?_) (fun b z => ?_) fun _ => hk
    · by_cases hb' : b = a
      · rw [hb']; exact Or.inr ⟨_, _, hat⟩
      · exact Or.inl (hno b hb')
    · by_cases hb' : b = a
      · rw [hb'] at z ⊢
        rw [hat] at z
        cases z
        exact ⟨ha, by rw [List.length_map]; exact hl, vs, _, rv, ha⟩
      · rw [hno b hb'] at z; cases z
    · by_cases hb' : b = a
      · exact hb'
      · exact absurd (hno b hb') z
theorem walkG {l : PySem.W.OpenLaw} {n k : Nat} {q : Program} {loose : List Str} {XP : (Str → Option Value) → Heap → Prop} {YP : World → Heap → Prop} {d : DefRec} {x : Str}
    (hn : l.most = some n) (hn2 : n ≤ sizeLine) (hdf : d.params.defaults = []) (hr : Room k callerA)
    (F : ∀ (w : World) (mg : Str → Option Value) (fa : Addr) (h : Heap), YP w h → h.Ns mainGlobals mg → mg d.name = some (.ref fa) →
      ∃ (K : PySem.W.Frag) (fd : FuncData) (sp : Sp), K.In h ∧ (∀ (s : Shared) (u : Value), BindsTo s fd ⟨[u], []⟩ [(x, u)]) ∧
        (∀ (H : Hp) (a : Addr) (ns : List Int), ns.length ≤ n → Only H → SqL K H a (ns.map V.int) → sp [.ref a] H (fun v _ => v = .bl true) fun _ _ _ => False) ∧
        ∀ base : Heap, K.In base → base.Ns mainGlobals mg → FnG l.prog w K mg base k fa fd [x] sp) :
    PySem.W.WalkO q loose XP YP l.row.toRowW d [] (fun f vs => PySem.call f vs) := by
  refine Att.attach_call hn hdf ?_
  intro w s₀ s₁ mg mb fa o pm cd doc a vs ns Gr Y ho hd hcd hmg hobj hints hlen hg
  obtain ⟨K, fd, sp, KX, hb, hsp, hF⟩ := F w mg fa _ Y Gr.T.g hmg
  exact law_callG KX Gr.T.g Gr.T.b Gr.T.builtins Gr.T.nolimit hg hobj hints (Nat.le_trans hlen hn2) hr hF hb fun H hO hS => hsp H a ns hlen hO hS
end Z


set_option Elab.async false
set_option linter.all false
set_option maxRecDepth 100000
set_option maxHeartbeats 2000000
namespace Z
open PySem PySem.W PyProof.Rows Builtin
section
variable {prog : Program} {w : World} {A : Around} {E : Value → Shared → Prop} {s : Shared} {K : Frag} {x C L f : Addr} {h₀ : Heap} {m : Str → Option Value} {ox : Obj} {od : Option Obj} {b tb : Value}
theorem ifBound_ne {M : Model} {Q : Option Value → Shared → Prop} (X : K.In s.heap) (I : InstAt s.heap x ox C od) (hs : findIn K (.ref C) "__ne__" = some (some (.builtin "object.__ne__")))
    (h : wpAny M A (call (.builtin "object.__ne__") [.ref x, b]) (fun v => Q (some v)) E s) : wpAny M A (callSpecialIfBound? (.ref x) "__ne__" [b]) Q E s := by
  simp only [callSpecialIfBound?, bindSpecialIfBound?]
  refine wpAny_holding (wpAny_bind (wpAny_bind (wpAny_bind (I.type.here ((looks_findIn X hs).here ?_)))))
  simp only [PySem.F.cmp_object.ne.bind]
  refine wpAny_bind (wpAny_askSetting (wpAny_ite ?_))
  have fin : wpAny M A (call (.builtin "object.__ne__") ([.ref x] ++ [b]) >>= fun v => pure (some v)) Q E s := wpAny_bind (wpAny_mono h (fun v s' z => wpAny_pure z) fun _ _ z => z)
  split
  · exact wpAny_bind (wpAny_pure (wpAny_pure (by exact fin)))
  · exact wpAny_tryCatch (wpAny_bind (wpAny_pure (wpAny_pure (by exact fin))))
theorem ne_own {Q : Value → Shared → Prop} (hu : A.units + 1 < cLine) (X : K.In s.heap) (I : InstAt s.heap x ox C od) (hb : Looks (model prog w) s.heap (typeOf b) tb) (hn : notFirst K C tb = true)
    (hs : findIn K (.ref C) "__ne__" = some (some (.builtin "object.__ne__"))) (he : findIn K (.ref C) "__eq__" = some (some (.ref f))) (hf : isFn K (.ref f) = true) (ho : subIn K (.ref C) (.type "object") = some true)
    (h : wpAny (model prog w) A.in1 (call (.ref f) [.ref x, b]) (fun v s' => ∃ c, v = .bool c ∧ Q (.bool (!c)) s') E s) : wpAny (model prog w) A (richCompare .NotEq (.ref x) b) Q E s := by
  have inner : wpAny (model prog w) A (call (.builtin "object.__ne__") [.ref x, b]) (fun v s' => ∃ c : Bool, v = .bool c ∧ Q (.bool c) s') E s := by
    refine wpAny_call (codeAny_call_builtin PySem.F.cmp_object.ne.plain PySem.F.cmpEntry_ne (@check_slot (model prog w) _ _ _ "object.__ne__" "object" "__ne__" (.ref x) [b] [] _ PySem.F.cmpKind_ne PySem.F.cmpSplit_ne (I.type.andThen (looks_subIn X ho)) (PySem.F.cmpArgs_ne _ _) ?_))
    unfold Builtin.«object.__ne__»
    refine wpAny_bind (wpAny_pure ?_)
    refine wpAny_bind (wpAny_cRoomFor hu ?_)
    refine wpAny_bind (ifBound_K X I he hf (wpAny_mono h (fun v s' z => ?_) fun _ _ z => z))
    obtain ⟨c, rfl, q⟩ := z
    refine wpAny_bind (wpAny_pure ?_)
    exact wpAny_pure ⟨!c, rfl, q⟩
  have one : wpAny (model prog w) A (tryCompare (.ref x) "__ne__" b) (fun r s' => ∃ v, r = some v ∧ Q v s') E s := by
    unfold tryCompare
    refine wpAny_bind (ifBound_ne X I hs (wpAny_mono inner (fun v s' z => ?_) fun _ _ z => z))
    obtain ⟨c, rfl, q⟩ := z
    exact wpAny_pure ⟨_, rfl, q⟩
  unfold richCompare
  simp only [oneThing_ref]
  refine wpAny_holding (wpAny_bind (wpAny_cRoomFor (by omega) ?_))
  refine wpAny_bind (I.type.here (wpAny_bind (hb.here ?_)))
  split
  · rename_i q
    have e : subIn K tb (.ref C) = some false := by
      rcases Bool.or_eq_true_iff.mp hn with e | e
      · rw [beq_iff_eq.mp e] at q; simp at q
      · exact beq_iff_eq.mp e
    refine wpAny_bind ((looks_subIn X e).here ?_)
    simp only [Bool.false_eq_true, if_false]
    refine wpAny_bind (wpAny_mono one (fun r s' z => ?_) fun _ _ z => z)
    obtain ⟨v, rfl, hq⟩ := z
    exact wpAny_pure hq
  · refine wpAny_bind (wpAny_pure ?_)
    simp only [Bool.false_eq_true, if_false]
    refine wpAny_bind (wpAny_mono one (fun r s' z => ?_) fun _ _ z => z)
    obtain ⟨v, rfl, hq⟩ := z
    exact wpAny_pure hq
end
end Z


set_option Elab.async false
set_option linter.all false
set_option maxRecDepth 100000
set_option maxHeartbeats 2000000
namespace Z
open PySem L2
open Evl (Ex ex_l ex_t sz_of sz_lt fresh_back)

/-! ### an own class, as the top has made it -/
structure Ocl (K : PySem.W.Frag) (C : Addr) : Prop where
  cl : Cls K C
  ha : PySem.W.findIn K (.ref C) "__class__" = some (some (.builtin "object.__class__"))
  hn : PySem.W.specialIn K (.builtin "object.__class__") "__get__" = some (some (.builtin "getset_descriptor.__get__"))
  tk : PySem.W.takesIn K (.builtin "object.__class__") = some true
  hm : PySem.W.mroIn K C (.type "object") = some true
  ob : PySem.W.subIn K (.ref C) (.type "object") = some true
def oclB (K : PySem.W.Frag) (C : Addr) : Bool := He.eqO (PySem.W.findIn K (.ref C) "__class__") (some (some (.builtin "object.__class__"))) && (He.eqO (PySem.W.specialIn K (.builtin "object.__class__") "__get__") (some (some (.builtin "getset_descriptor.__get__"))) &&
  (decide (PySem.W.takesIn K (.builtin "object.__class__") = some true) && (decide (PySem.W.mroIn K C (.type "object") = some true) && decide (PySem.W.subIn K (.ref C) (.type "object") = some true))))
theorem oclB_ok {K : PySem.W.Frag} {C : Addr} (cl : Cls K C) (h : oclB K C = true) : Ocl K C := by
  unfold oclB at h
  simp only [Bool.and_eq_true] at h
  obtain ⟨h1, h2, h3, h4, h5⟩ := h
  exact ⟨cl, He.eqO_ok h1, He.eqO_ok h2, of_decide_eq_true h3, of_decide_eq_true h4, of_decide_eq_true h5⟩
/-- the type of a tree -/
inductive TyD (K : PySem.W.Frag) : D → Value → Prop
  | non : TyD K .non (.type "NoneType")
  | bl (b : Bool) : TyD K (.bl b) (.type "bool")
  | int (i : Int) : TyD K (.int i) (.type "int")
  | str (x : Str) : TyD K (.str x) (.type "str")
  | lst (xs : List D) : TyD K (.lst xs) (.type "list")
  | rls (xs : List D) : TyD K (.rls xs) (.type "list")
  | tup (xs : List D) : TyD K (.tup xs) (.type "tuple")
  | obj {C : Addr} {gs : List (Str × D)} (c : Ocl K C) : TyD K (.obj C gs) (.ref C)
section
variable {K : PySem.W.Frag} {H : Hp}
theorem Rp.tyx {v : V} {d : D} {t : Value} (h : Rp K H v d) (k : TyD K d t) : TyX K H v t := by
  cases k with
  | non => rw [h.non_inv]; exact .base .non
  | bl b => rw [h.bl_inv]; exact .base (.bl b)
  | int b => rw [h.int_inv]; exact .base (.int b)
  | str b => rw [h.str_inv]; exact .base (.str b)
  | lst xs =>
    obtain ⟨a, us, rfl, h1, _⟩ := h.lst_inv
    exact .base (.lst h1)
  | rls xs =>
    obtain ⟨a, us, rfl, h1, _⟩ := h.rls_inv
    rcases h1 with (h1 | ⟨o, h1⟩) | ⟨o, its, n, k1, k2, _⟩
    · exact .base (.lst h1)
    · exact .base (.frz h1)
    · exact .kList k1 k2
  | tup xs =>
    obtain ⟨a, us, rfl, h1, _⟩ := h.tup_inv
    rcases h1 with (h1 | ⟨o, h1⟩) | ⟨o, its, n, k1, k2, _⟩
    · exact .base (.tup h1)
    · exact .fTuple h1
    · exact .kTuple k1 k2
  | obj c =>
    obtain ⟨a, dx, fs, rfl, h1, _⟩ := h.obj_inv
    exact .base (.ins h1 c.cl c.ha c.hn c.tk c.hm)
end
/-! ### isinstance -/
section
variable {K : PySem.W.Frag} {σ : L2.St} {G : Hp} {S : List Addr} {ta tb te : TE} {d x y z : D} {t : Value} {b : Bool}
theorem ev_isi {n : String} (ha : Ev K ta σ G S d) (ht : TyD K d t) (hk : PySem.W.kitOne K t (.type n) = some b) : Ev K (tCB (rIsi K) (tCons ta (tCons (tC (.ty n)) tNil))) σ G S (.bl b) := fun H1 e o Q q =>
  ha H1 e o _ fun v H2 e2 rv => ⟨v, .ty n, t, .type n, b, rfl, .ty n, (hw rv).tyx ht, hk, q _ H2 e2 (.bl b)⟩
theorem ev_isiO {C : Addr} (ha : Ev K ta σ G S d) (ht : TyD K d t) (hk : PySem.W.kitOne K t (.ref C) = some b) : Ev K (tCB (rIsi K) (tCons ta (tCons (tC (.ref C)) tNil))) σ G S (.bl b) := fun H1 e o Q q =>
  ha H1 e o _ fun v H2 e2 rv => ⟨v, .ref C, t, .ref C, b, rfl, .own C, (hw rv).tyx ht, hk, q _ H2 e2 (.bl b)⟩
theorem ev_isi2 {n m : String} (ha : Ev K ta σ G S d) (ht : TyD K d t) (hk : PySem.W.kitAny K t [.type n, .type m] = some b) : Ev K (tCB (rIsiT K) (tCons ta (tCons (tTup (tCons (tC (.ty n)) (tCons (tC (.ty m)) tNil))) tNil))) σ G S (.bl b) := fun H1 e o Q q =>
  ha H1 e o _ fun v H2 e2 rv => ⟨by show 2 ≤ sizeLine; decide, fun p hp => ⟨v, p, _, t, _, b, rfl, upd_same, .cons (.ty n) (.cons (.ty m) .nil), ((hw rv).up (Evl.Ex.new hp)).tyx ht, hk, q _ _ (e2.trans (Evl.Ex.new hp)) (.bl b)⟩⟩
end
/-! ### own ==, !=, in, len, property -/
/-- the method m of the class at C, kept by the promise sp -/
structure Own (P : Program) (w : World) (K : PySem.W.Frag) (mg : Str → Option Value) (base : Heap) (k : Nat) (C : Addr) (m : Str) (sp : Sp) : Prop where
  ex : ∃ (f : Addr) (fd : FuncData) (ps : List Str), PySem.W.findIn K (.ref C) m = some (some (.ref f)) ∧ PySem.W.isFn K (.ref f) = true ∧ FnOk P w K mg base CX0 k f fd ps sp ∧ Binds K fd ps []
theorem own_of {P : Program} {w : World} {K : PySem.W.Frag} {mg : Str → Option Value} {base : Heap} {k : Nat} {C : Addr} {m : Str} {sp : Sp} (h : C8.Met P w K mg base k C m sp []) : Own P w K mg base k C m sp := by
  obtain ⟨f, fd, ps, ds, c, me, F, b, d⟩ := h.ex
  cases d
  exact ⟨f, fd, ps, me.at_, me.fn, F, b⟩
section
variable {X : Cx} {k : Nat} {C : Addr} {sp : Sp} {m : Str}
/-- the method's call, from a body -/
theorem own_run {pins : List (Addr × Obj)} {σ : L2.St} {H : Hp} {s : Shared} {A : Around} {Q : VK} {us : List Value} {vs : List V} {f : Addr} {fd : FuncData} {ps : List Str} {T : Value → Shared → Prop} {E' : Value → Shared → Prop} (F : FnOk X.prog X.w X.K X.mg X.base CX0 k f fd ps sp) (hb : Binds X.K fd ps [])
    (hA : A.frames = X.A.frames) (hr : Room k A) (I : Inv X pins σ H s) (r : Vals vs us) (h : sp vs H Q E0) (hT : ∀ v u H' s', Inv X pins σ H' s' → RelV v u → Q v H' → T u s') : wpAny (model X.prog X.w) A (call (.ref f) us) T E' s := by
  have e0 : Env0 X.prog X.w X.K X.mg X.base A X.stack s H := by
    have e := I.env0
    exact ⟨hA.trans e.frames, e.mod, e.bs, e.bsz, e.funs, e.frf, e.hok, e.bare⟩
  have hl : us.length = ps.length := by rw [← r.length]; exact F.len _ _ _ _ h
  have hbb : BindsTo s fd ⟨us, []⟩ (ps.zip us) := by
    have := hb s us I.kIn (by rw [List.append_nil]; exact hl)
    rw [List.append_nil] at this
    exact this
  refine wpAny_call (codeAny_mono (F.run A X.stack s H ⟨us, []⟩ us vs Q E0 hr e0 hbb r h) fun rr s' hq => ?_)
  cases rr with
  | error er => exact (show False from hq).elim
  | ok fl =>
    cases fl with
    | ret u =>
      obtain ⟨v, H', I', rv, q⟩ := I.after hq
      exact hT v u H' s' I' rv q
    | next => exact (show False from hq).elim
    | brk => exact (show False from hq).elim
    | cont => exact (show False from hq).elim
def rEqO (K : PySem.W.Frag) (C : Addr) (sp : Sp) (neg : Bool) : R2 := fun x y H Q => ∃ a dx fs t, x = .ref a ∧ H a = some (.ins C dx fs) ∧ TyX K H y t ∧ PySem.W.notFirst K C t = true ∧ sp [x, y] H (fun v H' => ∃ b, v = .bl b ∧ Q (.bl (if neg then !b else b)) H') E0
theorem op_eqO (o : Own X.prog X.w X.K X.mg X.base k C "__eq__" sp) (hr : Room (k + 1) X.A) : OpR X (compareOp .Eq) (rEqO X.K C sp false) := by
  intro pins s σ H x y v u Q I rx ry h
  obtain ⟨a, dx, fs, t, rfl, ha, ty, hn, q⟩ := h
  cases rx
  obtain ⟨f, fd, ps, hs, hf, F, hb⟩ := o.ex
  obtain ⟨mA, O, _⟩ := ins_get I.hok ha
  obtain ⟨od, J, _⟩ := O.look
  obtain ⟨m', hF⟩ := I.fr
  obtain ⟨P, Zk, p, _⟩ := kit_of I ry ty
  have hr1 : Room k X.A := hr.mono (by omega)
  refine PySem.W.cmp_K (op := .Eq) (tb := t) hr1.units0 hF I.ok.mod.kin J (Zk.ty _ _ I.kIn p) hn hs hf ?_
  refine own_run F hb rfl hr1 I (vs := [.ref a, y]) (.cons (show RelV (.ref a) (.ref a) from rfl) (.cons ry .nil)) q fun v' u' H' s' I' rv q' => ?_
  obtain ⟨b, rfl, q2⟩ := q'
  cases rv
  exact ⟨.bl b, H', I', rfl, q2⟩
theorem op_neO (o : Own X.prog X.w X.K X.mg X.base k C "__eq__" sp) (hne : PySem.W.findIn X.K (.ref C) "__ne__" = some (some (.builtin "object.__ne__"))) (hob : PySem.W.subIn X.K (.ref C) (.type "object") = some true) (hr : Room (k + 1) X.A) : OpR X (compareOp .NotEq) (rEqO X.K C sp true) := by
  intro pins s σ H x y v u Q I rx ry h
  obtain ⟨a, dx, fs, t, rfl, ha, ty, hn, q⟩ := h
  cases rx
  obtain ⟨f, fd, ps, hs, hf, F, hb⟩ := o.ex
  obtain ⟨mA, O, _⟩ := ins_get I.hok ha
  obtain ⟨od, J, _⟩ := O.look
  obtain ⟨P, Zk, p, _⟩ := kit_of I ry ty
  have hu := hr.un
  show wpAny (model X.prog X.w) X.A (richCompare .NotEq (.ref a) u) (EP X pins σ Q) X.xe s
  refine ne_own (tb := t) (by omega) I.kIn J (Zk.ty _ _ I.kIn p) hn hne hs hf hob ?_
  refine own_run F hb rfl hr.in1 I (vs := [.ref a, y]) (.cons (show RelV (.ref a) (.ref a) from rfl) (.cons ry .nil)) q fun v' u' H' s' I' rv q' => ?_
  obtain ⟨b, rfl, q2⟩ := q'
  cases rv
  exact ⟨b, rfl, .bl (!b), H', I', rfl, q2⟩
def rInO (C : Addr) (sp : Sp) : R2 := fun x y H Q => ∃ a dx fs, y = .ref a ∧ H a = some (.ins C dx fs) ∧ sp [y, x] H (fun v H' => ∃ b, v = .bl b ∧ Q (.bl b) H') E0
theorem op_inO (o : Own X.prog X.w X.K X.mg X.base k C "__contains__" sp) (hr : Room k X.A) : OpR X (compareOp .In) (rInO C sp) := by
  intro pins s σ H x y v u Q I rx ry h
  obtain ⟨a, dx, fs, rfl, ha, q⟩ := h
  cases ry
  obtain ⟨f, fd, ps, hs, hf, F, hb⟩ := o.ex
  obtain ⟨mA, O, _⟩ := ins_get I.hok ha
  obtain ⟨od, J, _⟩ := O.look
  obtain ⟨m', hF⟩ := I.fr
  refine PySem.W.in_K hF I.ok.mod.kin J hs hf ?_
  refine own_run F hb rfl hr I (vs := [.ref a, x]) (.cons (show RelV (.ref a) (.ref a) from rfl) (.cons rx .nil)) q fun v' u' H' s' I' rv q' => ?_
  obtain ⟨b, rfl, q2⟩ := q'
  cases rv
  exact wpAny_pure ⟨.bl b, H', I', rfl, q2⟩
def rLenO (C : Addr) (sp : Sp) : List V → Hp → VK → Prop := fun xs H Q => ∃ a dx fs, xs = [.ref a] ∧ H a = some (.ins C dx fs) ∧ sp [.ref a] H (fun v H' => ∃ n : Int, v = .int n ∧ 0 ≤ n ∧ n < 2 ^ 63 ∧ Q (.int n) H') E0
theorem call_lenO (o : Own X.prog X.w X.K X.mg X.base k C "__len__" sp) (hr : Room (k + 1) X.A) : CallR X (.builtin "len") (rLenO C sp) := by
  intro pins s σ H xs us Q I r h
  obtain ⟨a, dx, fs, rfl, ha, q⟩ := h
  cases r with
  | cons r1 r2 =>
    cases r2
    cases r1
    obtain ⟨f, fd, ps, hs, hf, F, hb⟩ := o.ex
    obtain ⟨mA, O, _⟩ := ins_get I.hok ha
    obtain ⟨od, J, _⟩ := O.look
    obtain ⟨m', hF⟩ := I.fr
    refine PySem.W.len_K hF I.ok.mod.kin J hs hf ?_
    refine own_run F hb rfl hr.in1 I (vs := [.ref a]) (.cons (show RelV (.ref a) (.ref a) from rfl) .nil) q fun v' u' H' s' I' rv q' => ?_
    obtain ⟨n, rfl, h0, h1, q2⟩ := q'
    obtain ⟨t, rfl⟩ := rv
    exact ⟨⟨h0, h1⟩, .int n, H', I'.tok _, ⟨_, rfl⟩, q2⟩
end
section
variable {K : PySem.W.Frag} {σ : L2.St} {G : Hp} {S : List Addr} {ta tb te : TE} {x y z : D} {t : Value} {b neg : Bool} {C : Addr} {gs : List (Str × D)} {R : List D → D → Prop} {n : Int}
theorem ev_eqO (ha : Ev K ta σ G S (.obj C gs)) (hb : Ev K tb σ G S y) (ht : TyD K y t) (hn : PySem.W.notFirst K C t = true) (hR : R [.obj C gs, y] (.bl b)) : Ev K (tOp (rEqO K C (spR K R) neg) ta tb) σ G S (.bl (if neg then !b else b)) := ev_op ha hb fun S H o u v ru rv Q q => by
  obtain ⟨a, dx, fs, e, h1, h2⟩ := ru.obj_inv
  subst e
  exact ⟨a, dx, fs, t, rfl, Hx.ex _ _ h1, (hw rv).tyx ht, hn, S, _, .bl b, o, .cons ru (.cons rv .nil), hR, fun w H' e rw => ⟨b, rw.bl_inv, q _ H' e (.bl _)⟩⟩
theorem ev_inO (ha : Ev K ta σ G S x) (hb : Ev K tb σ G S (.obj C gs)) (hR : R [.obj C gs, x] (.bl b)) : Ev K (tOp (rInO C (spR K R)) ta tb) σ G S (.bl b) := ev_op ha hb fun S H o u v ru rv Q q => by
  obtain ⟨a, dx, fs, e, h1, h2⟩ := rv.obj_inv
  subst e
  exact ⟨a, dx, fs, rfl, Hx.ex _ _ h1, S, _, .bl b, o, .cons rv (.cons ru .nil), hR, fun w H' e rw => ⟨b, rw.bl_inv, q _ H' e (.bl _)⟩⟩
theorem rc_lenO (hR : R [.obj C gs] (.int n)) (h0 : 0 ≤ n) (h1 : n < 2 ^ 63) : RC K (rLenO C (spR K R)) [.obj C gs] (.int n) := fun S H o us rs Q q => by
  obtain ⟨u, rfl, ru⟩ := rs.one_inv
  obtain ⟨a, dx, fs, e, k1, k2⟩ := ru.obj_inv
  subst e
  exact ⟨a, dx, fs, rfl, Hx.ex _ _ k1, S, _, .int n, o, .cons ru .nil, hR, fun w H' e rw => ⟨n, rw.int_inv, h0, h1, q _ H' e (.int _)⟩⟩
theorem ev_prop {X : XK} (ha : Ev K ta σ G S (.obj C gs)) (hR : R [.obj C gs] z) : Ev K (tProp C (spR K R) [] X ta) σ G S z := fun H1 e o Q q => ha H1 e o _ fun u H2 e2 ru => by
  obtain ⟨a, dx, fs, e', k1, k2⟩ := ru.obj_inv
  subst e'
  exact ⟨a, dx, fs, rfl, Hx.ex _ _ k1, S, _, z, o.up e2, .cons ru .nil, hR, fun w H' e3 rw => q w H' (e2.trans e3) rw⟩
end
/-! ### a new object -/
/-- what H' has and H has not -/
def Nw (H H' : Hp) : Hp := fun b => if H b = none then H' b else none
theorem Nw.inv {H H' : Hp} {b : Addr} {u : HO} (h : Nw H H' b = some u) : H b = none ∧ H' b = some u := by
  unfold Nw at h
  by_cases q : H b = none
  · rw [if_pos q] at h; exact ⟨q, h⟩
  · rw [if_neg q] at h; cases h
theorem Nw.of {H H' : Hp} {b : Addr} {u : HO} (h : H b = none) (h2 : H' b = some u) : Nw H H' b = some u := by unfold Nw; rw [if_pos h]; exact h2
theorem Nw.ex {H H' : Hp} {T : List Addr} (o : Ok T H) : Ex (Nw H H') (Hx H' T) := fun b u h => Hx.of (Nw.inv h).2 fun m => o b m (Nw.inv h).1
/-- __init__: the new object is at its first argument, without attributes; behind it has the attributes gs -/
def spI (K : PySem.W.Frag) (C : Addr) (R : List D → List (Str × D) → Prop) : Sp := fun vs H Q _ => ∃ S x dx us ds gs, vs = .ref x :: us ∧ H x = some (.ins C dx []) ∧ Ok S H ∧ x ∉ S ∧ RpA K (Hx H (x :: S)) us ds ∧ R ds gs ∧
  ∀ fs H', (∀ b o, H b = some o → b ≠ x → H' b = some o) → H' x = some (.ins C dx fs) → RpF K (Nw H H') fs gs → Q .non H'
section
variable {K : PySem.W.Frag} {σ : L2.St} {G : Hp} {S : List Addr} {ta : TA} {ds dds : List D} {gs : List (Str × D)} {C : Addr} {R : List D → List (Str × D) → Prop} {X : XK} {dvs : List V}
theorem ev_make (h : EvA K ta σ G S ds) (hd : ∀ H, RpA K H dvs dds) (hR : R (ds ++ dds) gs) : Ev K (tMake C (spI K C R) dvs X ta) σ G S (.obj C gs) := fun H1 e o Q q => h H1 e o _ fun vs H2 e2 rs x dx hx hdx ne => by
  have o2 := o.up e2
  have hxS : x ∉ S := o2.no hx
  have hdS : dx ∉ S := o2.no hdx
  have e3 : Ex H2 (upd (upd H2 dx (.own x)) x (.ins C dx [])) := fun b u hb => by
    rw [upd_ne (ne_of_none hb hx), upd_ne (ne_of_none hb hdx)]
    exact hb
  have g3 : Ex (Hx H2 S) (Hx (upd (upd H2 dx (.own x)) x (.ins C dx [])) (x :: S)) := fun b u hb => by
    obtain ⟨k1, k2⟩ := Hx.inv hb
    refine Hx.of (e3 _ _ k1) ?_
    simp only [List.mem_cons, not_or]
    exact ⟨ne_of_none k1 hx, k2⟩
  refine ⟨S, x, dx, vs ++ dvs, ds ++ dds, gs, rfl, upd_same, o2.up e3, hxS, (rs.up g3).append (hd _), hR, fun fs H' hk hx' rf => ⟨rfl, ?_⟩⟩
  have e4 : Ex H2 H' := fun b u hb => hk b u (e3 _ _ hb) (ne_of_none hb hx)
  refine q _ H' (e2.trans e4) (.obj (Hx.of hx' hxS) (rf.up (Nw.ex (o2.up e3))))
/-- C(..), its arguments read through the lists that the body owns -/
theorem w_make {B F H : Hp} {S0 : List Addr} {os : Os} {Γ : List Sl} {tm : List (V × D)} {Q : VK} (st : Sta K B F S0 os Γ tm σ H) (h : EvA K ta σ (Hx H []) [] ds) (hd : ∀ H, RpA K H dvs dds) (hR : R (ds ++ dds) gs) (k : ∀ v H', Sta K B F S0 os Γ ((v, .obj C gs) :: tm) σ H' → Q v H') : tMake C (spI K C R) dvs X ta σ H Q :=
  h H (Ex.refl _) Ok.nil _ fun vs H2 e2 rs x dx hx hdx ne => by
  have e3 : Ex H2 (upd (upd H2 dx (.own x)) x (.ins C dx [])) := fun b u hb => by
    rw [upd_ne (ne_of_none hb hx), upd_ne (ne_of_none hb hdx)]
    exact hb
  have g3 : Ex (Hx H2 []) (Hx (upd (upd H2 dx (.own x)) x (.ins C dx [])) [x]) := fun b u hb => by
    obtain ⟨k1, k2⟩ := Hx.inv hb
    refine Hx.of (e3 _ _ k1) ?_
    simp only [List.mem_cons, List.not_mem_nil, or_false]
    exact ne_of_none k1 hx
  refine ⟨[], x, dx, vs ++ dvs, ds ++ dds, gs, rfl, upd_same, Ok.nil, by simp, (rs.up g3).append (hd _), hR, fun fs H' hk hx' rf => ⟨rfl, ?_⟩⟩
  have e4 : Ex H2 H' := fun b u hb => hk b u (e3 _ _ hb) (ne_of_none hb hx)
  have st2 := st.step (e2.trans e4)
  have o2 : Ok (adr os S0) H2 := (st.step e2).ok
  exact k _ H' (st2.add (.obj (Hx.of hx' (o2.no hx)) (rf.up (Nw.ex (o2.up e3)))))
end
end Z


set_option Elab.async false
set_option linter.all false
set_option maxRecDepth 100000
set_option maxHeartbeats 2000000
namespace Z
open PySem L2
open Evl (Ex ex_l ex_t sz_of sz_lt fresh_back)

/-! ### the head: defs at told places, facts by names, one more test of the written part -/
structure DefX where
  adr : PySem.W.Frag → Addr
  name : Str
  qual : Str
  params : Arguments
  body : List Stmt
  scope : Scope
  dfl : List He.Dv := []
def DefX.obs (K : PySem.W.Frag) (d : DefX) : He.FnW := match K.lookup (d.adr K) with
  | some ⟨_, _, .func g, _⟩ => some (g.name, g.qualname, g.params, g.body, g.scope, g.globals, g.closure, g.builtins)
  | _ => none
def DefX.val (d : DefX) : He.FnW := some (d.name, d.qual, d.params, .stmts d.body, d.scope, mainGlobals, [], builtinsNs)
def DefX.dvs (K : PySem.W.Frag) (d : DefX) : List V := d.dfl.map (He.Dv.v K)
def DefX.ok (K : PySem.W.Frag) (d : DefX) : Bool := PySem.W.keepIn K (.ref (d.adr K)) && (match K.lookup (d.adr K) with
  | some ⟨_, _, .func g, _⟩ => PySem.W.codeIn K g.code d.qual && He.dflB K g.defaults (d.dvs K)
  | _ => false)
theorem DefX.funD {K : PySem.W.Frag} {d : DefX} (e : d.obs K = d.val) (c : d.ok K = true) : ∃ fd, FunD K d.name d.qual d.params d.body d.scope (d.dvs K) [] (d.adr K) fd := by
  obtain ⟨kp, c2⟩ := He.ba c
  unfold DefX.obs at e
  cases q : K.lookup (d.adr K) with
  | none => rw [q] at c2; cases c2
  | some o =>
    obtain ⟨oc, od, dt, osl⟩ := o
    rw [q] at c2 e
    cases dt with
    | func g =>
      obtain ⟨n1, n2, n3, n4, n5, n6, n7, n8, n9, n10, n11, n12, n13, n14, n15⟩ := g
      unfold DefX.val at e
      simp only [Option.some.injEq, Prod.mk.injEq] at e
      obtain ⟨h1, h2, h3, h4, h5, h6, h7, h8⟩ := e
      subst h1 h2 h3 h4 h5 h6 h7 h8
      obtain ⟨k1, k2⟩ := He.ba c2
      exact ⟨_, ⟨oc, od, n8, n9, n10, n11, n12, n13, n14, osl, rfl, q, k1, He.dflB_ok k2, Or.inl rfl⟩, kp⟩
    | _ => cases c2
abbrev AlX : Type := Bool × List He.FnW
def obsX (fa : List He.Fa) (fn : List DefX) (ex : PySem.W.Frag → Bool) (K : PySem.W.Frag) : AlX := (ex K && ((fa.all fun f => f.ok K) && fn.all fun d => d.ok K), fn.map fun d => d.obs K)
def valX (fn : List DefX) : AlX := (true, fn.map DefX.val)
def SaysX (fa : List He.Fa) (fn : List DefX) (ex : PySem.W.Frag → Bool) (K : PySem.W.Frag) : Prop := obsX fa fn ex K = valX fn
def obsXG (n : Nat) (fa : List He.Fa) (fn : List DefX) (ex : PySem.W.Frag → Bool) (g : Addr → Option Obj) : AlX := obsX fa fn ex (He.frG g (He.asD g n))
def hookX (n : Nat) (fa : List He.Fa) (fn : List DefX) (ex : PySem.W.Frag → Bool) : PySem.W.Hook where
  α := AlX
  obs := fun s => obsXG n fa fn ex s.heap.get?
  val := fun _ => valX fn
  says := fun _ h => ∃ K : PySem.W.Frag, K.In h ∧ SaysX fa fn ex K
  of := fun _ _ e => ⟨_, He.frG_in, e⟩
  keeps := fun _ _ _ ⟨K, hK, c⟩ k => ⟨K, PySem.W.Frag.In.keeps hK k, c⟩
theorem obsXG_eq {n : Nat} {fa : List He.Fa} {fn : List DefX} {ex : PySem.W.Frag → Bool} {g : Addr → Option Obj} {s : Shared} (h : ∀ a, g a = s.heap.get? a) : obsXG n fa fn ex g = (hookX n fa fn ex).obs s := by
  have e : g = s.heap.get? := funext h
  rw [e] <;> rfl
section
variable {fa : List He.Fa} {fn : List DefX} {ex : PySem.W.Frag → Bool} {K : PySem.W.Frag}
theorem SaysX.all (c : SaysX fa fn ex K) : ex K = true ∧ (fa.all fun f => f.ok K) = true ∧ (fn.all fun d => d.ok K) = true := by
  have c0 : (ex K && ((fa.all fun f => f.ok K) && fn.all fun d => d.ok K)) = true := congrArg (fun z : AlX => z.1) c
  obtain ⟨c1, c2⟩ := He.ba c0
  obtain ⟨c3, c4⟩ := He.ba c2
  exact ⟨c1, c3, c4⟩
theorem SaysX.fact (c : SaysX fa fn ex K) (i : Nat) {f : He.Fa} (h : fa[i]? = some f) : f.ok K = true := List.all_eq_true.mp c.all.2.1 f (List.mem_of_getElem? h)
theorem SaysX.def_ (c : SaysX fa fn ex K) (i : Nat) {d : DefX} (h : fn[i]? = some d) : ∃ fd, FunD K d.name d.qual d.params d.body d.scope (d.dvs K) [] (d.adr K) fd := by
  have e : (fn.map fun d => d.obs K)[i]? = (fn.map DefX.val)[i]? := by rw [show (fn.map fun d => d.obs K) = fn.map DefX.val from congrArg (fun z : AlX => z.2) c]
  rw [List.getElem?_map, List.getElem?_map, h] at e
  exact DefX.funD (Option.some.inj e) (List.all_eq_true.mp c.all.2.2 d (List.mem_of_getElem? h))
end
/-! facts for that test: a property, an empty tuple -/
def getA (K : PySem.W.Frag) (cls f : Str) : Addr := match PySem.W.recIn K (He.ma K (He.ga K cls) f) "property" with
  | some (.ref g :: _) => g
  | _ => 0
def propB (K : PySem.W.Frag) (cls f : Str) : Bool := He.eqO (PySem.W.findIn K (.ref (He.ga K cls)) f) (some (some (.ref (He.ma K (He.ga K cls) f)))) && (He.eqO (PySem.W.specialIn K (.ref (He.ma K (He.ga K cls) f)) "__get__") (some (some (.builtin "property.__get__"))) &&
  (decide (PySem.W.takesIn K (.ref (He.ma K (He.ga K cls) f)) = some true) && (match PySem.W.recIn K (He.ma K (He.ga K cls) f) "property" with
    | some (.ref _ :: _) => true
    | _ => false)))
theorem propB_ok {K : PySem.W.Frag} {cls f : Str} (h : propB K cls f = true) : PropOf K (He.ga K cls) f (He.ma K (He.ga K cls) f) (getA K cls f) := by
  unfold propB at h
  simp only [Bool.and_eq_true] at h
  obtain ⟨h1, h2, h3, h4⟩ := h
  refine ⟨He.eqO_ok h1, He.eqO_ok h2, of_decide_eq_true h3, ?_⟩
  unfold getA
  cases q : PySem.W.recIn K (He.ma K (He.ga K cls) f) "property" with
  | none => rw [q] at h4; cases h4
  | some l =>
    rw [q] at h4
    cases l with
    | nil => cases h4
    | cons v r =>
      cases v with
      | ref g => exact ⟨r, rfl⟩
      | _ => cases h4
def nilTB (K : PySem.W.Frag) (a : Addr) : Bool := match K.lookup a with
  | some ⟨.type c, _, .seq its _, _⟩ => decide (c = "tuple") && decide (its.toList.length = 0)
  | _ => false
theorem nilTB_ok {K : PySem.W.Frag} {a : Addr} (h : nilTB K a = true) (H : Hp) : Rp K H (.ref a) (.tup []) := by
  unfold nilTB at h
  cases q : K.lookup a with
  | none => rw [q] at h; cases h
  | some o =>
    obtain ⟨oc, od, dt, osl⟩ := o
    rw [q] at h
    cases oc with
    | type c =>
      cases dt with
      | seq its n =>
        obtain ⟨h1, h2⟩ := He.ba h
        have e2 : its.toList = [] := List.eq_nil_of_length_eq_zero (of_decide_eq_true h2)
        refine .tup (xs := []) (Or.inr ⟨_, its, n, q, congrArg Value.type (of_decide_eq_true h1), rfl, ?_, by rw [e2]; exact .nil⟩) .nil
        have : its.size = its.toList.length := by simp
        rw [this, e2]
        exact Nat.zero_le _
      | _ => cases h
    | _ => cases dt <;> cases h
/-! property by its promise -/
structure Prp (P : Program) (w : World) (K : PySem.W.Frag) (mg : Str → Option Value) (base : Heap) (k : Nat) (C : Addr) (f : Str) (sp : Sp) : Prop where
  ex : ∃ (p g : Addr) (fd : FuncData) (ps : List Str), Cls K C ∧ PropOf K C f p g ∧ FnOk P w K mg base CX0 k g fd ps sp ∧ Binds K fd ps []
theorem pe_propC {X : Cx} {k j : Nat} {C : Addr} {f : Str} {sp : Sp} {e : Expr} {ta : TE} {pos : Pos} (c : Prp X.prog X.w X.K X.mg X.base k C f sp) (hr : Room j X.A) (hk : k + 1 ≤ j) (he : PE X e ta)
    (hab : attributeBase e f X.env (eval e X.env) = eval e X.env := by rfl) : PE X (.Attribute e f pos) (tProp C sp [] E0 ta) := by
  obtain ⟨p, g, fd, ps, c1, c2, c3, c4⟩ := c.ex
  exact pe_prop he c1 c2 c3 (hr.mono hk) c4 .nil pass0 hab
/-! in -/
theorem hu65 {A : Around} {k : Nat} (hr : Room k A) : A.units + 65 < cLine := by have := hr.un; omega
section
variable {K : PySem.W.Frag} {σ : L2.St} {G : Hp} {S : List Addr} {ta tb : TE} {x : D} {ds : List D} {n m : Nat}
def D.inL (x : D) (ds : List D) : Bool := ds.any fun z => z.eq x
theorem any_py (x : D) (ds : List D) : ((pyL ds).any fun z => PyData.eqv z x.py) = D.inL x ds := by
  rw [pyL_map]
  unfold D.inL D.eq
  rw [List.any_map]
  rfl
theorem ev_inD (n m : Nat) (ha : Ev K ta σ G S x) (hb : Ev K tb σ G S (.lst ds)) (gx : good n x) (gy : good m (.lst ds)) (hn : n ≤ 64 := by decide) (hm : m ≤ 64 := by decide) : Ev K (tOp (rInD K) ta tb) σ G S (.bl (D.inL x ds)) := ev_op ha hb fun S H o u v ru rv Q q => by
  have h2 := Rp.dp m (.lst ds) v gy (hw rv)
  have h3 := good_shaped gy hm
  rw [D.py] at h2 h3
  refine ⟨x.py, pyL ds, Rp.dp n x u gx (hw ru), h2, good_shaped gx hn, h3, ?_⟩
  rw [any_py]
  exact q _ H (Ex.refl H) (.bl _)
theorem ev_notInD (n m : Nat) (ha : Ev K ta σ G S x) (hb : Ev K tb σ G S (.lst ds)) (gx : good n x) (gy : good m (.lst ds)) (hn : n ≤ 64 := by decide) (hm : m ≤ 64 := by decide) : Ev K (tOp (rNotInD K) ta tb) σ G S (.bl (!D.inL x ds)) := ev_op ha hb fun S H o u v ru rv Q q => by
  have h2 := Rp.dp m (.lst ds) v gy (hw rv)
  have h3 := good_shaped gy hm
  rw [D.py] at h2 h3
  refine ⟨x.py, pyL ds, Rp.dp n x u gx (hw ru), h2, good_shaped gx hn, h3, ?_⟩
  rw [any_py]
  exact q _ H (Ex.refl H) (.bl _)
/-- sum of a list of ints -/
theorem rc_sum {ns : List Int} : RC K (rSum K) [.lst (ns.map D.int)] (.int ns.sum) := fun S H o us rs Q q => by
  obtain ⟨u, rfl, ru⟩ := rs.one_inv
  obtain ⟨a, xs, rfl, h1, h2⟩ := ru.lst_inv
  rw [h2.ints] at h1
  exact ⟨a, ns, rfl, Or.inl (Or.inl (Hx.ex _ _ h1)), q _ H (Ex.refl H) (.int _)⟩
end
/-! zip of two lists, walked -/
section
variable {K : PySem.W.Frag} {σ : L2.St} {G : Hp} {S : List Addr} {ta : TA} {xs ys : List D}
theorem EvI.to {wi : TI} {ds es : List D} (h : EvI K wi σ G S ds) (e : ds = es) : EvI K wi σ G S es := e ▸ h
end
end Z


set_option Elab.async false
set_option linter.all false
set_option maxRecDepth 100000
set_option maxHeartbeats 2000000
namespace Z
open PySem L2 PySem.Spec PyProof.Rows
open Evl (Ex ex_l ex_t sz_of sz_lt fresh_back)
/-! ### zip of two lists, walked -/
def zipD (xs ys : List D) : List D := (xs.zip ys).map fun p => .tup [p.1, p.2]
def zip3D (xs ys zs : List D) : List D := (xs.zip (ys.zip zs)).map fun p => .tup [p.1, p.2.1, p.2.2]
section
variable {K : PySem.W.Frag} {σ : L2.St} {G : Hp} {S : List Addr} {ta : TA} {xs ys zs : List D}
theorem ei_zip (h : EvA K ta σ G S [.lst xs, .lst ys]) : EvI K (iZip K ta) σ G S (zipD xs ys) := fun H1 e o R q => h H1 e o _ fun vs H2 e2 rvs => by
  obtain ⟨u, v, rfl, ru, rv⟩ := rvs.two_inv
  obtain ⟨a, us, rfl, h1, h2⟩ := ru.lst_inv
  obtain ⟨b, ws, rfl, h3, h4⟩ := rv.lst_inv
  refine ⟨a, b, us, ws, rfl, Or.inl (Or.inl (Hx.ex _ _ h1)), Or.inl (Or.inl (Hx.ex _ _ h3)), q _ H2 e2 fun S' H e o => ?_⟩
  have k1 : SqL K H a us := Or.inl (Or.inl (Hx.ex _ _ (e _ _ h1)))
  have k3 : SqL K H b ws := Or.inl (Or.inl (Hx.ex _ _ (e _ _ h3)))
  refine ⟨fun i d hd => ?_, ⟨us, ws, k1, k3, ?_⟩⟩
  · unfold zipD at hd
    rw [List.getElem?_map] at hd
    cases q : (xs.zip ys)[i]? with
    | none => rw [q] at hd; cases hd
    | some p =>
      rw [q] at hd
      obtain ⟨hx, hy⟩ := List.getElem?_zip_eq_some.mp q
      obtain ⟨x, hx', rx⟩ := h2.get hx
      obtain ⟨y, hy', ry⟩ := h4.get hy
      have ed : D.tup [p.1, p.2] = d := Option.some.inj hd
      refine ⟨⟨us, ws, x, y, k1, k3, hx', hy'⟩, fun z H' hyl => ?_⟩
      obtain ⟨T, x', y', rfl, hT, rfl, e1, e2'⟩ := hyl
      have ex' : some x = some x' := hx'.symm.trans (e1 us k1)
      have ey' : some y = some y' := hy'.symm.trans (e2' ws k3)
      cases ex'
      cases ey'
      refine ⟨Evl.Ex.new hT, ?_⟩
      rw [← ed]
      exact .tup (Or.inl (Or.inl (Hx.at o hT))) (.cons ((rx.up e).up (Hx.new o hT)) (.cons ((ry.up e).up (Hx.new o hT)) .nil))
  · unfold zipD
    rw [List.length_map, List.length_zip, ← h2.len, ← h4.len]
    omega
end
/-! ### zip of three lists, walked -/
def It3 (K : PySem.W.Frag) (a b c : Addr) : It :=
  ⟨fun i H => ∃ (xs ys zs : List V) (x y z : V), SqL K H a xs ∧ SqL K H b ys ∧ SqL K H c zs ∧ xs[i]? = some x ∧ ys[i]? = some y ∧ zs[i]? = some z,
    fun i H v H' => ∃ T x y z, v = .ref T ∧ H T = none ∧ H' = upd H T (.tup [x, y, z]) ∧ (∀ xs, SqL K H a xs → xs[i]? = some x) ∧ (∀ ys, SqL K H b ys → ys[i]? = some y) ∧ ∀ zs, SqL K H c zs → zs[i]? = some z,
    fun i H => ∃ xs ys zs : List V, SqL K H a xs ∧ SqL K H b ys ∧ SqL K H c zs ∧ i ≤ xs.length ∧ i ≤ ys.length ∧ i ≤ zs.length ∧ (i = xs.length ∨ i = ys.length ∨ i = zs.length)⟩
theorem turn3 {P : Program} {w : World} {K : PySem.W.Frag} {elts : List Expr} {kk : Nat} {tpos : Pos} {a b c z TI TO i1 i2 i3 : Addr} (D : ZipSep3 z TI TO i1 i2 i3 [i1, a] [i2, b] [i3, c]) (n1 : a ≠ i1) (n2 : b ≠ i2) (n3 : c ≠ i3) :
    Turn P w K (.Tuple elts kk tpos) (It3 K a b c) [z, TI, TO, i1, i2, i3] z (fun i h => IsZip h z TI TO .none ∧ IsTupOf3 h TI (.ref i1) (.ref i2) (.ref i3) ∧ (∃ x y v, IsTupOf3 h TO x y v) ∧ h.IsListIter i1 a i ∧ h.IsListIter i2 b i ∧ h.IsListIter i3 c i) where
  mem := by simp
  obj := by
    rintro i h ⟨hz, hTI, ⟨x, y, v, hTO⟩, ⟨o1, e1, -, d1⟩, ⟨o2, e2, -, d2⟩, ⟨o3, e3, -, d3⟩⟩ g hg
    have e' : g = z ∨ g = TI ∨ g = TO ∨ g = i1 ∨ g = i2 ∨ g = i3 := by simpa using hg
    rcases e' with rfl | rfl | rfl | rfl | rfl | rfl
    · exact ⟨_, hz, fun v q => nomatch q⟩
    · exact ⟨_, hTI, fun v q => nomatch q⟩
    · exact ⟨_, hTO, fun v q => nomatch q⟩
    · exact ⟨o1, e1, fun v q => by rw [d1] at q; cases q⟩
    · exact ⟨o2, e2, fun v q => by rw [d2] at q; cases q⟩
    · exact ⟨o3, e3, fun v q => by rw [d3] at q; cases q⟩
  keep := by
    rintro i h h' ⟨hz, hTI, ⟨x, y, v, hTO⟩, h1, h2, h3⟩ k
    exact ⟨k z (by simp) _ hz, k TI (by simp) _ hTI, ⟨x, y, v, k TO (by simp) _ hTO⟩, h1.at fun o q => k i1 (by simp) o q, h2.at fun o q => k i2 (by simp) o q, h3.at fun o q => k i3 (by simp) o q⟩
  item := by
    intro X hP hw hK hc i pins s σ H E I hf st hg
    subst hP hw hK
    obtain ⟨hz, hTI, ⟨x0, y0, v0, hTO⟩, h1, h2, h3⟩ := st
    obtain ⟨xs, ys, zs, x, y, v, qx, qy, qz, hx, hy, hv⟩ := hg
    obtain ⟨j1, rv1, p1, _⟩ := I.list qx
    obtain ⟨j2, rv2, p2, _⟩ := I.list qy
    obtain ⟨j3, rv3, p3, _⟩ := I.list qz
    obtain ⟨u1, hu1, ru1⟩ := rv1.get hx
    obtain ⟨u2, hu2, ru2⟩ := rv2.get hy
    obtain ⟨u3, hu3, ru3⟩ := rv3.get hv
    have hh : X.A.in1.handled = none := I.ok.hd hc
    have lt : ∀ {l : List Value} {u : Value}, l[i]? = some u → i < l.toArray.size := fun {l u} h => by simpa using (List.getElem?_eq_some_iff.mp h).1
    have hzl : z < s.heap.objs.size := Heap.lt_size hz
    refine wpAny_pyNext_zipD3_item D (Draws.list hh i1 a n1 j1.toArray) (Draws.list hh i2 b n2 j2.toArray) (Draws.list hh i3 c n3 j3.toArray) hz hTI hTO ⟨h1, p1.isList⟩ ⟨h2, p2.isList⟩ ⟨h3, p3.isList⟩ (lt hu1) (lt hu2) (lt hu3) ?_
    intro x1 x2 x3 h' tk y1 y2 y3 b1 b2 d1 d2 d3 b5 b6 hk
    have eq : ∀ {l : List Value} {u q : Value}, l.toArray[i]? = some q → l[i]? = some u → q = u := fun {l u q} a b => by simpa [b] using a.symm
    obtain rfl := eq y1 hu1
    obtain rfl := eq y2 hu2
    obtain rfl := eq y3 hu3
    refine ⟨_, rfl, wpAny_letOwnedTupleGo_zip (s := { s with heap := h', toks := tk }) b1 fun h'' z'' sb => ?_⟩
    have hT2 : h''.get? s.heap.objs.size = some { cls := .type "tuple", data := .seq #[x1, x2, x3] } := (sb.2 _ (Nat.ne_of_gt hzl)).trans b5
    have new : ObjOk X.prog X.w (upd H s.heap.objs.size (.tup [x, y, v])) h'' s.heap.objs.size (.tup [x, y, v]) :=
      ⟨by show 3 ≤ sizeLine; decide, [x1, x2, x3], .cons ru1 (.cons ru2 (.cons ru3 .nil)), ⟨_, hT2, rfl, _, rfl⟩⟩
    have I1 : Inv X pins σ (upd H s.heap.objs.size (.tup [x, y, v])) { s with heap := h'', toks := tk } :=
      I.turnedNew (t' := tk) (ch := [z, TI, TO, i1, i2, i3]) (fun g o hb q => (sb.2 g (fun q' => hb (by simp [q']))).trans (hk g o (fun q' => hb (by simp [q'])) (fun q' => hb (by simp [q'])) (fun q' => hb (by simp [q'])) (fun q' => hb (by simp [q'])) (fun q' => hb (by simp [q'])) q)) hf (Nat.le_refl _) new
    refine ⟨.ref s.heap.objs.size, _, I1, rfl, ⟨_, x, y, v, rfl, I.hok.fresh (Nat.le_refl _), rfl, fun l hl => by rw [I.list_inj hl qx]; exact hx, fun l hl => by rw [I.list_inj hl qy]; exact hy, fun l hl => by rw [I.list_inj hl qz]; exact hv⟩, ⟨z'', ?_, ⟨x1, x2, x3, ?_⟩, ?_, ?_, ?_⟩, fun g hgm => ?_⟩
    · exact (sb.2 _ D.TIz).trans (hk _ _ D.TIz D.TITO D.TIi1 D.TIi2 D.TIi3 hTI)
    · exact (sb.2 _ D.TOz).trans b2
    · exact d1.1.at fun o q => (sb.2 _ D.zi1.symm).trans q
    · exact d2.1.at fun o q => (sb.2 _ D.zi2.symm).trans q
    · exact d3.1.at fun o q => (sb.2 _ D.zi3.symm).trans q
    · have hlt : g < s.heap.objs.size := by
        have e' : g = z ∨ g = TI ∨ g = TO ∨ g = i1 ∨ g = i2 ∨ g = i3 := by simpa using hgm
        rcases e' with rfl | rfl | rfl | rfl | rfl | rfl
        · exact hzl
        · exact Heap.lt_size hTI
        · exact Heap.lt_size hTO
        · obtain ⟨_, e1, _⟩ := h1; exact Heap.lt_size e1
        · obtain ⟨_, e2, _⟩ := h2; exact Heap.lt_size e2
        · obtain ⟨_, e3, _⟩ := h3; exact Heap.lt_size e3
      rw [upd_ne (Nat.ne_of_lt hlt)]
      exact (hf g hgm).1
  done := by
    intro X hP hw hK hc i pins s σ H E I hf st hg
    subst hP hw hK
    obtain ⟨hz, hTI, ⟨x0, y0, v0, hTO⟩, h1, h2, h3⟩ := st
    obtain ⟨xs, ys, zs, qx, qy, qz, l1, l2, l3, hend⟩ := hg
    obtain ⟨j1, rv1, p1, _⟩ := I.list qx
    obtain ⟨j2, rv2, p2, _⟩ := I.list qy
    obtain ⟨j3, rv3, p3, _⟩ := I.list qz
    have hh : X.A.in1.handled = none := I.ok.hd hc
    have m1 := rv1.length
    have m2 := rv2.length
    have m3 := rv3.length
    refine wpAny_pyNext_zipD3_end D (Draws.list hh i1 a n1 j1.toArray) (Draws.list hh i2 b n2 j2.toArray) (Draws.list hh i3 c n3 j3.toArray) hz hTI hTO ⟨h1, p1.isList⟩ ⟨h2, p2.isList⟩ ⟨h3, p3.isList⟩ (by simp; omega) (by simp; omega) (by simp; omega) (by simp; omega) ?_
    exact fun h' tk hk => ⟨rfl, I.turnedL (t' := tk) (ch := [z, TI, TO, i1, i2, i3]) (fun g o hb q => hk g o (fun q' => hb (by simp [q'])) (fun q' => hb (by simp [q'])) (fun q' => hb (by simp [q'])) (fun q' => hb (by simp [q'])) (fun q' => hb (by simp [q'])) q) hf⟩
  self := fun A i s Q E st h => wpAny_pyIter_zip st.1 h
def iZip3 (K : PySem.W.Frag) (ta : TA) : TI := fun σ H R => ta σ H fun vs H1 => ∃ a b c xs ys zs, vs = [.ref a, .ref b, .ref c] ∧ SqL K H1 a xs ∧ SqL K H1 b ys ∧ SqL K H1 c zs ∧ R (It3 K a b c) H1
theorem pi_zip3 {X : Cx} {e e2 e3 : Expr} {ta : TA} {p pos tpos : Pos} {elts : List Expr} {kk : Nat} (hg : Gl X "zip") (hm : X.mg "zip" = none) (ha : PA X [e, e2, e3] ta)
    (hs : starEach [e, e2, e3] X.env = (false, eval e X.env) :: starEach [e2, e3] X.env := by rfl) (hpl : (backTo pos (starEach [e2, e3] X.env)).any (·.1) = false := by rfl) :
    PI X (.Tuple elts kk tpos) (.Call (.Name "zip" p) [e, e2, e3] [] pos) (iZip3 X.K ta) := by
  constructor
  intro pins s σ H R I h
  refine Call_ (ld_blt I hg hm PyProof.Rows.boot_zip (PyProof.Rows.callWith_type1 (thn (ha.run pos pins s σ H _ I h) fun us s1 hh => ?_) hs hpl))
  obtain ⟨vs, H1, I1, r1, a, b, c, xs, ys, zs, ev, qx, qy, qz, q⟩ := hh
  subst ev
  cases r1 with
  | cons ra r1 =>
    cases r1 with
    | cons rb r1 =>
      cases r1 with
      | cons rc r1 =>
        cases r1
        cases ra
        cases rb
        cases rc
        obtain ⟨j1, rv1, p1, _⟩ := I1.list qx
        obtain ⟨j2, rv2, p2, _⟩ := I1.list qy
        obtain ⟨j3, rv3, p3, _⟩ := I1.list qz
        have la : a < s1.heap.objs.size := p1.lt
        have lb : b < s1.heap.objs.size := p2.lt
        have lc : c < s1.heap.objs.size := p3.lt
        refine zip_begins3 (begins_list a j1.toArray) (begins_list b j2.toArray) (begins_list c j3.toArray) p1.isList p2.isList p3.isList fun h' hz hTI hTO g1 g2 g3 hsz hk => wpAny_pyIter_zip hz ?_
        have I2 : Inv X pins σ H1 { s1 with heap := h' } := I1.kept (t' := s1.toks) hk
        have D := zip_sep3 (N := s1.heap.objs.size) (fp1 := [a]) (fp2 := [b]) (fp3 := [c]) (by simpa using la) (by simpa using lb) (by simpa using lc)
        refine ⟨s1.heap.objs.size + 5, [s1.heap.objs.size + 5, s1.heap.objs.size + 3, s1.heap.objs.size + 4, s1.heap.objs.size, s1.heap.objs.size + 1, s1.heap.objs.size + 2], _, _, H1, rfl, I2,
          turn3 D (Nat.ne_of_lt la) (Nat.ne_of_lt (Nat.lt_succ_of_lt lb)) (Nat.ne_of_lt (Nat.lt_succ_of_lt (Nat.lt_succ_of_lt lc))), ⟨hz, hTI, ⟨_, _, _, hTO⟩, ⟨_, g1, rfl, rfl⟩, ⟨_, g2, rfl, rfl⟩, ⟨_, g3, rfl, rfl⟩⟩, fun g hgm => ?_, q⟩
        have hle : s1.heap.objs.size ≤ g := by
          have e' : g = s1.heap.objs.size + 5 ∨ g = s1.heap.objs.size + 3 ∨ g = s1.heap.objs.size + 4 ∨ g = s1.heap.objs.size ∨ g = s1.heap.objs.size + 1 ∨ g = s1.heap.objs.size + 2 := by simpa using hgm
          rcases e' with rfl | rfl | rfl | rfl | rfl | rfl <;> first | exact Nat.le_refl _ | exact Nat.le_add_right _ _
        exact I1.fpOk hle (I1.hok.fresh hle)
section
variable {K : PySem.W.Frag} {σ : L2.St} {G : Hp} {S : List Addr} {ta : TA} {xs ys zs : List D}
theorem RpA.three_inv {H : Hp} {us : List V} {x y z : D} (h : RpA K H us [x, y, z]) : ∃ u v w, us = [u, v, w] ∧ Rp K H u x ∧ Rp K H v y ∧ Rp K H w z := by
  cases h with
  | cons h1 h2 => obtain ⟨v, w, rfl, h3, h4⟩ := RpA.two_inv h2; exact ⟨_, _, _, rfl, h1, h3, h4⟩
theorem ei_zip3 (h : EvA K ta σ G S [.lst xs, .lst ys, .lst zs]) : EvI K (iZip3 K ta) σ G S (zip3D xs ys zs) := fun H1 e o R q => h H1 e o _ fun vs H2 e2 rvs => by
  obtain ⟨u, v, w, rfl, ru, rv, rw'⟩ := rvs.three_inv
  obtain ⟨a, us, rfl, h1, h2⟩ := ru.lst_inv
  obtain ⟨b, ws, rfl, h3, h4⟩ := rv.lst_inv
  obtain ⟨c, ts, rfl, h5, h6⟩ := rw'.lst_inv
  refine ⟨a, b, c, us, ws, ts, rfl, Or.inl (Or.inl (Hx.ex _ _ h1)), Or.inl (Or.inl (Hx.ex _ _ h3)), Or.inl (Or.inl (Hx.ex _ _ h5)), q _ H2 e2 fun S' H e o => ?_⟩
  have k1 : SqL K H a us := Or.inl (Or.inl (Hx.ex _ _ (e _ _ h1)))
  have k3 : SqL K H b ws := Or.inl (Or.inl (Hx.ex _ _ (e _ _ h3)))
  have k5 : SqL K H c ts := Or.inl (Or.inl (Hx.ex _ _ (e _ _ h5)))
  have el : (zip3D xs ys zs).length = min us.length (min ws.length ts.length) := by
    unfold zip3D
    rw [List.length_map, List.length_zip, List.length_zip, ← h2.len, ← h4.len, ← h6.len]
  refine ⟨fun i d hd => ?_, ⟨us, ws, ts, k1, k3, k5, by omega, by omega, by omega, by omega⟩⟩
  unfold zip3D at hd
  rw [List.getElem?_map] at hd
  cases q : (xs.zip (ys.zip zs))[i]? with
  | none => rw [q] at hd; cases hd
  | some p =>
    rw [q] at hd
    obtain ⟨hx, hyz⟩ := List.getElem?_zip_eq_some.mp q
    obtain ⟨hy, hz⟩ := List.getElem?_zip_eq_some.mp hyz
    obtain ⟨x, hx', rx⟩ := h2.get hx
    obtain ⟨y, hy', ry⟩ := h4.get hy
    obtain ⟨z, hz', rz⟩ := h6.get hz
    have ed : D.tup [p.1, p.2.1, p.2.2] = d := Option.some.inj hd
    refine ⟨⟨us, ws, ts, x, y, z, k1, k3, k5, hx', hy', hz'⟩, fun g H' hyl => ?_⟩
    obtain ⟨T, x', y', z', rfl, hT, rfl, e1, e2', e3'⟩ := hyl
    have ex' : some x = some x' := hx'.symm.trans (e1 us k1)
    have ey' : some y = some y' := hy'.symm.trans (e2' ws k3)
    have ez' : some z = some z' := hz'.symm.trans (e3' ts k5)
    cases ex'
    cases ey'
    cases ez'
    refine ⟨Evl.Ex.new hT, ?_⟩
    rw [← ed]
    exact .tup (Or.inl (Or.inl (Hx.at o hT))) (.cons ((rx.up e).up (Hx.new o hT)) (.cons ((ry.up e).up (Hx.new o hT)) (.cons ((rz.up e).up (Hx.new o hT)) .nil)))
end
end Z


set_option Elab.async false
set_option linter.all false
set_option maxRecDepth 100000
set_option maxHeartbeats 2000000
namespace Z
open PySem PyProof.Rows
/-! ### list(zip(xs, ys)): the tuples that zip hands out are kept -/
abbrev ZipOut (h : Heap) (z TI TO T : Addr) (f : Bool) : Prop :=
  h.get? z = some { cls := .type "zip", dict := none, data := .fields #[rawInt T, .bool f, .bool false, .ref TI, .ref TO], slots := #[] }
section
variable {prog : Program} {w : World} {A : Around} {E : Value → Shared → Prop} {s : Shared} {z TI TO i1 i2 l1 l2 T : Addr} {k1 k2 : Nat} {xs ys : Array Value} {x y a b : Value} {f : Bool} {oT : Obj}
theorem zout_item {Q : Value → Shared → Prop} (D : ZipApart z TI TO i1 i2 l1 l2) (hz : ZipOut s.heap z TI TO T f) (hT : s.heap.get? T = some oT) (hTI : IsPair s.heap TI (.ref i1) (.ref i2))
    (h1 : s.heap.IsListIter i1 l1 k1) (h2 : s.heap.IsListIter i2 l2 k2) (hl1 : s.heap.IsList l1 xs) (hl2 : s.heap.IsList l2 ys) (hx : xs[k1]? = some x) (hy : ys[k2]? = some y)
    (hQ : ∀ h', ZipOut h' z TI TO T true → h'.IsListIter i1 l1 (k1 + 1) → h'.IsListIter i2 l2 (k2 + 1) → IsPair h' s.heap.objs.size x y → h'.objs.size = s.heap.objs.size + 1 →
      (∀ c o, c ≠ z → c ≠ i1 → c ≠ i2 → s.heap.get? c = some o → h'.get? c = some o) → Q (.ref s.heap.objs.size) { s with heap := h' }) :
    wpAny (model prog w) A (Builtin.«zip.__next__» ⟨[.ref z], []⟩) (fun fin s' => ∃ v, fin = .done (.ret v) ∧ Q v s') E s := by
  show wpAny _ _ (field (.ref z) 2 >>= _) _ _ _
  refine wpAny_bind (wpAny_field hz rfl (x := .bool false) rfl ?_)
  show wpAny _ _ (field (.ref z) 3 >>= _) _ _ _
  refine wpAny_bind (wpAny_field hz rfl (x := .ref TI) rfl ?_)
  refine wpAny_bind (wpAny_seqItems hTI rfl ?_)
  show wpAny _ _ (Builtin.SmallTypes.ownedTupleIsFree (.ref z) >>= _) _ _ _
  have free : ∀ {Q' : Bool → Shared → Prop}, (∀ h', ZipOut h' z TI TO T true → Heap.SameBut z s.heap h' → Q' false { s with heap := h' }) → wpAny (model prog w) A (Builtin.SmallTypes.ownedTupleIsFree (.ref z)) Q' E s := by
    intro Q' q
    unfold Builtin.SmallTypes.ownedTupleIsFree
    refine wpAny_bind (wpAny_field hz rfl (x := rawInt T) rfl ?_)
    show wpAny _ _ (loadIfAlive ((T : Int).toNat) >>= _) _ _ _
    rw [Int.toNat_natCast]
    refine wpAny_bind (PySem.W.kdx_alive hT ?_)
    simp only [Option.isNone_some, Bool.false_eq_true, if_false]
    refine wpAny_bind (wpAny_field hz rfl (x := .bool f) rfl ?_)
    cases f with
    | true =>
      rw [if_neg (by decide)]
      exact wpAny_pure (q s.heap hz (Heap.SameBut.refl _ _))
    | false =>
      rw [if_pos (by decide)]
      exact wpAny_bind (wpAny_setField_rec hz (by simp) fun h' hz' hs' => wpAny_pure (q h' hz' hs'))
  refine wpAny_bind (free fun h₁ hz₁ hs₁ => ?_)
  simp only [Bool.false_eq_true, if_false, ← Array.forIn_toList, List.toList_toArray, List.forIn_cons, List.forIn_nil]
  refine wpAny_bind (wpAny_bind (wpAny_bind (wpAny_holding ?_)))
  show wpAny _ _ (Builtin.SmallTypes.nextOf (.ref i1) >>= _) _ _ _
  refine wpAny_bind (wpAny_nextOf_list_item (h1.extBut hs₁.extBut D.i1z) (hl1.extBut hs₁.extBut D.l1z) hx fun h₂ h1₂ hs₂ => wpAny_pure ?_)
  refine wpAny_pure (wpAny_bind (wpAny_bind (wpAny_holding ?_)))
  show wpAny _ _ (Builtin.SmallTypes.nextOf (.ref i2) >>= _) _ _ _
  refine wpAny_bind (wpAny_nextOf_list_item ((h2.extBut hs₁.extBut D.i2z).extBut hs₂.extBut D.i12.symm) ((hl2.extBut hs₁.extBut D.l2z).extBut hs₂.extBut D.l2i1) hy fun h₃ h2₃ hs₃ => wpAny_pure ?_)
  refine wpAny_pure (wpAny_pure ?_)
  refine wpAny_bind (wpAny_newTuple (hsz := by show 2 ≤ sizeLine; decide) (wpAny_pure ⟨_, rfl, ?_⟩))
  have hsz : h₃.objs.size = s.heap.objs.size := by rw [hs₃.1, hs₂.1, hs₁.1]
  have up : ∀ c o, h₃.get? c = some o → (h₃.push { cls := .type "tuple", data := .seq #[x, y] }).get? c = some o := fun c o e => Heap.get?_push_of_some _ e
  have hT3 : IsPair (h₃.push { cls := .type "tuple", data := .seq #[x, y] }) h₃.objs.size x y := Heap.get?_push_size _ rfl
  rw [hsz] at hT3
  show Q (.ref h₃.objs.size) _
  rw [hsz]
  refine hQ _ (up _ _ (hs₃.extBut _ _ D.i2z.symm (hs₂.extBut _ _ D.i1z.symm hz₁))) ((h1₂.extBut hs₃.extBut D.i12).at fun o e => up _ o e) (h2₃.at fun o e => up _ o e) hT3 (by rw [Heap.size_push, hsz]) fun c o c1 c2 c3 e => up _ _ (hs₃.extBut _ _ c3 (hs₂.extBut _ _ c2 (hs₁.extBut _ _ c1 e)))
theorem zout_end {Q : PySem.Fin → Shared → Prop} (hh : A.handled = none) (D : ZipApart z TI TO i1 i2 l1 l2) (hz : ZipOut s.heap z TI TO T f) (hT : s.heap.get? T = some oT) (hTI : IsPair s.heap TI (.ref i1) (.ref i2))
    (h1 : s.heap.IsListIter i1 l1 k1) (h2 : s.heap.IsListIter i2 l2 k2) (hl1 : s.heap.IsList l1 xs) (hl2 : s.heap.IsList l2 ys) (hend : xs[k1]? = none ∨ ys[k2]? = none)
    (hE : ∀ h' e, (∀ c o, c ≠ z → c ≠ i1 → c ≠ i2 → s.heap.get? c = some o → h'.get? c = some o) → (∃ o, h'.get? e = some o ∧ o.cls = .type "StopIteration") → E (.ref e) { s with heap := h' }) :
    wpAny (model prog w) A (Builtin.«zip.__next__» ⟨[.ref z], []⟩) Q E s := by
  show wpAny _ _ (field (.ref z) 2 >>= _) _ _ _
  refine wpAny_bind (wpAny_field hz rfl (x := .bool false) rfl ?_)
  show wpAny _ _ (field (.ref z) 3 >>= _) _ _ _
  refine wpAny_bind (wpAny_field hz rfl (x := .ref TI) rfl ?_)
  refine wpAny_bind (wpAny_seqItems hTI rfl ?_)
  show wpAny _ _ (Builtin.SmallTypes.ownedTupleIsFree (.ref z) >>= _) _ _ _
  have free : ∀ {Q' : Bool → Shared → Prop}, (∀ h', ZipOut h' z TI TO T true → Heap.SameBut z s.heap h' → Q' false { s with heap := h' }) → wpAny (model prog w) A (Builtin.SmallTypes.ownedTupleIsFree (.ref z)) Q' E s := by
    intro Q' q
    unfold Builtin.SmallTypes.ownedTupleIsFree
    refine wpAny_bind (wpAny_field hz rfl (x := rawInt T) rfl ?_)
    show wpAny _ _ (loadIfAlive ((T : Int).toNat) >>= _) _ _ _
    rw [Int.toNat_natCast]
    refine wpAny_bind (PySem.W.kdx_alive hT ?_)
    simp only [Option.isNone_some, Bool.false_eq_true, if_false]
    refine wpAny_bind (wpAny_field hz rfl (x := .bool f) rfl ?_)
    cases f with
    | true =>
      rw [if_neg (by decide)]
      exact wpAny_pure (q s.heap hz (Heap.SameBut.refl _ _))
    | false =>
      rw [if_pos (by decide)]
      exact wpAny_bind (wpAny_setField_rec hz (by simp) fun h' hz' hs' => wpAny_pure (q h' hz' hs'))
  refine wpAny_bind (free fun h₁ hz₁ hs₁ => ?_)
  simp only [Bool.false_eq_true, if_false, ← Array.forIn_toList, List.toList_toArray, List.forIn_cons, List.forIn_nil]
  refine wpAny_bind (wpAny_bind (wpAny_bind (wpAny_holding ?_)))
  show wpAny _ _ (Builtin.SmallTypes.nextOf (.ref i1) >>= _) _ _ _
  cases hx : xs[k1]? with
  | none =>
    refine wpAny_bind (wpAny_nextOf_list_end hh (h1.extBut hs₁.extBut D.i1z) (hl1.extBut hs₁.extBut D.l1z) hx fun h₂ e hs₂ he => ?_)
    exact hE h₂ e (fun c o c1 c2 _ q => hs₂ _ _ c2 (hs₁.extBut _ _ c1 q)) he
  | some x =>
    have hy : ys[k2]? = none := by
      rcases hend with q | q
      · rw [hx] at q; cases q
      · exact q
    refine wpAny_bind (wpAny_nextOf_list_item (h1.extBut hs₁.extBut D.i1z) (hl1.extBut hs₁.extBut D.l1z) hx fun h₂ h1₂ hs₂ => wpAny_pure ?_)
    refine wpAny_pure (wpAny_bind (wpAny_bind (wpAny_holding ?_)))
    show wpAny _ _ (Builtin.SmallTypes.nextOf (.ref i2) >>= _) _ _ _
    refine wpAny_bind (wpAny_nextOf_list_end hh ((h2.extBut hs₁.extBut D.i2z).extBut hs₂.extBut D.i12.symm) ((hl2.extBut hs₁.extBut D.l2z).extBut hs₂.extBut D.l2i1) hy fun h₃ e hs₃ he => ?_)
    exact hE h₃ e (fun c o c1 c2 c3 q => hs₃ _ _ c3 (hs₂.extBut _ _ c2 (hs₁.extBut _ _ c1 q))) he
theorem znext_out {Q : Option Value → Shared → Prop} (D : ZipApart z TI TO i1 i2 l1 l2) (hz : ZipOut s.heap z TI TO T f) (hT : s.heap.get? T = some oT) (hTI : IsPair s.heap TI (.ref i1) (.ref i2))
    (h1 : s.heap.IsListIter i1 l1 k1) (h2 : s.heap.IsListIter i2 l2 k2) (hl1 : s.heap.IsList l1 xs) (hl2 : s.heap.IsList l2 ys) (hx : xs[k1]? = some x) (hy : ys[k2]? = some y)
    (hQ : ∀ h', ZipOut h' z TI TO T true → h'.IsListIter i1 l1 (k1 + 1) → h'.IsListIter i2 l2 (k2 + 1) → IsPair h' s.heap.objs.size x y → h'.objs.size = s.heap.objs.size + 1 →
      (∀ c o, c ≠ z → c ≠ i1 → c ≠ i2 → s.heap.get? c = some o → h'.get? c = some o) → Q (some (.ref s.heap.objs.size)) { s with heap := h' }) : wpAny (model prog w) A (pyNext (.ref z)) Q E s := by
  have hty : s.TypeIs (.ref z) "zip" := ⟨_, hz, rfl⟩
  unfold pyNext
  refine wpAny_bind (wpAny_attempt (wpAny_callSpecial?_slot (name := Str.ofString "__next__") hty F.slot_zip_next (wpAny_call_entry F.slot_zip_next hty F.entry_zip_next ?_ (F.args_zip_next_1 _))))
  exact zout_item D hz hT hTI h1 h2 hl1 hl2 hx hy fun h' a1 a2 a3 a4 a5 a6 => wpAny_pure (hQ h' a1 a2 a3 a4 a5 a6)
theorem znext_outEnd {Q : Option Value → Shared → Prop} (hh : A.handled = none) (D : ZipApart z TI TO i1 i2 l1 l2) (hz : ZipOut s.heap z TI TO T f) (hT : s.heap.get? T = some oT) (hTI : IsPair s.heap TI (.ref i1) (.ref i2))
    (h1 : s.heap.IsListIter i1 l1 k1) (h2 : s.heap.IsListIter i2 l2 k2) (hl1 : s.heap.IsList l1 xs) (hl2 : s.heap.IsList l2 ys) (hend : xs[k1]? = none ∨ ys[k2]? = none)
    (hQ : ∀ h', (∀ c o, c ≠ z → c ≠ i1 → c ≠ i2 → s.heap.get? c = some o → h'.get? c = some o) → Q none { s with heap := h' }) : wpAny (model prog w) A (pyNext (.ref z)) Q E s := by
  have hty : s.TypeIs (.ref z) "zip" := ⟨_, hz, rfl⟩
  unfold pyNext
  refine wpAny_bind (wpAny_attempt (wpAny_callSpecial?_slot (name := Str.ofString "__next__") hty F.slot_zip_next (wpAny_call_entry F.slot_zip_next hty F.entry_zip_next ?_ (F.args_zip_next_1 _))))
  refine zout_end hh D hz hT hTI h1 h2 hl1 hl2 hend fun h' e hk he => ?_
  obtain ⟨o, ho, hc⟩ := he
  exact wpAny_bind (wpAny_isInstance (T := "StopIteration") (b := true) ⟨o, ho, hc⟩ isSubtype_stop (wpAny_pure (hQ _ hk)))
end
/-- the zip behind i turns of list(..), the list at S -/
structure ZS (h : Heap) (z TI TO i1 i2 l1 l2 S : Addr) (xs ys : Array Value) (i : Nat) : Prop where
  zip : (i = 0 ∧ IsZip h z TI TO .none) ∨ ∃ T f oT, ZipOut h z TI TO T f ∧ h.get? T = some oT ∧ T ≠ z ∧ T ≠ S ∧ T ≠ i1 ∧ T ≠ i2 ∧ T ≠ TO
  pr : IsPair h TI (.ref i1) (.ref i2)
  out : ∃ a b, IsPair h TO a b
  it1 : h.IsListIter i1 l1 i
  it2 : h.IsListIter i2 l2 i
  L1 : h.IsList l1 xs
  L2 : h.IsList l2 ys
structure ZG (xs ys : Array Value) (lo : Addr) (h : Heap) (as : List Addr) : Prop where
  rise : as.Pairwise (· < ·)
  above : ∀ a ∈ as, lo < a
  pairs : ∀ (j : Nat) (a : Addr), as[j]? = some a → ∃ x y, xs[j]? = some x ∧ ys[j]? = some y ∧ IsPair h a x y
structure ZO (z TI TO i1 i2 l1 l2 S : Addr) : Prop where
  D : ZipApart z TI TO i1 i2 l1 l2
  Sz : S ≠ z
  STI : S ≠ TI
  STO : S ≠ TO
  Si1 : S ≠ i1
  Si2 : S ≠ i2
  Sl1 : S ≠ l1
  Sl2 : S ≠ l2
section
variable {prog : Program} {w : World} {A : Around} {E : Value → Shared → Prop} {s : Shared} {z TI TO i1 i2 l1 l2 S : Addr} {i : Nat} {xs ys : Array Value} {x y : Value}
theorem ZS.keep {h h' : Heap} (O : ZO z TI TO i1 i2 l1 l2 S) (st : ZS h z TI TO i1 i2 l1 l2 S xs ys i) (k : ∀ b o, b ≠ S → h.get? b = some o → h'.get? b = some o) : ZS h' z TI TO i1 i2 l1 l2 S xs ys i where
  zip := by
    rcases st.zip with ⟨e, q⟩ | ⟨T, f, oT, q, r, r1, r2, r3, r4, r5⟩
    · exact Or.inl ⟨e, k _ _ O.Sz.symm q⟩
    · exact Or.inr ⟨T, f, oT, k _ _ O.Sz.symm q, k _ _ r2 r, r1, r2, r3, r4, r5⟩
  pr := k _ _ O.STI.symm st.pr
  out := by obtain ⟨a, b, q⟩ := st.out; exact ⟨a, b, k _ _ O.STO.symm q⟩
  it1 := st.it1.at fun o e => k _ o O.Si1.symm e
  it2 := st.it2.at fun o e => k _ o O.Si2.symm e
  L1 := st.L1.at fun o e => k _ o O.Sl1.symm e
  L2 := st.L2.at fun o e => k _ o O.Sl2.symm e
theorem zs_item {Q : Option Value → Shared → Prop} (O : ZO z TI TO i1 i2 l1 l2 S) (st : ZS s.heap z TI TO i1 i2 l1 l2 S xs ys i) (hS : S < s.heap.objs.size) (hx : xs[i]? = some x) (hy : ys[i]? = some y)
    (hQ : ∀ h', ZS h' z TI TO i1 i2 l1 l2 S xs ys (i + 1) → IsPair h' s.heap.objs.size x y → h'.objs.size = s.heap.objs.size + 1 → (∀ c o, c ≠ z → c ≠ TO → c ≠ i1 → c ≠ i2 → s.heap.get? c = some o → h'.get? c = some o) → Q (some (.ref s.heap.objs.size)) { s with heap := h' }) :
    wpAny (model prog w) A (pyNext (.ref z)) Q E s := by
  have D := O.D
  obtain ⟨a, b, hTO⟩ := st.out
  have lt : ∀ {c o}, s.heap.get? c = some o → s.heap.objs.size ≠ c := fun e => Nat.ne_of_gt (Heap.lt_size e)
  have m1 : s.heap.objs.size ≠ i1 := by obtain ⟨_, e, _⟩ := st.it1; exact lt e
  have m2 : s.heap.objs.size ≠ i2 := by obtain ⟨_, e, _⟩ := st.it2; exact lt e
  rcases st.zip with ⟨rfl, q⟩ | ⟨T, f, oT, q, r, r1, r2, r3, r4, r5⟩
  · refine wpAny_pyNext_zip_item D q st.pr hTO st.it1 st.it2 st.L1 st.L2 hx hy fun h' z' TO' h1' h2' hT hsz hk => hQ h' ?_ hT hsz hk
    exact ⟨Or.inr ⟨_, false, _, z', hT, lt q, Nat.ne_of_gt hS, m1, m2, lt hTO⟩, hk _ _ D.TIz D.TITO D.TIi1 D.TIi2 st.pr, ⟨_, _, TO'⟩, h1', h2', st.L1.at fun o e => hk _ o D.l1z D.l1TO D.l1i1 D.l1i2 e, st.L2.at fun o e => hk _ o D.l2z D.l2TO D.l2i1 D.l2i2 e⟩
  · refine znext_out D q r st.pr st.it1 st.it2 st.L1 st.L2 hx hy fun h' z' h1' h2' hT hsz hk => hQ h' ?_ hT hsz fun c o c1 _ c3 c4 e => hk c o c1 c3 c4 e
    exact ⟨Or.inr ⟨T, true, oT, z', hk _ _ r1 r3 r4 r, r1, r2, r3, r4, r5⟩, hk _ _ D.TIz D.TIi1 D.TIi2 st.pr, ⟨a, b, hk _ _ D.TOz D.TOi1 D.TOi2 hTO⟩, h1', h2', st.L1.at fun o e => hk _ o D.l1z D.l1i1 D.l1i2 e, st.L2.at fun o e => hk _ o D.l2z D.l2i1 D.l2i2 e⟩
theorem zs_done {Q : Option Value → Shared → Prop} (hh : A.handled = none) (O : ZO z TI TO i1 i2 l1 l2 S) (st : ZS s.heap z TI TO i1 i2 l1 l2 S xs ys i) (hend : xs[i]? = none ∨ ys[i]? = none)
    (hQ : ∀ h', (∀ c o, c ≠ z → c ≠ TO → c ≠ i1 → c ≠ i2 → s.heap.get? c = some o → h'.get? c = some o) → Q none { s with heap := h' }) : wpAny (model prog w) A (pyNext (.ref z)) Q E s := by
  obtain ⟨a, b, hTO⟩ := st.out
  rcases st.zip with ⟨rfl, q⟩ | ⟨T, f, oT, q, r, r1, r2, r3, r4, r5⟩
  · exact wpAny_pyNext_zip_end hh O.D q st.pr hTO st.it1 st.it2 st.L1 st.L2 hend hQ
  · exact znext_outEnd hh O.D q r st.pr st.it1 st.it2 st.L1 st.L2 hend fun h' hk => hQ h' fun c o c1 _ c3 c4 e => hk c o c1 c3 c4 e
end
section
variable {prog : Program} {w : World} {A : Around} {s : Shared} {R : Result → Shared → Prop} {z TI TO i1 i2 l1 l2 S : Addr} {xs ys : Array Value}
theorem zl_loop (hh : A.handled = none) (O : ZO z TI TO i1 i2 l1 l2 S) (hzS : z < S) (hTS : TO < S) (h1S : i1 < S) (h2S : i2 < S) (res : Value) {n : Nat} (hn : n = min xs.size ys.size) (hn2 : n ≤ sizeLine) {h₁ : Heap}
    (hR : ∀ h' tk acc c as, (∀ b o, b ≠ S → b ≠ z → b ≠ TO → b ≠ i1 → b ≠ i2 → h₁.get? b = some o → h'.get? b = some o) → h'.get? S = some { cls := .type "list", dict := none, data := .seq acc c, slots := #[] } → as.length = n → ZG xs ys S h' as →
      acc.toList = as.map Value.ref → R (.ok (.ret res)) { s with heap := h', toks := tk }) :
    ∀ (k i : Nat) (h : Heap) (tk c : Nat) (acc : Array Value) (as : List Addr), n - i = k → i ≤ n → ZS h z TI TO i1 i2 l1 l2 S xs ys i → (∀ b o, b ≠ S → b ≠ z → b ≠ TO → b ≠ i1 → b ≠ i2 → h₁.get? b = some o → h.get? b = some o) →
      h.get? S = some { cls := .type "list", dict := none, data := .seq acc c, slots := #[] } → acc.toList = as.map Value.ref → as.length = i → ZG xs ys S h as →
      codeAny (model prog w) A (.builtin "list.extend.loop" ⟨[.ref S, .ref z, res], []⟩) R { s with heap := h, toks := tk } := by
  intro k
  induction k with
  | zero =>
    intro i h tk c acc as hk hi st hkeep hS hacc hal hG
    have hin : i = n := by omega
    refine codeAny_builtin PySem.F.entry_extend_loop ?_
    rw [Around.under_plainId PySem.F.plain_extend_loop _]
    show wpAny _ A.in1 (pyNext (.ref z) >>= _) _ _ _
    have hend : xs[i]? = none ∨ ys[i]? = none := by
      rw [Array.getElem?_eq_none_iff, Array.getElem?_eq_none_iff]
      omega
    refine wpAny_bind (zs_done (s := { s with heap := h, toks := tk }) (A := A.in1) hh O st hend fun h' he => wpAny_pure (hR h' tk acc c as (fun b o b0 b1 b2 b3 b4 e => he b o b1 b2 b3 b4 (hkeep b o b0 b1 b2 b3 b4 e)) (he S _ O.Sz O.STO O.Si1 O.Si2 hS) (by omega) ⟨hG.rise, hG.above, fun j a hj => ?_⟩ hacc))
    obtain ⟨x, y, e1, e2, e3⟩ := hG.pairs j a hj
    have ha := hG.above a (List.mem_of_getElem? hj)
    exact ⟨x, y, e1, e2, he a _ (Nat.ne_of_gt (Nat.lt_trans hzS ha)) (Nat.ne_of_gt (Nat.lt_trans hTS ha)) (Nat.ne_of_gt (Nat.lt_trans h1S ha)) (Nat.ne_of_gt (Nat.lt_trans h2S ha)) e3⟩
  | succ k ih =>
    intro i h tk c acc as hk hi st hkeep hS hacc hal hG
    have hsz : acc.size = i := by rw [← Array.length_toList, hacc, List.length_map, hal]
    have hSl : S < h.objs.size := Heap.lt_size hS
    obtain ⟨x, hx⟩ : ∃ x, xs[i]? = some x := ⟨xs[i]'(by omega), Array.getElem?_eq_getElem (by omega)⟩
    obtain ⟨y, hy⟩ : ∃ y, ys[i]? = some y := ⟨ys[i]'(by omega), Array.getElem?_eq_getElem (by omega)⟩
    refine codeAny_builtin PySem.F.entry_extend_loop ?_
    rw [Around.under_plainId PySem.F.plain_extend_loop _]
    show wpAny _ A.in1 (pyNext (.ref z) >>= _) _ _ _
    refine wpAny_bind (zs_item (s := { s with heap := h, toks := tk }) O st hSl hx hy fun h' st' ht hz hkp => ?_)
    dsimp only at ht hz hkp ⊢
    have hS' := hkp S _ O.Sz O.STO O.Si1 O.Si2 hS
    have up : ∀ b o, b ≠ S → h'.get? b = some o → (h'.update S (Obj.mapSeq (·.push (Value.ref h.objs.size)))).get? b = some o := fun b o hb e => (Heap.get?_update_other _ _ (Ne.symm hb)).trans e
    show wpAny _ A.in1 (updateSeq S (·.push (Value.ref h.objs.size)) >>= _) _ _ _
    refine wpAny_bind ?_
    refine wpAny_updateSeq hS' rfl (wpAny_pure ⟨plainId_quiet PySem.F.plain_extend_loop _, ih (i + 1) _ tk _ (acc.push (Value.ref h.objs.size)) (as ++ [h.objs.size]) (by omega) (by omega) (st'.keep O up)
      (fun b o b0 b1 b2 b3 b4 e => up b o b0 (hkp b o b1 b2 b3 b4 (hkeep b o b0 b1 b2 b3 b4 e))) (Heap.get?_update_self _ hS' rfl) (by rw [Array.toList_push, hacc, List.map_append]; rfl) (by rw [List.length_append, hal]; rfl) ⟨?_, ?_, ?_⟩⟩) (by rw [hsz]; omega) (by show (acc.push (Value.ref h.objs.size)).size ≤ sizeLine + 1; rw [Array.size_push, hsz]; omega)
    · refine List.pairwise_append.mpr ⟨hG.rise, List.pairwise_singleton _ _, fun a ha b hb => ?_⟩
      rw [List.mem_singleton.mp hb]
      obtain ⟨j, hj⟩ := List.mem_iff_getElem?.mp ha
      obtain ⟨_, _, _, _, e⟩ := hG.pairs j a hj
      exact Heap.lt_size e
    · intro a ha
      rcases List.mem_append.mp ha with ha | ha
      · exact hG.above a ha
      · rw [List.mem_singleton.mp ha]; exact hSl
    · intro j b hj
      rcases Nat.lt_trichotomy j as.length with q1 | q1 | q1
      · rw [List.getElem?_append_left q1] at hj
        obtain ⟨x', y', e1, e2, e3⟩ := hG.pairs j b hj
        have hb := hG.above b (List.mem_of_getElem? hj)
        exact ⟨x', y', e1, e2, up b _ (Nat.ne_of_gt hb) (hkp b _ (Nat.ne_of_gt (Nat.lt_trans hzS hb)) (Nat.ne_of_gt (Nat.lt_trans hTS hb)) (Nat.ne_of_gt (Nat.lt_trans h1S hb)) (Nat.ne_of_gt (Nat.lt_trans h2S hb)) e3)⟩
      · subst q1
        have hb : h.objs.size = b := by simpa using hj
        subst hb
        subst hal
        exact ⟨x, y, hx, hy, up _ _ (Nat.ne_of_gt hSl) ht⟩
      · have hnone : (as ++ [h.objs.size])[j]? = none := List.getElem?_eq_none (by rw [List.length_append, List.length_singleton]; omega)
        rw [hnone] at hj
        cases hj

end
theorem zl_nolen : typeLookup (.type "zip") "__len__" = pure none := by rw [typeLookup_type, builtinLookup_eq_fast]; kernel_rfl
theorem zl_nohint : typeLookup (.type "zip") "__length_hint__" = pure none := by rw [typeLookup_type, builtinLookup_eq_fast]; kernel_rfl
section
variable {prog : Program} {w : World} {A : Around} {E : Value → Shared → Prop} {s : Shared} {z TI TO i1 i2 l1 l2 S : Addr} {xs ys : Array Value}
theorem zl_hint {Q : Bool → Shared → Prop} (hT : s.TypeIs (.ref z) "zip") (h : Q true s) : wpAny (model prog w) A (Builtin.List.listLengthHint (.ref z)) Q E s := by
  unfold Builtin.List.listLengthHint
  refine wpAny_bind (wpAny_specialOf hT zl_nolen ?_)
  refine wpAny_ite_split (fun q => absurd q (by decide)) (fun _ => ?_)
  refine wpAny_ite_split (fun q => absurd q (by decide)) (fun _ => ?_)
  exact wpAny_bind (wpAny_specialOf hT zl_nohint (wpAny_pure h))
theorem zl_extend {R : Result → Shared → Prop} (hh : A.handled = none) (O : ZO z TI TO i1 i2 l1 l2 S) (hzS : z < S) (hTS : TO < S) (h1S : i1 < S) (h2S : i2 < S) (hz : IsZip s.heap z TI TO .none) (pr : IsPair s.heap TI (.ref i1) (.ref i2)) (out : ∃ a b, IsPair s.heap TO a b)
    (it1 : s.heap.IsListIter i1 l1 0) (it2 : s.heap.IsListIter i2 l2 0) (L1 : s.heap.IsList l1 xs) (L2 : s.heap.IsList l2 ys) (c₀ : Nat)
    (hS : s.heap.get? S = some { cls := .type "list", data := .seq #[] c₀ }) (hn2 : min xs.size ys.size ≤ sizeLine)
    (hR : ∀ h' tk acc c as, (∀ b o, b ≠ S → b ≠ z → b ≠ TO → b ≠ i1 → b ≠ i2 → s.heap.get? b = some o → h'.get? b = some o) → h'.get? S = some { cls := .type "list", dict := none, data := .seq acc c, slots := #[] } → as.length = min xs.size ys.size → ZG xs ys S h' as →
      acc.toList = as.map Value.ref → R (.ok (.ret .none)) { s with heap := h', toks := tk }) :
    wpAny (model prog w) A.in1 (Builtin.List.listExtendWith (.ref S) (.ref z) .none)
      (fun fin s' => match fin with | .done f => R (.ok f) s' | .again c' => c'.quiet = true ∧ codeAny (model prog w) A c' R s') (fun e s' => R (.error e) s') s := by
  have key : ∀ (h : Heap) (c₁ tk : Nat), (∀ b o, b ≠ S → s.heap.get? b = some o → h.get? b = some o) → h.get? S = some { cls := .type "list", data := .seq #[] c₁ } →
      codeAny (model prog w) A (.builtin "list.extend.loop" ⟨[.ref S, .ref z, .none], []⟩) R { s with heap := h, toks := tk } := by
    intro h c₁ tk hk hS₁
    have st : ZS s.heap z TI TO i1 i2 l1 l2 S xs ys 0 := ⟨Or.inl ⟨rfl, hz⟩, pr, out, it1, it2, L1, L2⟩
    exact zl_loop (s := s) (h₁ := s.heap) hh O hzS hTS h1S h2S .none rfl hn2 hR (min xs.size ys.size) 0 h tk c₁ #[] [] (Nat.sub_zero _) (Nat.zero_le _) (st.keep O hk) (fun b o b0 _ _ _ _ e => hk b o b0 e) hS₁ rfl rfl
      ⟨List.Pairwise.nil, (fun _ ha => nomatch ha), (fun j a hj => by simp at hj)⟩
  have hty : s.TypeIs (.ref z) "zip" := ⟨_, hz, rfl⟩
  unfold Builtin.List.listExtendWith
  refine wpAny_bind (wpAny_typeOf (T := "zip") hty ?_)
  have g1 : Builtin.List.listSameRef (.ref S) (.ref z) = false := by simp [Builtin.List.listSameRef, O.Sz]
  have g2 : (Value.type "zip" == Value.type "list") = false := by decide
  have g3 : (Value.type "zip" == Value.type "tuple") = false := by decide
  simp only [g1, g2, g3, Bool.or_false, Bool.false_eq_true, if_false]
  refine wpAny_bind (wpAny_pyIter_zip hz (wpAny_bind (wpAny_holding (zl_hint hty ?_))))
  refine wpAny_ite_split (fun _ => ?_) (fun q => absurd rfl q)
  refine wpAny_bind (wpAny_rule (wpAny_bind ?_))
  show wpAny _ _ (updateSeq S (·.push .none) >>= fun _ => updateSeq S (·.pop)) _ _ _
  refine wpAny_bind (wpAny_updateSeq hS rfl ?_)
  have hS₂ := Heap.get?_update_self (Obj.mapSeq (·.push Value.none)) hS rfl
  refine wpAny_updateSeq (hz := by seq_fits) hS₂ rfl ?_
  have hS₃ := Heap.get?_update_self (Obj.mapSeq (·.pop)) hS₂ rfl
  refine wpAny_pure ⟨plainId_quiet PySem.F.plain_extend_loop _, key _ _ _ (fun b o hb e => ?_) hS₃⟩
  exact (Heap.get?_update_other _ _ (Ne.symm hb)).trans ((Heap.get?_update_other _ _ (Ne.symm hb)).trans e)
/-- list(z), z a zip of two lists that has not been drawn from -/
theorem zl_call {Q : Value → Shared → Prop} (hh : A.handled = none) (D : ZipApart z TI TO i1 i2 l1 l2) (hz : IsZip s.heap z TI TO .none) (pr : IsPair s.heap TI (.ref i1) (.ref i2)) (out : ∃ a b, IsPair s.heap TO a b)
    (it1 : s.heap.IsListIter i1 l1 0) (it2 : s.heap.IsListIter i2 l2 0) (L1 : s.heap.IsList l1 xs) (L2 : s.heap.IsList l2 ys) (hn2 : min xs.size ys.size ≤ sizeLine)
    (hQ : ∀ h' tk acc c as, (∀ b o, b ≠ z → b ≠ TO → b ≠ i1 → b ≠ i2 → s.heap.get? b = some o → h'.get? b = some o) → h'.get? s.heap.objs.size = some { cls := .type "list", dict := none, data := .seq acc c, slots := #[] } → as.length = min xs.size ys.size → ZG xs ys s.heap.objs.size h' as →
      acc.toList = as.map Value.ref → Q (.ref s.heap.objs.size) { s with heap := h', toks := tk }) :
    wpAny (model prog w) A (call (.type "list") [.ref z]) Q E s := by
  refine callType_codes (Q₁ := fun obj s₁ => obj = .ref s.heap.objs.size ∧ s₁ = { s with heap := s.heap.push { cls := .type "list", data := .seq #[] } }) PySem.F.called_list (PySem.F.typeCall_list_1 _) PySem.F.entry_list_init (code_list_new _ ⟨rfl, rfl⟩) ?_
  rintro obj s₁ ⟨rfl, rfl⟩
  have hS : (s.heap.push { cls := .type "list", data := .seq #[] }).get? s.heap.objs.size = some { cls := .type "list", data := .seq #[] } := Heap.get?_push_size _ rfl
  have lt : ∀ {c o}, s.heap.get? c = some o → c < s.heap.objs.size := fun e => Heap.lt_size e
  obtain ⟨a, b, hTO⟩ := out
  have lz := lt hz
  have lTO := lt hTO
  have l1' : i1 < s.heap.objs.size := by obtain ⟨_, e, _⟩ := it1; exact lt e
  have l2' : i2 < s.heap.objs.size := by obtain ⟨_, e, _⟩ := it2; exact lt e
  have ll1 : l1 < s.heap.objs.size := by obtain ⟨_, e, _⟩ := L1; exact lt e
  have ll2 : l2 < s.heap.objs.size := by obtain ⟨_, e, _⟩ := L2; exact lt e
  have O : ZO z TI TO i1 i2 l1 l2 s.heap.objs.size := ⟨D, Nat.ne_of_gt lz, Nat.ne_of_gt (lt pr), Nat.ne_of_gt lTO, Nat.ne_of_gt l1', Nat.ne_of_gt l2', Nat.ne_of_gt ll1, Nat.ne_of_gt ll2⟩
  refine ⟨⟨_, hS, rfl⟩, PySem.F.args_list_init_2 _ _, ?_⟩
  show wpAny _ _ (do let old ← Builtin.List.listItems (.ref s.heap.objs.size); Builtin.List.listUpdate (.ref s.heap.objs.size) (fun _ => #[]); letGo old.toList.reverse; Builtin.List.listExtendWith (.ref s.heap.objs.size) (.ref z) .none) _ _ _
  refine wpAny_bind ?_
  unfold Builtin.List.listItems
  refine wpAny_bind (wpAny_seqItems hS rfl (wpAny_pure ?_))
  show wpAny _ _ (updateSeq s.heap.objs.size (fun _ => #[]) >>= fun _ => letGo (#[] : Array Value).toList.reverse >>= fun _ => Builtin.List.listExtendWith (.ref s.heap.objs.size) (.ref z) .none) _ _ _
  refine wpAny_bind (wpAny_updateSeq hS rfl ?_)
  have hS₂ := Heap.get?_update_self (Obj.mapSeq (fun _ => (#[] : Array Value))) hS rfl
  have oth : ∀ b o, b ≠ s.heap.objs.size → s.heap.get? b = some o → ((s.heap.push { cls := .type "list", data := .seq #[] }).update s.heap.objs.size (Obj.mapSeq (fun _ => (#[] : Array Value)))).get? b = some o :=
    fun b o hb e => (Heap.get?_update_other _ _ (Ne.symm hb)).trans (Heap.get?_push_of_some _ e)
  have oth' : ∀ b o, s.heap.get? b = some o → ((s.heap.push { cls := .type "list", data := .seq #[] }).update s.heap.objs.size (Obj.mapSeq (fun _ => (#[] : Array Value)))).get? b = some o := fun b o e => oth b o (Nat.ne_of_lt (Heap.lt_size e)) e
  refine wpAny_bind (wpAny_letGo ?_)
  refine zl_extend (A := A.in1) hh O lz lTO l1' l2' (oth' _ _ hz) (oth' _ _ pr) ⟨a, b, oth' _ _ hTO⟩ (it1.at fun o e => oth' _ o e) (it2.at fun o e => oth' _ o e) (L1.at fun o e => oth' _ o e) (L2.at fun o e => oth' _ o e) _ hS₂ hn2 fun h' tk acc c as hk hS' hl hG hacc => ?_
  exact ⟨rfl, hQ h' tk acc c as (fun b' o c1 c2 c3 c4 e => hk b' o (Nat.ne_of_lt (Heap.lt_size e)) c1 c2 c3 c4 (oth' _ _ e)) hS' hl hG hacc⟩
end
end Z


set_option Elab.async false
set_option linter.all false
set_option maxRecDepth 100000
set_option maxHeartbeats 2000000
namespace Z
open PySem L2 PySem.Spec PyProof.Rows
open Evl (Ex ex_l ex_t sz_of sz_lt fresh_back)
/-- pairs tracked at their addresses -/
def putP : Hp → List Addr → List (V × V) → Hp
  | H, a :: as, p :: ps => putP (upd H a (.tup [p.1, p.2])) as ps
  | H, _, _ => H
theorem putP_off {b : Addr} : ∀ (as : List Addr) (ps : List (V × V)) (H : Hp), b ∉ as → putP H as ps b = H b
  | [], _, _, _ => rfl
  | _ :: _, [], _, _ => rfl
  | a :: as, p :: ps, H, h => by
    rw [show putP H (a :: as) (p :: ps) = putP (upd H a (.tup [p.1, p.2])) as ps from rfl, putP_off as ps _ (fun q => h (List.mem_cons_of_mem _ q)), upd_ne (fun q => h (by rw [q]; exact List.mem_cons_self))]
theorem putP_at : ∀ (as : List Addr) (ps : List (V × V)) (H : Hp), as.length = ps.length → as.Nodup → Paired (fun (t : Addr) (p : V × V) => putP H as ps t = some (.tup [p.1, p.2])) as ps
  | [], [], _, _, _ => .nil
  | [], _ :: _, _, h, _ => nomatch h
  | _ :: _, [], _, h, _ => nomatch h
  | a :: as, p :: ps, H, h, hn => by
    obtain ⟨n1, n2⟩ := List.nodup_cons.mp hn
    refine .cons ?_ (putP_at as ps (upd H a (.tup [p.1, p.2])) (Nat.succ.inj h) n2)
    rw [show putP H (a :: as) (p :: ps) = putP (upd H a (.tup [p.1, p.2])) as ps from rfl, putP_off as ps _ n1, upd_same]
def rListZip (K : PySem.W.Frag) : List V → Hp → VK → Prop := fun vs H Q => ∃ a b xs ys, vs = [.ref a, .ref b] ∧ SqL K H a xs ∧ SqL K H b ys ∧
  ∀ (H' : Hp) (p : Addr) (ts : List Addr), Ex H H' → H p = none → (∀ t ∈ ts, H t = none) → p ∉ ts → H' p = some (.lst (ts.map V.ref)) → Paired (fun (t : Addr) (q : V × V) => H' t = some (.tup [q.1, q.2])) ts (xs.zip ys) → Q (.ref p) H'
section
variable {X : Cx} {e e2 : Expr} {ta : TA} {p p2 pos pos2 : Pos}
theorem zip_laid {pins : List (Addr × Obj)} {σ : L2.St} {H : Hp} {s : Shared} {h' : Heap} {tk : Nat} {us ws : List V} {j1 j2 : List Value} {acc : Array Value} {c N : Nat} {as : List Addr} (I : Inv X pins σ H s) (hN : s.heap.objs.size ≤ N) (hz : us.length ≤ sizeLine) (r1 : Vals us j1) (r2 : Vals ws j2)
    (hk : ∀ b o, s.heap.get? b = some o → h'.get? b = some o) (hS : h'.get? N = some { cls := .type "list", dict := none, data := .seq acc c, slots := #[] }) (hl : as.length = min j1.toArray.size j2.toArray.size) (hG : ZG j1.toArray j2.toArray N h' as) (hacc : acc.toList = as.map Value.ref) :
    ∃ H' : Hp, Ex H H' ∧ H N = none ∧ (∀ t ∈ as, H t = none) ∧ N ∉ as ∧ H' N = some (.lst (as.map V.ref)) ∧ Paired (fun (t : Addr) (q : V × V) => H' t = some (.tup [q.1, q.2])) as (us.zip ws) ∧ Inv X pins σ H' { s with heap := h', toks := tk } := by
  have e1 := r1.length
  have e2 := r2.length
  have lk : as.length = (us.zip ws).length := by rw [hl, List.length_zip, List.size_toArray, List.size_toArray]; omega
  have hSn : N ∉ as := fun q => Nat.lt_irrefl _ (hG.above _ q)
  have nd : as.Nodup := List.Pairwise.imp (fun {a b} (h : a < b) => Nat.ne_of_lt h) hG.rise
  have new : ∀ t ∈ as, H t = none := fun t ht => I.hok.fresh (Nat.le_trans hN (Nat.le_of_lt (hG.above t ht)))
  have newS : H N = none := I.hok.fresh hN
  let H' : Hp := putP (upd H N (.lst (as.map V.ref))) as (us.zip ws)
  have atP : Paired (fun (t : Addr) (q : V × V) => H' t = some (.tup [q.1, q.2])) as (us.zip ws) := putP_at as (us.zip ws) (upd H N (.lst (as.map V.ref))) lk nd
  have off : ∀ b, b ∉ as → b ≠ N → H' b = H b := fun b h1 h2 => by show putP _ as _ b = H b; rw [putP_off as _ _ h1, upd_ne h2]
  have kp : ∀ b u, H b = some u → H' b = some u := fun b u q => by
    rw [off b (fun m => by rw [new b m] at q; cases q) (fun m => by rw [m, newS] at q; cases q)]
    exact q
  have eS : H' N = some (.lst (as.map V.ref)) := by show putP _ as _ N = _; rw [putP_off as _ _ hSn, upd_same]
  have low : ∀ b o, s.heap.get? b = some o → b ∉ as ∧ b ≠ N := fun b o q => ⟨fun m => absurd (Heap.lt_size q) (Nat.not_lt.mpr (Nat.le_trans hN (Nat.le_of_lt (hG.above b m)))), Nat.ne_of_lt (Nat.lt_of_lt_of_le (Heap.lt_size q) hN)⟩
  refine ⟨H', kp, newS, new, hSn, eS, atP, ?_⟩
  refine I.call' (ch := []) rfl ⟨fun b o q _ _ _ => hk b o q, fun b o q _ _ _ => ⟨o.slots, hk b o q⟩, fun b o q n _ => ?_, fun b o q _ => ⟨o, hk b o q⟩, fun b xs q => kp b _ q, fun b o u q => kp b _ q, fun b ps q => ⟨#[], by rw [kp b _ q]; simp⟩⟩ (fun b u q => ?_) I.bare fun b m => by simp at m
  · obtain ⟨q1, q2⟩ := low b o q
    rw [off b q1 q2]
    exact n
  · by_cases hb : b ∈ as
    · obtain ⟨j, pk, f1, f2, f3⟩ := LiI.paired_ix atP hb
      rw [f3] at q
      cases q
      obtain ⟨x, y, g1, g2, g3⟩ := hG.pairs j b f1
      obtain ⟨k1, k2⟩ := List.getElem?_zip_eq_some.mp f2
      obtain ⟨x', m1, rx⟩ := r1.get k1
      obtain ⟨y', m2, ry⟩ := r2.get k2
      have ex : x' = x := by
        have : j1[j]? = some x := by simpa using g1
        rw [m1] at this
        exact Option.some.inj this
      have ey : y' = y := by
        have : j2[j]? = some y := by simpa using g2
        rw [m2] at this
        exact Option.some.inj this
      subst ex
      subst ey
      exact ⟨by show 2 ≤ sizeLine; decide, [x', y'], .cons rx (.cons ry .nil), ⟨_, g3, rfl, _, rfl⟩⟩
    · by_cases hb2 : b = N
      · rw [hb2] at q ⊢
        rw [eS] at q
        cases q
        refine ⟨?_, acc.toList, c, by rw [hacc]; exact LiI.vals_refs as, ?_⟩
        · rw [List.length_map, lk, List.length_zip]
          omega
        · rw [Array.toArray_toList]
          exact hS
      · rw [off b hb hb2] at q
        exact (I.hok b u q).stay (fun d v _ m => hk d v m) (fun d m => kp d _ m) fun d xs m => kp d _ m
/-- list(zip(e, e2)) -/
theorem pe_listZip (hc : X.calm = true) (hg : Gl X "list") (hm : X.mg "list" = none) (hg2 : Gl X "zip") (hm2 : X.mg "zip" = none) (ha : PA X [e, e2] ta)
    (hv : bootBuiltins "list" = some (.type "list") := by decide +kernel)
    (hs2 : starEach [e, e2] X.env = (false, eval e X.env) :: starEach [e2] X.env := by rfl) (hpl : (backTo pos2 (starEach [e2] X.env)).any (·.1) = false := by rfl)
    (hs : starEach [.Call (.Name "zip" p2) [e, e2] [] pos2] X.env = (false, eval (.Call (.Name "zip" p2) [e, e2] [] pos2) X.env) :: starEach [] X.env := by rfl) :
    PE X (.Call (.Name "list" p) [.Call (.Name "zip" p2) [e, e2] [] pos2] [] pos) (tCB (rListZip X.K) ta) := by
  constructor
  intro pins s σ H Q I hq
  refine wpAny_Call_Name_kw (ld_blt I hg hm hv (PyProof.Rows.callWith_type1 ?_ hs rfl))
  rw [hs]
  show wpAny _ _ (spliced ((false, eval (.Call (.Name "zip" p2) [e, e2] [] pos2) X.env) :: backTo pos (starEach [] X.env))) _ _ s
  refine Calls.spliced_cons ?_
  refine Call_ (ld_blt I hg2 hm2 PyProof.Rows.boot_zip (PyProof.Rows.callWith_type1 (thn (ha.run pos2 pins s σ H _ I hq) fun us s1 hh => ?_) hs2 hpl))
  obtain ⟨vs, H1, I1, r1, a, b, xs, ys, ev, qx, qy, q⟩ := hh
  subst ev
  cases r1 with
  | cons ra rr =>
    cases rr with
    | cons rb rr =>
      cases rr
      cases ra
      cases rb
      obtain ⟨j1, rv1, p1, z1⟩ := I1.list qx
      obtain ⟨j2, rv2, p2', z2⟩ := I1.list qy
      have la : a < s1.heap.objs.size := p1.lt
      have lb : b < s1.heap.objs.size := p2'.lt
      have D := PySem.W.ktu_apart s1.heap.objs.size a b la lb
      refine call_zip_2 p1.isList p2'.isList fun h' hz hTI hTO g1 g2 hsz hk => ?_
      have I2 : Inv X pins σ H1 { s1 with heap := h' } := I1.kept (t' := s1.toks) hk
      refine Calls.spliced_nil ?_
      refine zl_call (s := { s1 with heap := h' }) (I1.ok.hd hc) D hz hTI ⟨_, _, hTO⟩ g1 g2 (p1.isList.at fun o e => hk _ o e) (p2'.isList.at fun o e => hk _ o e) ?_ fun h'' tk acc c as hk2 hS hl hG hacc => ?_
      · rw [List.size_toArray, List.size_toArray]
        have := rv1.length
        omega
      · obtain ⟨H', k1, k2, k3, k4, k5, k6, J⟩ := zip_laid (tk := tk) (N := h'.objs.size) I1 (by rw [hsz]; exact Nat.le_add_right _ _) z1 rv1 rv2 (fun d o q => hk2 d o (Nat.ne_of_lt (Nat.lt_of_lt_of_le (Heap.lt_size q) (Nat.le_add_right _ _))) (Nat.ne_of_lt (Nat.lt_of_lt_of_le (Heap.lt_size q) (Nat.le_add_right _ _))) (Nat.ne_of_lt (Heap.lt_size q)) (Nat.ne_of_lt (Nat.lt_of_lt_of_le (Heap.lt_size q) (Nat.le_add_right _ _))) (hk _ _ q)) hS hl hG hacc
        exact ⟨.ref _, H', J, rfl, q H' _ as k1 k2 k3 k4 k5 k6⟩
end
section
variable {K : PySem.W.Frag} {xs ys : List D}
theorem rcf_listZip : RCF K (rListZip K) [.lst xs, .lst ys] (zipD xs ys) := fun S H o us rs Q q => by
  obtain ⟨u, v, rfl, ru, rv⟩ := rs.two_inv
  obtain ⟨a, vs, rfl, h1, h2⟩ := ru.lst_inv
  obtain ⟨b, ws, rfl, h3, h4⟩ := rv.lst_inv
  refine ⟨a, b, vs, ws, rfl, Or.inl (Or.inl (Hx.ex _ _ h1)), Or.inl (Or.inl (Hx.ex _ _ h3)), fun H' p ts e hp ht hn hl pr => q p _ H' hp e hl ?_⟩
  have hpS : p ∉ S := o.no hp
  have g : Ex (Hx H S) (Hx H' (p :: S)) := fun c w m => by
    obtain ⟨m1, m2⟩ := Hx.inv m
    refine Hx.of (e _ _ m1) ?_
    simp only [List.mem_cons, not_or]
    exact ⟨ne_of_none m1 hp, m2⟩
  have key : ∀ {ts : List Addr} {vs ws : List V} {xs ys : List D}, (∀ t ∈ ts, H t = none) → p ∉ ts → Paired (fun (t : Addr) (q : V × V) => H' t = some (.tup [q.1, q.2])) ts (vs.zip ws) → RpA K (Hx H S) vs xs → RpA K (Hx H S) ws ys → RpA K (Hx H' (p :: S)) (ts.map V.ref) (zipD xs ys) := by
    intro ts vs ws xs ys
    induction vs generalizing ts ws xs ys with
    | nil =>
      intro _ _ pr r1 r2
      cases r1
      cases pr
      exact .nil
    | cons v vs ih =>
      intro ht hn pr r1 r2
      cases r1 with
      | cons a1 a2 =>
        cases r2 with
        | nil => cases pr; exact .nil
        | cons b1 b2 =>
          cases pr with
          | cons c1 c2 =>
            refine .cons (.tup (Or.inl (Or.inl (Hx.of c1 ?_))) (.cons (a1.up g) (.cons (b1.up g) .nil))) (ih (fun t m => ht t (List.mem_cons_of_mem _ m)) (fun m => hn (List.mem_cons_of_mem _ m)) c2 a2 b2)
            simp only [List.mem_cons, not_or]
            exact ⟨fun q => hn (by rw [← q]; exact List.mem_cons_self), o.no (ht _ List.mem_cons_self)⟩
  exact key ht hn pr h2 h4
end
end Z


set_option Elab.async false
set_option linter.all false
set_option maxRecDepth 100000
set_option maxHeartbeats 2000000
namespace Z
open PySem L2
open Evl (Ex ex_l ex_t sz_of sz_lt fresh_back)
def D.isInt : D → Bool
  | .int _ => true
  | _ => false
def D.isBool : D → Bool
  | .bl _ => true
  | _ => false
def D.isSeq : D → Bool
  | .lst _ | .rls _ | .tup _ => true
  | _ => false
def D.isStr : D → Bool
  | .str _ => true
  | _ => false
def D.isObj : D → Bool
  | .obj _ _ => true
  | .adr _ => true
  | _ => false
theorem ty_of (K : PySem.W.Frag) {d : D} (h : d.isObj = false) : ∃ n, TyD K d (.type n) ∧ PySem.W.kitOne K (.type n) (.type "int") = some (d.isInt || d.isBool) ∧ PySem.W.kitOne K (.type n) (.type "bool") = some d.isBool ∧
    PySem.W.kitAny K (.type n) [.type "list", .type "tuple"] = some d.isSeq ∧ PySem.W.kitOne K (.type n) (.type "str") = some d.isStr := by
  cases d with
  | non => exact ⟨"NoneType", .non, kit_ty (r := false) (by decide +kernel), kit_ty (r := false) (by decide +kernel), by unfold PySem.W.kitAny; rw [kit_ty (r := false) (by decide +kernel)]; simp only; unfold PySem.W.kitAny; rw [kit_ty (r := false) (by decide +kernel)]; rfl, kit_ty (r := false) (by decide +kernel)⟩
  | bl b => exact ⟨"bool", .bl b, kit_ty (r := true) (by decide +kernel), kit_ty (r := true) (by decide +kernel), by unfold PySem.W.kitAny; rw [kit_ty (r := false) (by decide +kernel)]; simp only; unfold PySem.W.kitAny; rw [kit_ty (r := false) (by decide +kernel)]; rfl, kit_ty (r := false) (by decide +kernel)⟩
  | int i => exact ⟨"int", .int i, kit_ty (r := true) (by decide +kernel), kit_ty (r := false) (by decide +kernel), by unfold PySem.W.kitAny; rw [kit_ty (r := false) (by decide +kernel)]; simp only; unfold PySem.W.kitAny; rw [kit_ty (r := false) (by decide +kernel)]; rfl, kit_ty (r := false) (by decide +kernel)⟩
  | str x => exact ⟨"str", .str x, kit_ty (r := false) (by decide +kernel), kit_ty (r := false) (by decide +kernel), by unfold PySem.W.kitAny; rw [kit_ty (r := false) (by decide +kernel)]; simp only; unfold PySem.W.kitAny; rw [kit_ty (r := false) (by decide +kernel)]; rfl, kit_ty (r := true) (by decide +kernel)⟩
  | lst xs => exact ⟨"list", .lst xs, kit_ty (r := false) (by decide +kernel), kit_ty (r := false) (by decide +kernel), by unfold PySem.W.kitAny; rw [kit_ty (r := true) (by decide +kernel)]; rfl, kit_ty (r := false) (by decide +kernel)⟩
  | rls xs => exact ⟨"list", .rls xs, kit_ty (r := false) (by decide +kernel), kit_ty (r := false) (by decide +kernel), by unfold PySem.W.kitAny; rw [kit_ty (r := true) (by decide +kernel)]; rfl, kit_ty (r := false) (by decide +kernel)⟩
  | tup xs => exact ⟨"tuple", .tup xs, kit_ty (r := false) (by decide +kernel), kit_ty (r := false) (by decide +kernel), by unfold PySem.W.kitAny; rw [kit_ty (r := false) (by decide +kernel)]; simp only; unfold PySem.W.kitAny; rw [kit_ty (r := true) (by decide +kernel)]; rfl, kit_ty (r := false) (by decide +kernel)⟩
  | obj C gs => cases h
  | adr a => cases h
end Z


set_option Elab.async false
set_option linter.all false
set_option maxRecDepth 100000
set_option maxHeartbeats 2000000
namespace Zn
open PySem L2 Z
open Evl (Ex ex_l ex_t sz_of sz_lt fresh_back)
/-! ### zones, as numbers: a first offset and steps (moment, jump) -/
abbrev Steps := List (Int × Int)
def pairD (p : Int × Int) : D := .tup [.int p.1, .int p.2]
def pairL (p : Int × Int) : D := .lst [.int p.1, .int p.2]
/-- the changes (moment, offset) -/
def offs : Int → Steps → Steps
  | _, [] => []
  | o, (m, j) :: r => (m, o + j) :: offs (o + j) r
theorem offs_len : ∀ (o : Int) (s : Steps), (offs o s).length = s.length
  | _, [] => rfl
  | o, (m, j) :: r => by rw [offs, List.length_cons, List.length_cons, offs_len]
theorem offs_append : ∀ (o : Int) (s t : Steps), offs o (s ++ t) = offs o s ++ offs (o + (s.map (·.2)).sum) t
  | o, [], t => by simp [offs]
  | o, (m, j) :: r, t => by
    rw [List.cons_append, offs, offs, List.cons_append, offs_append (o + j) r t, List.map_cons, List.sum_cons]
    have e : o + j + (r.map (·.2)).sum = o + (j + (r.map (·.2)).sum) := by omega
    rw [e]
def planD (f : Int) (s : Steps) : D := .tup [.int f, .lst (s.map pairD)]
def intsD (l : List Int) : D := .lst (l.map D.int)
def zoneF (f : Int) (s : Steps) : List (Str × D) := [("own_first", .int f), ("own_moments", intsD (s.map (·.1))), ("own_offsets", intsD (f :: (offs f s).map (·.2))), ("own_jumps", intsD (s.map (·.2)))]
def zoneD (C : Addr) (f : Int) (s : Steps) : D := .obj C (zoneF f s)
def jok (j : Int) : Prop := j ≠ 0 ∧ -720 ≤ j ∧ j ≤ 720
/-- what Zone takes -/
def okS : Steps → Prop
  | [] => True
  | [(_, j)] => jok j
  | (m, j) :: (m', j') :: r => jok j ∧ m' - m > (j.natAbs : Int) + (j'.natAbs : Int) ∧ okS ((m', j') :: r)
theorem zf_mom (f : Int) (s : Steps) : (zoneF f s).lookup ("own_moments" : Str) = some (intsD (s.map (·.1))) := rfl
theorem zf_off (f : Int) (s : Steps) : (zoneF f s).lookup ("own_offsets" : Str) = some (intsD (f :: (offs f s).map (·.2))) := rfl
theorem zf_jmp (f : Int) (s : Steps) : (zoneF f s).lookup ("own_jumps" : Str) = some (intsD (s.map (·.2))) := rfl
theorem zf_fst (f : Int) (s : Steps) : (zoneF f s).lookup ("own_first" : Str) = some (.int f) := rfl
theorem zf_no (f : Int) (s : Steps) : (zoneF f s).lookup ("takes" : Str) = none := rfl
example (a b c d : V) : putF "own_jumps" d (putF "own_offsets" c (putF "own_moments" b (putF "own_first" a []))) = ([("own_first", a), ("own_moments", b), ("own_offsets", c), ("own_jumps", d)] : List (Str × V)) := rfl
/-! ### Zone's own making, by the heap: its three lists at m, o, j -/
def zfV (f : Int) (m o j : Addr) : List (Str × V) := [("own_first", .int f), ("own_moments", .ref m), ("own_offsets", .ref o), ("own_jumps", .ref j)]
structure ZoneAt (C : Addr) (H : Hp) (x dx m o j : Addr) (f : Int) (s : Steps) : Prop where
  ob : H x = some (.ins C dx (zfV f m o j))
  hm : H m = some (.lst ((s.map (·.1)).map V.int))
  ho : H o = some (.lst ((f :: (offs f s).map (·.2)).map V.int))
  hj : H j = some (.lst ((s.map (·.2)).map V.int))
  mo : m ≠ o
  mj : m ≠ j
  oj : o ≠ j
theorem ZoneAt.rp {K : PySem.W.Frag} {C : Addr} {H : Hp} {x dx m o j : Addr} {f : Int} {s : Steps} (z : ZoneAt C H x dx m o j f s) : Rp K H (.ref x) (zoneD C f s) :=
  .obj z.ob (.cons (.int f) (.cons (.lst z.hm (RpA.of_ints _)) (.cons (.lst z.ho (RpA.of_ints _)) (.cons (.lst z.hj (RpA.of_ints _)) .nil))))
/-- takes(moment, offset), the change can be: true, and the three lists have one more -/
def spTakes (C : Addr) : Sp := fun vs H Q _ => ∃ x dx m o j f s mo of, vs = [.ref x, .int mo, .int of] ∧ ZoneAt C H x dx m o j f s ∧ s.length ≤ 1000 ∧ okS (s ++ [(mo, of - (f + (s.map (·.2)).sum))]) ∧
  ∀ H', ZoneAt C H' x dx m o j f (s ++ [(mo, of - (f + (s.map (·.2)).sum))]) → (∀ b u, H b = some u → b ≠ m → b ≠ o → b ≠ j → H' b = some u) → Q (.bl true) H'
theorem okS_last : ∀ {s : Steps} {p : Int × Int}, okS (s ++ [p]) → jok p.2 ∧ ∀ m j, s.getLast? = some (m, j) → p.1 - m > (p.2.natAbs : Int) + (j.natAbs : Int)
  | [], (m, j), h => ⟨h, fun _ _ e => by simp at e⟩
  | [(m, j)], (m', j'), h => by
    obtain ⟨h1, h2, h3⟩ := (show jok j ∧ m' - m > (j.natAbs : Int) + (j'.natAbs : Int) ∧ okS [(m', j')] from h)
    refine ⟨h3, fun a b e => ?_⟩
    simp at e
    obtain ⟨rfl, rfl⟩ := e
    show m' - m > (j'.natAbs : Int) + (j.natAbs : Int)
    omega
  | (m, j) :: (m2, j2) :: r, p, h => by
    obtain ⟨h1, h2, h3⟩ := (show jok j ∧ m2 - m > (j.natAbs : Int) + (j2.natAbs : Int) ∧ okS ((m2, j2) :: r ++ [p]) from h)
    obtain ⟨k1, k2⟩ := okS_last (s := (m2, j2) :: r) h3
    refine ⟨k1, fun a b e => k2 a b ?_⟩
    rw [List.getLast?_cons_cons] at e
    exact e
theorem offs_getLast : ∀ (f : Int) (s : Steps), (f :: (offs f s).map (·.2)).getLast? = some (f + (s.map (·.2)).sum)
  | f, [] => by simp [offs]
  | f, (m, j) :: r => by
    rw [offs, List.map_cons, List.getLast?_cons_cons, offs_getLast (f + j) r, List.map_cons, List.sum_cons]
    have e : f + j + (r.map (·.2)).sum = f + (j + (r.map (·.2)).sum) := by omega
    rw [e]
theorem atI_m1 {α : Type} (xs : List α) : atI xs (-1) = xs.getLast? := by
  unfold atI ixN
  rw [if_neg (by omega), List.getLast?_eq_getElem?]
  by_cases h : xs.length = 0
  · rw [if_neg (by omega), List.eq_nil_of_length_eq_zero h]
    rfl
  · rw [if_pos (by omega)]
    show xs[(-1 + (xs.length : Int)).toNat]? = _
    congr 1
    omega
theorem atI_last {α β : Type} {f : α → β} {xs : List α} {x : α} (h : xs.getLast? = some x) : atI (xs.map f) (-1) = some (f x) := by
  rw [atI_m1, List.getLast?_map, h]
  rfl
theorem fld_app {K : PySem.W.Frag} {σ : L2.St} {H : Hp} {E : Ends} {tz : TS} {C x dx l : Addr} {fs : List (Str × V)} {g : Str} {n i : Nat} {xs : List V} {v : V} (h0 : σ[n]? = some (some (.ref x))) (hx : H x = some (.ins C dx fs)) (hl : fs.lookup g = some (.ref l)) (hh : H l = some (.lst xs))
    (hv : σ[i]? = some (some v)) (hz : xs.length < 100000) (cl : Cls K C) (na : NoAttr K C g) (k : tz E σ (upd H l (.lst (xs ++ [v])))) : tSeq (tDrop (tBM K "list" rAppend (tFld K (tVar n) g) (tCons (tVar i) tNil))) tz E σ H :=
  ⟨_, h0, x, C, dx, fs, _, rfl, hx, cl, na, hl, Or.inl ⟨rfl, _, Or.inl (Or.inl hh)⟩, _, hv, l, xs, v, rfl, rfl, hh, sz_lt hz, k⟩
theorem ZoneAt.push {C : Addr} {H : Hp} {x dx m o j : Addr} {f : Int} {s : Steps} {mo of jj : Int} (z : ZoneAt C H x dx m o j f s) (e : of - (f + (s.map (·.2)).sum) = jj) :
    ZoneAt C (upd (upd (upd H m (.lst ((s.map (·.1)).map V.int ++ [.int mo]))) o (.lst ((f :: (offs f s).map (·.2)).map V.int ++ [.int of]))) j (.lst ((s.map (·.2)).map V.int ++ [.int jj]))) x dx m o j f (s ++ [(mo, jj)]) := by
  have nx : ∀ {b : Addr} {l : List V}, H b = some (.lst l) → x ≠ b := fun hb => ne_of z.ob hb (by intro q; cases q)
  have eo : f + (s.map (·.2)).sum + jj = of := by omega
  refine ⟨?_, ?_, ?_, ?_, z.mo, z.mj, z.oj⟩
  · rw [upd_ne (nx z.hj), upd_ne (nx z.ho), upd_ne (nx z.hm)]; exact z.ob
  · rw [upd_ne z.mj, upd_ne z.mo, upd_same, List.map_append, List.map_append]; rfl
  · rw [upd_ne z.oj, upd_same, offs_append, List.map_append, ← List.cons_append, List.map_append, offs, offs]
    simp [eo]
  · rw [upd_same, List.map_append, List.map_append]; rfl
theorem ZoneAt.up {C : Addr} {H H' : Hp} {x dx m o j : Addr} {f : Int} {s : Steps} (z : ZoneAt C H x dx m o j f s) (e : Ex H H') : ZoneAt C H' x dx m o j f s := ⟨e _ _ z.ob, e _ _ z.hm, e _ _ z.ho, e _ _ z.hj, z.mo, z.mj, z.oj⟩
theorem good_ints (l : List Int) : good 1 (intsD l) := by
  unfold intsD good
  intro x hx
  obtain ⟨i, _, rfl⟩ := List.mem_map.1 hx
  unfold good
  trivial
end Zn


set_option Elab.async false
set_option linter.all false
set_option maxRecDepth 100000
set_option maxHeartbeats 2000000
namespace Z
open PySem L2
open Evl (Ex ex_l ex_t sz_of sz_lt fresh_back)
section
variable {K : PySem.W.Frag} {B F H : Hp} {S : List Addr} {x dx C : Addr} {os : Os} {Γ : List Sl} {tm : List (V × D)} {σ : L2.St} {E : Ends} {tz : TS} {tv : TE} {fs : List (Str × V)} {g : Str} {n : Nat}
/-- the object x, of the frame, is written -/
theorem Sta.fld (st : Sta K B F (x :: S) os Γ tm σ H) (o : HO) : Sta K B (upd F x o) (x :: S) os Γ tm σ (upd H x o) := by
  have hxm : x ∈ adr os (x :: S) := List.mem_append_right _ List.mem_cons_self
  have gx : Ex (Hx H (adr os (x :: S))) (Hx (upd H x o) (adr os (x :: S))) := Hx.chg hxm
  refine ⟨st.ext.trans gx, fun a m => ?_, ?_, st.nd, st.ns, fun p hp => ?_, st.sl.up gx, fun p hp => (st.tmp p hp).up gx⟩
  · by_cases e : a = x
    · subst e; rw [upd_same, upd_same]
    · rw [upd_ne e, upd_ne e]; exact st.frm a m
  · intro a m z
    by_cases e : a = x
    · subst e; rw [upd_same] at z; cases z
    · rw [upd_ne e] at z; exact st.ok0 a m z
  · obtain ⟨xs, h, r⟩ := st.own p hp
    have : p.1 ≠ x := fun q => st.ns p hp (q ▸ List.mem_cons_self)
    exact ⟨xs, by rw [upd_ne this]; exact h, r.up gx⟩
theorem q_fldI {i : Int} (st : Sta K B F (x :: S) os Γ tm σ H) (h : Ev K tv σ (Hx H (adr os (x :: S))) (adr os (x :: S)) (.int i)) (hn : Γ[n]? = some (.at x)) (hF : F x = some (.ins C dx fs)) (cl : Cls K C) (na : NoAttr K C g) (hl : fs.length < 1000)
    (k : ∀ H', Sta K B (upd F x (.ins C dx (putF g (.int i) fs))) (x :: S) os Γ tm σ H' → tz E σ H') : tSeq (sFld K (tVar n) tv g) tz E σ H :=
  w_int st h fun H' st' => ⟨_, st'.slot hn, x, C, dx, fs, rfl, by rw [st'.frm x List.mem_cons_self]; exact hF, cl, na, hl, k _ (st'.fld _)⟩
theorem q_fldF {ds : List D} (st : Sta K B F (x :: S) os Γ tm σ H) (h : EvF K tv σ (Hx H (adr os (x :: S))) (adr os (x :: S)) ds) (hn : Γ[n]? = some (.at x)) (hF : F x = some (.ins C dx fs)) (cl : Cls K C) (na : NoAttr K C g) (hl : fs.length < 1000)
    (k : ∀ l H', Sta K B (upd F x (.ins C dx (putF g (.ref l) fs))) (x :: S) ((l, ds) :: os) Γ tm σ H' → tz E σ H') : tSeq (sFld K (tVar n) tv g) tz E σ H :=
  h H (Ex.refl _) st.ok _ fun p xs H2 hp e h2 ra =>
    have st' := st.gain e hp h2 ra
    ⟨_, st'.slot hn, x, C, dx, fs, rfl, by rw [st'.frm x List.mem_cons_self]; exact hF, cl, na, hl, k _ _ (st'.fld _)⟩
end
end Z
namespace Zn
open PySem L2 Z
open Evl (Ex ex_l ex_t sz_of sz_lt fresh_back)
def zo (m o j : Addr) (f : Int) (s : Steps) : Os := [(j, (s.map (·.2)).map D.int), (o, (f :: (offs f s).map (·.2)).map D.int), (m, (s.map (·.1)).map D.int)]
section
variable {K : PySem.W.Frag} {B F H H' : Hp} {S : List Addr} {x dx C m o j : Addr} {Γ : List Sl} {tm : List (V × D)} {σ : L2.St} {E : Ends} {tz : TS} {f : Int} {s s' : Steps}
theorem sta_zone (st : Sta K B F (x :: S) (zo m o j f s) Γ tm σ H) (hF : F x = some (.ins C dx (zfV f m o j))) : ZoneAt C H x dx m o j f s := by
  have hnd := st.nd
  simp only [zo, List.map_cons, List.map_nil, List.nodup_cons, List.mem_cons, List.not_mem_nil, or_false, not_or] at hnd
  obtain ⟨⟨jo, jm⟩, om, _⟩ := hnd
  obtain ⟨x1, h1, r1⟩ := st.own (m, (s.map (·.1)).map D.int) (by simp [zo])
  obtain ⟨x2, h2, r2⟩ := st.own (o, (f :: (offs f s).map (·.2)).map D.int) (by simp [zo])
  obtain ⟨x3, h3, r3⟩ := st.own (j, (s.map (·.2)).map D.int) (by simp [zo])
  rw [r1.ints] at h1
  rw [r2.ints] at h2
  rw [r3.ints] at h3
  exact ⟨by rw [st.frm x List.mem_cons_self]; exact hF, h1, h2, h3, fun e => om e.symm, fun e => jm e.symm, fun e => jo e.symm⟩
theorem sta_took (st : Sta K B F (x :: S) (zo m o j f s) Γ tm σ H) (z : ZoneAt C H' x dx m o j f s') (fr : ∀ b u, H b = some u → b ≠ m → b ≠ o → b ≠ j → H' b = some u) : Sta K B F (x :: S) (zo m o j f s') Γ tm σ H' := by
  have ne : ∀ b, b ∉ [j, o, m] → b ≠ m ∧ b ≠ o ∧ b ≠ j := fun b h => by
    simp only [List.mem_cons, List.not_mem_nil, or_false, not_or] at h
    exact ⟨h.2.2, h.2.1, h.1⟩
  have ea : adr (zo m o j f s') (x :: S) = adr (zo m o j f s) (x :: S) := rfl
  have gx : Ex (Hx H (adr (zo m o j f s) (x :: S))) (Hx H' (adr (zo m o j f s) (x :: S))) := fun a u q => by
    obtain ⟨q1, q2⟩ := Hx.inv q
    obtain ⟨n1, n2, n3⟩ := ne a fun q => q2 (List.mem_append_left _ q)
    exact Hx.of (fr _ _ q1 n1 n2 n3) q2
  refine ⟨?_, fun a ma => ?_, st.ok0, st.nd, fun p hp => ?_, fun p hp => ?_, ?_, fun p hp => ?_⟩
  · rw [ea]; exact st.ext.trans gx
  · have h := st.frm a ma
    cases q : F a with
    | none => exact absurd q (st.ok0 a ma)
    | some u =>
      rw [q] at h
      obtain ⟨n1, n2, n3⟩ := ne a fun q2 => by
        simp only [List.mem_cons, List.not_mem_nil, or_false] at q2
        rcases q2 with rfl | rfl | rfl
        · exact st.ns (a, (s.map (·.2)).map D.int) (by simp [zo]) ma
        · exact st.ns (a, (f :: (offs f s).map (·.2)).map D.int) (by simp [zo]) ma
        · exact st.ns (a, (s.map (·.1)).map D.int) (by simp [zo]) ma
      exact fr _ _ h n1 n2 n3
  · simp only [zo, List.mem_cons, List.not_mem_nil, or_false] at hp
    rcases hp with rfl | rfl | rfl
    · exact st.ns (j, (s.map (·.2)).map D.int) (by simp [zo])
    · exact st.ns (o, (f :: (offs f s).map (·.2)).map D.int) (by simp [zo])
    · exact st.ns (m, (s.map (·.1)).map D.int) (by simp [zo])
  · simp only [zo, List.mem_cons, List.not_mem_nil, or_false] at hp
    rcases hp with rfl | rfl | rfl
    · exact ⟨_, z.hj, RpA.of_ints _⟩
    · exact ⟨_, z.ho, RpA.of_ints _⟩
    · exact ⟨_, z.hm, RpA.of_ints _⟩
  · rw [ea]; exact st.sl.up gx
  · rw [ea]; exact (st.tmp p hp).up gx
theorem s_takes {tp : TT} {ta tb : TE} {tu tw : TS} {mo of : Int} (st : Sta K B F (x :: S) (zo m o j f s) Γ tm σ H) (hF : F x = some (.ins C dx (zfV f m o j))) (hn : Γ[0]? = some (.at x)) (hp : EvT tp σ (Hx H (adr (zo m o j f s) (x :: S))) (adr (zo m o j f s) (x :: S)) true)
    (ha : Ev K ta σ (Hx H (adr (zo m o j f s) (x :: S))) (adr (zo m o j f s) (x :: S)) (.int mo)) (hb : Ev K tb σ (Hx H (adr (zo m o j f s) (x :: S))) (adr (zo m o j f s) (x :: S)) (.int of)) (hlen : s.length ≤ 1000) (hok : okS (s ++ [(mo, of - (f + (s.map (·.2)).sum))]))
    (k : ∀ H', Sta K B F (x :: S) (zo m o j f (s ++ [(mo, of - (f + (s.map (·.2)).sum))])) Γ tm σ H' → tw E σ H') :
    tIfS (tOr (tNot tp) (tNot (tB (tMeth C "takes" (spTakes C) [] E0 (tVar 0) (tCons ta (tCons tb tNil)))))) tu tw E σ H := by
  refine hp H (Ex.refl _) st.ok _ fun H2 e => ?_
  have st2 := st.step e
  refine ⟨_, st2.slot hn, x, dx, _, rfl, (sta_zone st2 hF).ob, rfl, ?_⟩
  refine ha H2 (Hx.mono e) st2.ok _ fun va H3 e3 ra => ?_
  have st3 := st2.step e3
  refine hb H3 (Hx.mono (e.trans e3)) st3.ok _ fun vb H4 e4 rb => ?_
  have st4 := st3.step e4
  refine ⟨x, dx, m, o, j, f, s, mo, of, ?_, sta_zone st4 hF, hlen, hok, fun H' z fr => ⟨true, rfl, k H' (sta_took st4 z fr)⟩⟩
  rw [ra.int_inv, rb.int_inv]; rfl
theorem zone_end {H0 : Hp} {Q : VK} (st : Sta K (Hx H0 (x :: S)) F (x :: S) (zo m o j f s) Γ tm σ H) (hF : F x = some (.ins C dx (zfV f m o j))) (hF0 : ∀ a, a ≠ x → F a = H0 a)
    (k : ∀ fs H', (∀ b u, H0 b = some u → b ≠ x → H' b = some u) → H' x = some (.ins C dx fs) → RpF K (Nw H0 H') fs (zoneF f s) → Q .non H') : Q .non H := by
  have z := sta_zone st hF
  have n1 := st.ns (m, (s.map (·.1)).map D.int) (by simp [zo])
  have n2 := st.ns (o, (f :: (offs f s).map (·.2)).map D.int) (by simp [zo])
  have n3 := st.ns (j, (s.map (·.2)).map D.int) (by simp [zo])
  have fresh : ∀ a, a ∈ [j, o, m] → a ∉ x :: S → H0 a = none := fun a ha hn => by
    cases q : H0 a with
    | none => rfl
    | some u => exact absurd (List.mem_append_left _ ha) (Hx.inv (st.ext a u (Hx.of q hn))).2
  refine k _ H (fun b u hb nb => ?_) z.ob (.cons (.int f) (.cons (.lst (Nw.of (fresh m (by simp) n1) z.hm) (RpA.of_ints _)) (.cons (.lst (Nw.of (fresh o (by simp) n2) z.ho) (RpA.of_ints _)) (.cons (.lst (Nw.of (fresh j (by simp) n3) z.hj) (RpA.of_ints _)) .nil))))
  by_cases mb : b ∈ x :: S
  · rw [st.frm b mb, hF0 b nb]; exact hb
  · exact (Hx.inv (st.ext b u (Hx.of hb mb))).1
end
theorem okS_pre : ∀ {s t : Steps}, okS (s ++ t) → okS s
  | [], _, _ => trivial
  | [(m, j)], [], h => h
  | [(m, j)], (m', j') :: t, h => (show jok j ∧ _ ∧ _ from h).1
  | (m, j) :: (m', j') :: r, t, h => by
    obtain ⟨h1, h2, h3⟩ := (show jok j ∧ m' - m > (j.natAbs : Int) + (j'.natAbs : Int) ∧ okS ((m', j') :: r ++ t) from h)
    exact ⟨h1, h2, okS_pre h3⟩
theorem offs_get : ∀ {f : Int} {s : Steps} {i : Nat} {p : Int × Int}, (offs f s)[i]? = some p → ∃ jj, s[i]? = some (p.1, jj) ∧ p.2 = f + ((s.take i).map (·.2)).sum + jj
  | f, [], i, p, h => by simp [offs] at h
  | f, (m, j) :: r, 0, p, h => by
    simp [offs] at h
    subst h
    exact ⟨j, rfl, by simp⟩
  | f, (m, j) :: r, i + 1, p, h => by
    rw [offs, List.getElem?_cons_succ] at h
    obtain ⟨jj, h1, h2⟩ := offs_get h
    refine ⟨jj, by rw [List.getElem?_cons_succ]; exact h1, ?_⟩
    rw [h2, List.take_succ_cons, List.map_cons, List.sum_cons]
    show _ = f + (j + _) + jj
    omega
theorem take_one {α : Type} {s : List α} {i : Nat} {a : α} (h : s[i]? = some a) : s.take (i + 1) = s.take i ++ [a] := by rw [List.take_add_one, h]; rfl
def R_zone : List D → List (Str × D) → Prop := fun ds gs => ∃ (f : Int) (s : Steps) (g : Int × Int → D), (g = pairD ∨ g = pairL) ∧ (ds = [.int f, .lst ((offs f s).map g)] ∨ ds = [.int f, .tup ((offs f s).map g)]) ∧ okS s ∧ s.length ≤ 1000 ∧ gs = zoneF f s
end Zn


set_option Elab.async false
set_option linter.all false
set_option maxRecDepth 100000
set_option maxHeartbeats 2000000
namespace Z
open PySem L2
open Evl (Ex ex_l ex_t sz_of sz_lt fresh_back)
theorem g_three {K : PySem.W.Frag} {B F H : Hp} {S0 : List Addr} {os : Os} {Γ : List Sl} {tm : List (V × D)} {σ : L2.St} {v : V} {x y z : D} {i j l : Nat} {Q : L2.St → Hp → Prop} (st : Sta K B F S0 os Γ ((v, .tup [x, y, z]) :: tm) σ H)
    (k : ∀ σ', Sta K B F S0 os (((Γ.set i (.d x)).set j (.d y)).set l (.d z)) [] σ' H → Q σ' H) : gTup K 3 (gCons (gName i) (gCons (gName j) (gCons (gName l) gNil))) v σ H Q := by
  obtain ⟨a, xs, rfl, h1, h2⟩ := st.top.tup_inv
  obtain ⟨u, w, t, rfl, ru, rw, rt⟩ := h2.three_inv
  exact ⟨a, _, rfl, ex_t Hx.ex h1, rfl, u, _, rfl, w, _, rfl, t, _, rfl, rfl, k _ (Sta.set l (Sta.set j (st.tl.set i ru) rw) rt)⟩
theorem cut_tail {α : Type} (x : α) (xs : List α) : cut (x :: xs) (some 1) none = xs := by
  unfold cut
  have e1 : HT.sIx (x :: xs).length 0 (some 1) = 1 := by
    unfold HT.sIx
    simp
  have e2 : HT.sIx (x :: xs).length (x :: xs).length none = (x :: xs).length := rfl
  rw [e1, e2]
  simp
end Z
namespace Zn
open PySem L2 Z
def partsD (f : Int) (s : Steps) : D := .tup [intsD (f :: (offs f s).map (·.2)), intsD (s.map (·.1))]
theorem good_parts (f : Int) (s : Steps) : good 2 (partsD f s) := by
  unfold partsD good
  intro x hx
  simp only [List.mem_cons, List.not_mem_nil, or_false] at hx
  rcases hx with rfl | rfl
  · exact good_ints _
  · exact good_ints _
def spansP : Int → Steps → List (Int × Int)
  | _, [] => []
  | o, (m, j) :: r => (m + min o (o + j), m + max o (o + j)) :: spansP (o + j) r
theorem spansP_len : ∀ (f : Int) (s : Steps), (spansP f s).length = s.length
  | _, [] => rfl
  | o, (m, j) :: r => by rw [spansP, List.length_cons, List.length_cons, spansP_len]
def spansIf (p : Int → Bool) : Int → Steps → List (Int × Int)
  | _, [] => []
  | o, (m, j) :: r => if p j then (m + min o (o + j), m + max o (o + j)) :: spansIf p (o + j) r else spansIf p (o + j) r
theorem spansIf_eq (p : Int → Bool) : ∀ (f : Int) (s : Steps), (((spansP f s).zip (s.map (·.2))).filter (fun a => p a.2)).map (fun a => pairD a.1) = (spansIf p f s).map pairD
  | _, [] => rfl
  | o, (m, j) :: r => by
    rw [spansP, spansIf, List.map_cons, List.zip_cons_cons, List.filter_cons]
    have ih := spansIf_eq p (o + j) r
    cases h : p j with
    | true =>
      simp only [h, if_true]
      rw [List.map_cons, List.map_cons, ih]
    | false =>
      simp only [h, if_false, Bool.false_eq_true]
      exact ih
theorem zip_offs (f : Int) (s : Steps) : zipD ((s.map (·.1)).map D.int) (cut ((f :: (offs f s).map (·.2)).map D.int) (some 1) none) = (offs f s).map pairD := by
  rw [List.map_cons, cut_tail]
  unfold zipD
  induction s generalizing f with
  | nil => rfl
  | cons p r ih =>
    obtain ⟨m, j⟩ := p
    rw [offs]
    simp only [List.map_cons, List.zip_cons_cons]
    rw [ih]
    rfl
def trips : Int → Steps → List D
  | _, [] => []
  | o, (m, j) :: r => .tup [.int m, .int o, .int (o + j)] :: trips (o + j) r
theorem zip3_offs (f : Int) (s : Steps) : zip3D ((s.map (·.1)).map D.int) ((f :: (offs f s).map (·.2)).map D.int) (cut ((f :: (offs f s).map (·.2)).map D.int) (some 1) none) = trips f s := by
  rw [List.map_cons, cut_tail]
  unfold zip3D
  induction s generalizing f with
  | nil => rfl
  | cons p r ih =>
    obtain ⟨m, j⟩ := p
    rw [offs, trips]
    simp only [List.map_cons, List.zip_cons_cons]
    rw [ih]
theorem trip_get : ∀ {f : Int} {s : Steps} {i : Nat} {d : D}, (trips f s)[i]? = some d → ∃ mo old new, d = .tup [.int mo, .int old, .int new] ∧ (spansP f s)[i]? = some (mo + min old new, mo + max old new)
  | f, [], i, d, h => by simp [trips] at h
  | f, (m, j) :: r, 0, d, h => by
    simp [trips] at h
    exact ⟨m, f, f + j, h.symm, rfl⟩
  | f, (m, j) :: r, i + 1, d, h => by
    rw [trips, List.getElem?_cons_succ] at h
    obtain ⟨a, b, c, h1, h2⟩ := trip_get h
    exact ⟨a, b, c, h1, by rw [spansP, List.getElem?_cons_succ]; exact h2⟩
theorem trip_len : ∀ (f : Int) (s : Steps), (trips f s).length = s.length
  | _, [] => rfl
  | o, (m, j) :: r => by rw [trips, List.length_cons, List.length_cons, trip_len]
theorem zip_spans (f : Int) (s : Steps) : zipD ((spansP f s).map pairD) ((s.map (·.2)).map D.int) = ((spansP f s).zip (s.map (·.2))).map (fun p => D.tup [pairD p.1, .int p.2]) := by
  unfold zipD
  rw [List.zip_map, List.map_map]
  rfl
end Zn


set_option Elab.async false
set_option linter.all false
set_option maxRecDepth 100000
set_option maxHeartbeats 2000000
namespace Z
open PySem L2
open Evl (Ex ex_l ex_t sz_of sz_lt fresh_back)
/-! ### reading the lists that the body owns -/
section
variable {K : PySem.W.Frag} {B F H : Hp} {S0 : List Addr} {os : Os} {Γ : List Sl} {tm : List (V × D)} {σ : L2.St} {E : Ends} {tz tu tw : TS} {te : TE} {l p : Addr} {ds : List D} {n k : Nat} {Q : VK} {b : Bool}
theorem Sta.view (st : Sta K B F S0 os Γ tm σ H) (hn : Γ[n]? = some (.at l)) (hk : os[k]? = some (l, ds)) : Sls K (Hx H []) σ (Γ.set n (.d (.lst ds))) := by
  obtain ⟨xs, h1, h2⟩ := st.at_ hk
  have g : Ex (Hx H (adr os S0)) (Hx H []) := Hx.sub fun a m => by simp at m
  have r : Rp K (Hx H []) (.ref l) (.lst ds) := .lst (Hx.of h1 (by simp)) (h2.up g)
  have := (st.sl.up g).set (s := .d (.lst ds)) (o := some (.ref l)) ⟨_, rfl, r⟩ n
  have e : σ.set n (some (V.ref l)) = σ := by
    have hs := st.slot hn
    apply List.ext_getElem?
    intro i
    rw [List.getElem?_set]
    by_cases q : n = i
    · subst q
      have hlt := (List.getElem?_eq_some_iff.1 hs).1
      rw [if_pos rfl, if_pos hlt, hs]
    · rw [if_neg q]
  rw [e] at this
  exact this
theorem w_viewI {i : Int} (st : Sta K B F S0 os Γ tm σ H) (h : Ev K te σ (Hx H []) [] (.int i)) (k : ∀ H', Sta K B F S0 os Γ tm σ H' → Q (.int i) H') : te σ H Q :=
  h H (Ex.refl _) Ok.nil _ fun v H2 e rv => by rw [rv.int_inv]; exact k H2 (st.step e)
theorem q_asgV {i : Int} {j : Nat} (st : Sta K B F S0 os Γ tm σ H) (h : Ev K te σ (Hx H []) [] (.int i)) (k : ∀ σ' H', Sta K B F S0 os (Γ.set j (.d (.int i))) [] σ' H' → tz E σ' H') : tSeq (tAsg te (gName j)) tz E σ H :=
  w_viewI st h fun H' st' => k _ H' (st'.set j (.int i))
theorem s_ifV {t : TT} (st : Sta K B F S0 os Γ tm σ H) (h : EvT t σ (Hx H []) [] b) (h1 : b = true → ∀ H', Sta K B F S0 os Γ tm σ H' → tu E σ H') (h2 : b = false → ∀ H', Sta K B F S0 os Γ tm σ H' → tw E σ H') : tIfS t tu tw E σ H :=
  h H (Ex.refl _) Ok.nil _ fun H2 e => by
    cases b with
    | true => exact h1 rfl H2 (st.step e)
    | false => exact h2 rfl H2 (st.step e)
theorem q_ifV {t : TT} (st : Sta K B F S0 os Γ tm σ H) (h : EvT t σ (Hx H []) [] b) (h1 : b = true → ∀ H', Sta K B F S0 os Γ tm σ H' → tu { E with nx := tz E } σ H') (h2 : b = false → ∀ H', Sta K B F S0 os Γ tm σ H' → tw { E with nx := tz E } σ H') : tSeq (tIfS t tu tw) tz E σ H := s_ifV (E := { E with nx := tz E }) st h h1 h2
/-- a written list of ints, kept as the newest value -/
theorem w_newI (st : Sta K B F S0 os Γ tm σ H) (zs : List Int) (hz : zs.length ≤ 1000) : (zs.map V.int).length ≤ sizeLine ∧ ∀ p, H p = none → Sta K B F S0 os Γ ((.ref p, .lst (zs.map D.int)) :: tm) σ (upd H p (.lst (zs.map V.int))) := by
  refine ⟨sz_of (by simp; omega), fun p hp => ?_⟩
  have st' := st.step (Evl.Ex.new (o := .lst (zs.map V.int)) hp)
  exact st'.add (.lst (Hx.of upd_same (st.ok.no hp)) (RpA.of_ints _))
/-- one of them is picked -/
theorem w_at {zs : List Int} {r : Int} (st : Sta K B F S0 os Γ ((.ref p, .lst (zs.map D.int)) :: tm) σ H) (h0 : 0 ≤ r) (h1 : r < zs.length) (k : ∀ z ∈ zs, Q (.int z) H) : rIxL K (.ref p) (.int r) H Q := by
  obtain ⟨a, xs, e, h2, h3⟩ := st.top.lst_inv
  cases e
  rw [h3.ints] at h2
  have hlt : r.toNat < zs.length := by omega
  refine ⟨p, _, r, .int (zs[r.toNat]), rfl, rfl, Or.inl (Or.inl (Hx.ex _ _ h2)), ?_, k _ (List.getElem_mem _)⟩
  unfold atI ixN
  rw [if_pos h0, List.length_map, if_pos (by omega)]
  show (zs.map V.int)[r.toNat]? = _
  rw [List.getElem?_map, List.getElem?_eq_getElem hlt]
  rfl
end
end Z
namespace Zn
open PySem L2 Z
open Evl (Ex ex_l ex_t sz_of sz_lt fresh_back)
/-! ### the bag and its draws -/
def BagOk (n : Int) (b : List D) : Prop := ∃ b0 b1 b2 : Int, b = [.int b0, .int b1, .int b2] ∧ 0 ≤ b0 ∧ 0 ≤ b1 ∧ b1 < 2147483629 ∧ 0 ≤ b2 ∧ b2 ≤ n
theorem BagOk.mono {n m : Int} {b : List D} (h : BagOk n b) (e : n ≤ m) : BagOk m b := by
  obtain ⟨b0, b1, b2, h1, h2, h3, h4, h5, h6⟩ := h
  exact ⟨b0, b1, b2, h1, h2, h3, h4, h5, by omega⟩
def spTake : Sp := fun vs H Q _ => ∃ (a : Addr) (b0 b1 b2 many : Int), vs = [.ref a, .int many] ∧ H a = some (.lst [.int b0, .int b1, .int b2]) ∧ 0 ≤ b0 ∧ 0 ≤ b1 ∧ b1 < 2147483629 ∧ 0 ≤ b2 ∧ b2 ≤ 1000000 ∧ 0 < many ∧ many ≤ 1000000 ∧
  ∀ r b0' b2' : Int, 0 ≤ r → r < many → 0 ≤ b0' → 0 ≤ b2' → b2' ≤ b2 + 1 → Q (.int r) (upd H a (.lst [.int b0', .int b1, .int b2']))
theorem cdiv {i j : Int} (h : 0 < j) (h2 : j ≤ 1000000) : CDivW i j := by
  refine ⟨h, ?_⟩
  have : j.natAbs < 2 ^ 20 := by omega
  have := (Nat.log2_lt (n := j.natAbs) (k := 20) (by omega)).2 this
  omega
theorem ifT {b : Bool} {A B : Prop} (h : b = true) (a : A) : if b = true then A else B := by rw [if_pos h]; exact a
theorem ifF {b : Bool} {A B : Prop} (h : b = false) (a : B) : if b = true then A else B := by rw [if_neg (by rw [h]; decide)]; exact a
theorem cpow1 {b1 b2 : Int} (h1 : 0 ≤ b1) (h2 : b1 < 2147483629) (h3 : 0 ≤ b2) (h4 : b2 ≤ 1000001) : CPow (b1 + 179424691 * b2 + 563) 5 := ⟨by decide, by decide, by omega⟩
theorem cpow2 {X b2 : Int} (h3 : 0 ≤ b2) (h4 : b2 ≤ 1000001) : CPow (X % 2147483647 + 103217 * b2) 3 := by
  have k1 : 0 ≤ X % 2147483647 := Int.emod_nonneg _ (by decide)
  have k2 : X % 2147483647 < 2147483647 := Int.emod_lt_of_pos _ (by decide)
  exact ⟨by decide, by decide, by omega⟩
theorem o_ix {K : PySem.W.Frag} {σ : L2.St} {H : Hp} {Q : VK} {a : Addr} {xs : List V} {n : Nat} {i : Int} {v : V} (h : H a = some (.lst xs)) (hs : σ[n]? = some (some (.ref a))) (e : atI xs i = some v) (q : Q v H) : tOp (rIxL K) (tVar n) (tC (.int i)) σ H Q :=
  ⟨_, hs, a, xs, i, v, rfl, rfl, Or.inl (Or.inl h), e, q⟩
section
variable {K : PySem.W.Frag} {B F H : Hp} {S0 : List Addr} {os : Os} {Γ : List Sl} {tm : List (V × D)} {σ : L2.St} {E : XK} {a : Addr} {bag : List D} {n k : Nat} {Q : VK} {many N : Int} {H0 : Hp}
/-- a draw: behind its arguments -/
theorem take_sp (st : Sta K B F S0 os Γ tm σ H) (hk : os[k]? = some (a, bag)) (hb : BagOk N bag) (hN : N ≤ 1000000) (h1 : 0 < many) (h2 : many ≤ 1000000)
    (kk : ∀ r bag' H', 0 ≤ r → r < many → BagOk (N + 1) bag' → Sta K B F S0 (os.set k (a, bag')) Γ tm σ H' → Q (.int r) H') : spTake ([.ref a, .int many] ++ []) H Q E := by
  obtain ⟨b0, b1, b2, rfl, p1, p2, p3, p4, p5⟩ := hb
  obtain ⟨xs, h, r⟩ := st.at_ hk
  rw [RpA.ints (ns := [b0, b1, b2]) r] at h
  refine ⟨a, b0, b1, b2, many, rfl, h, p1, p2, p3, p4, by omega, h1, h2, fun r b0' b2' q1 q2 q3 q4 q5 => kk r [.int b0', .int b1, .int b2'] _ q1 q2 ⟨b0', b1, b2', rfl, q3, p2, p3, q4, by omega⟩ ?_⟩
  exact st.chg hk (RpA.of_ints [b0', b1, b2'])
theorem w_take (st : Sta K B F S0 os Γ tm σ H) (hn : Γ[n]? = some (.at a)) (hk : os[k]? = some (a, bag)) (hb : BagOk N bag) (hN : N ≤ 1000000) (h1 : 0 < many) (h2 : many ≤ 1000000)
    (kk : ∀ r bag' H', 0 ≤ r → r < many → BagOk (N + 1) bag' → Sta K B F S0 (os.set k (a, bag')) Γ tm σ H' → Q (.int r) H') : tCall spTake [] E (tCons (tVar n) (tCons (tC (.int many)) tNil)) σ H Q :=
  ⟨_, st.slot hn, take_sp (E := E) st hk hb hN h1 h2 kk⟩
end
theorem w_takeE {K : PySem.W.Frag} {B F H : Hp} {S0 : List Addr} {os : Os} {Γ : List Sl} {tm : List (V × D)} {σ : L2.St} {E : XK} {a : Addr} {n : Nat} {Q : VK} {te : TE} (st : Sta K B F S0 os Γ tm σ H) (hn : Γ[n]? = some (.at a)) (h : te σ H fun x H1 => spTake ([.ref a, x] ++ []) H1 Q E) :
    tCall spTake [] E (tCons (tVar n) (tCons te tNil)) σ H Q := ⟨_, st.slot hn, h⟩
theorem okS_snoc : ∀ {s : Steps} {m j : Int}, okS s → jok j → (∀ m0 j0, s.getLast? = some (m0, j0) → m - m0 > (j0.natAbs : Int) + (j.natAbs : Int)) → okS (s ++ [(m, j)])
  | [], m, j, _, h, _ => h
  | [(m1, j1)], m, j, h1, h, h2 => ⟨h1, h2 m1 j1 rfl, h⟩
  | (m1, j1) :: (m2, j2) :: r, m, j, h1, h, h2 => by
    obtain ⟨k1, k2, k3⟩ := (show jok j1 ∧ m2 - m1 > (j1.natAbs : Int) + (j2.natAbs : Int) ∧ okS ((m2, j2) :: r) from h1)
    refine ⟨k1, k2, okS_snoc (s := (m2, j2) :: r) k3 h fun m0 j0 e => h2 m0 j0 ?_⟩
    rw [List.getLast?_cons_cons]
    exact e
theorem okS_last_jok : ∀ {s : Steps} {m j : Int}, okS s → s.getLast? = some (m, j) → jok j
  | [], _, _, _, h => by simp at h
  | [(m1, j1)], m, j, h1, h => by
    simp at h
    obtain ⟨rfl, rfl⟩ := h
    exact h1
  | (m1, j1) :: (m2, j2) :: r, m, j, h1, h => by
    obtain ⟨k1, k2, k3⟩ := (show jok j1 ∧ m2 - m1 > (j1.natAbs : Int) + (j2.natAbs : Int) ∧ okS ((m2, j2) :: r) from h1)
    rw [List.getLast?_cons_cons] at h
    exact okS_last_jok k3 h
theorem ne_nil {α : Type} (g : α → D) (s : List α) : (!(D.lst (s.map g)).eq (.lst [])) = !s.isEmpty := by
  cases s with
  | nil => simp [D.eq, D.py, pyL, PyData.eqv, PyData.eqvAll]
  | cons p r => simp [D.eq, D.py, pyL, PyData.eqv, PyData.eqvAll]
theorem good_pair (p : Int × Int) : good 1 (pairD p) := by
  unfold pairD good
  intro x hx
  simp only [List.mem_cons, List.not_mem_nil, or_false] at hx
  rcases hx with rfl | rfl <;> (unfold good; trivial)
theorem good_pairs (s : List (Int × Int)) : good 2 (.lst (s.map pairD)) := by
  unfold good
  intro x hx
  obtain ⟨p, _, rfl⟩ := List.mem_map.1 hx
  exact good_pair p
theorem good_nil : good 1 (.lst []) := by
  unfold good
  intro x hx
  simp at hx
theorem plan_app {K : PySem.W.Frag} {B F H : Hp} {S0 : List Addr} {Γ : List Sl} {tm : List (V × D)} {σ : L2.St} {E : Ends} {a l : Addr} {bag : List D} {s : Steps} {m j : Int} (st : Sta K B F S0 [(l, s.map pairD), (a, bag)] Γ tm σ H) (h2 : Γ[2]? = some (.at l)) (h3 : Γ[3]? = some (.d (.int m))) (h6 : Γ[6]? = some (.d (.int j))) (hl : s.length < 1000)
    (k : ∀ H', Sta K B F S0 [(l, (s ++ [(m, j)]).map pairD), (a, bag)] Γ [] σ H' → E.nx σ H') : tDrop (tBM K "list" rAppend (tVar 2) (tCons (tTup (tCons (tVar 3) (tCons (tVar 6) tNil))) tNil)) E σ H :=
  s_app (n := 2) (k := 0) st h2 rfl (ev_tup (ea_cons (ev_sl st.sl h3) (ea_cons (ev_sl st.sl h6) ea_nil)) (by simp)) (by rw [List.length_map]; omega) fun H' st => k H' (by rw [List.map_append]; exact st)
/-! what is known of a drawn plan -/
structure PlanOk (f : Int) (s : Steps) : Prop where
  f1 : -850 ≤ f
  f2 : f < 850
  ok : okS s
  len : s.length ≤ 19
  mom : ∀ p ∈ s, -5000 ≤ p.1 ∧ p.1 ≤ 2000000000000
/-- _law_zone(bag, most) -/
def spPlan (K : PySem.W.Frag) (most : Int) : Sp := fun vs H Q _ => ∃ (S : List Addr) (a : Addr) (bag : List D) (xs : List V) (N : Int), vs = [.ref a, .int most] ∧ Ok S H ∧ a ∉ S ∧ H a = some (.lst xs) ∧ RpA K (Hx H (a :: S)) xs bag ∧ BagOk N bag ∧ N ≤ 1000 ∧
  ∀ v f s bag' xs' H', PlanOk f s → BagOk (N + 200) bag' → (∀ b u, H b = some u → b ≠ a → H' b = some u) → H' a = some (.lst xs') → RpA K (Hx H' (a :: S)) xs' bag' → Rp K (Hx H' (a :: S)) v (planD f s) → Q v H'
end Zn


set_option Elab.async false
set_option linter.all false
set_option maxRecDepth 100000
set_option maxHeartbeats 2000000
namespace Z
open PySem L2
open Evl (Ex ex_l ex_t sz_of sz_lt fresh_back)
section
variable {K : PySem.W.Frag} {B F H : Hp} {S0 : List Addr} {os : Os} {Γ : List Sl} {tm : List (V × D)} {σ : L2.St} {E : Ends} {tz tu tw : TS} {te : TE} {l p : Addr} {ds es : List D} {d d0 : D} {n k : Nat} {Q : VK} {b : Bool}
theorem RpA.setAt {G : Hp} {v : V} (r : Rp K G v d) : ∀ {xs : List V} {ds : List D} (i : Nat), RpA K G xs ds → RpA K G (xs.set i v) (ds.set i d)
  | _, _, _, .nil => .nil
  | _, _, 0, .cons _ h => .cons r h
  | _, _, i + 1, .cons a h => .cons a (RpA.setAt r i h)
/-- xs.extend(new list), xs owned -/
theorem s_ext (st : Sta K B F S0 os Γ tm σ H) (hn : Γ[n]? = some (.at l)) (hk : os[k]? = some (l, ds)) (h : EvF K te σ (Hx H (adr os S0)) (adr os S0) es) (hz : ds.length + es.length ≤ 100000)
    (kk : ∀ H', Sta K B F S0 (os.set k (l, ds ++ es)) Γ [] σ H' → E.nx σ H') : tDrop (tBM K "list" rExtend (tVar n) (tCons te tNil)) E σ H := by
  obtain ⟨xs, h1, h2⟩ := st.at_ hk
  refine ⟨_, st.slot hn, Or.inl ⟨rfl, xs, Or.inl (Or.inl h1)⟩, ?_⟩
  refine h H (Ex.refl _) st.ok _ fun q zs H2 hp e h3 rz => ?_
  have st2 := (st.step e).clr
  have r2 := h2.up (Hx.mono e)
  refine ⟨l, q, xs, zs, rfl, rfl, e _ _ h1, h3, sz_of (by rw [h2.len, rz.len]; exact hz), kk _ ?_⟩
  exact st2.chg hk (r2.append (rz.up (Hx.sub fun a m => List.mem_cons_of_mem _ m)))
theorem q_ext (st : Sta K B F S0 os Γ tm σ H) (hn : Γ[n]? = some (.at l)) (hk : os[k]? = some (l, ds)) (h : EvF K te σ (Hx H (adr os S0)) (adr os S0) es) (hz : ds.length + es.length ≤ 100000)
    (kk : ∀ H', Sta K B F S0 (os.set k (l, ds ++ es)) Γ [] σ H' → tz E σ H') : tSeq (tDrop (tBM K "list" rExtend (tVar n) (tCons te tNil))) tz E σ H := s_ext (E := { E with nx := tz E }) st hn hk h hz kk
/-- xs[-1] = e, xs owned -/
theorem s_setL (st : Sta K B F S0 os Γ tm σ H) (hn : Γ[n]? = some (.at l)) (hk : os[k]? = some (l, ds ++ [d0])) (h : Ev K te σ (Hx H (adr os S0)) (adr os S0) d)
    (kk : ∀ H', Sta K B F S0 (os.set k (l, ds ++ [d])) Γ [] σ H' → E.nx σ H') : tAsg te (gSub (tVar n) (tUn (rU fun i => .int (-i)) (tC (.int 1))) rSetL) E σ H := by
  obtain ⟨xs, h1, h2⟩ := st.at_ hk
  refine h H (Ex.refl _) st.ok _ fun v H2 e rv => ?_
  have st2 := (st.step e).clr
  have r2 := h2.up (Hx.mono e)
  have hl : xs.length = ds.length + 1 := by rw [h2.len, List.length_append]; rfl
  refine ⟨_, st.slot hn, 1, rfl, l, xs, -1, ds.length, rfl, rfl, e _ _ h1, ?_, kk _ ?_⟩
  · unfold ixN
    rw [if_neg (by omega), if_pos (by omega)]
    congr 1
    omega
  · have := st2.chg hk (RpA.setAt rv ds.length r2)
    rw [List.set_append_right _ _ (Nat.le_refl _), Nat.sub_self] at this
    exact this
theorem cut_init {α : Type} (xs : List α) : cut xs none (some (-1)) = xs.dropLast := by
  unfold cut
  have e1 : HT.sIx xs.length 0 none = 0 := rfl
  have e2 : HT.sIx xs.length xs.length (some (-1)) = xs.length - 1 := by
    unfold HT.sIx
    simp
    omega
  rw [e1, e2, List.drop_zero, Nat.sub_zero, List.dropLast_eq_take]
theorem cut_rest {α : Type} (xs : List α) : cut xs (some 1) none = xs.tail := by
  cases xs with
  | nil =>
    unfold cut
    simp
  | cons x r => exact cut_tail x r
end
end Z
namespace Zn
open PySem L2 Z
def shift : Steps → Steps
  | [] => []
  | (m, j) :: r => (m - 1, j) :: r
def flip1 (j : Int) : Int := if j = 1 then -1 else 1
def othersP (f : Int) (s : Steps) : List (Int × Steps) := match s.getLast? with
  | none => [(f + 1, s)]
  | some (ml, jl) => [(f + 1, s), (f, s.dropLast), (f, shift s), (f, s.dropLast ++ [(ml, flip1 jl)]), (f, s ++ [(ml + 2000, 7)])]
theorem spansIf_snoc (p : Int → Bool) : ∀ (f : Int) (s : Steps) (m j : Int), spansIf p f (s ++ [(m, j)]) = spansIf p f s ++ (if p j then [(m + min (f + (s.map (·.2)).sum) (f + (s.map (·.2)).sum + j), m + max (f + (s.map (·.2)).sum) (f + (s.map (·.2)).sum + j))] else [])
  | f, [], m, j => by
    simp [spansIf]
  | f, (m1, j1) :: r, m, j => by
    have e : f + (((m1, j1) :: r).map (·.2)).sum = f + j1 + (r.map (·.2)).sum := by
      rw [List.map_cons, List.sum_cons]; omega
    rw [e, List.cons_append, spansIf, spansIf, spansIf_snoc p (f + j1) r m j]
    by_cases h : p j1 = true
    · rw [if_pos h, if_pos h, List.cons_append]
    · rw [if_neg h, if_neg h]
end Zn
namespace Zn
open PySem L2 Z
theorem spansIf_len (p : Int → Bool) : ∀ (f : Int) (s : Steps), (spansIf p f s).length ≤ s.length
  | _, [] => Nat.le_refl _
  | o, (m, j) :: r => by
    rw [spansIf]
    have ih := spansIf_len p (o + j) r
    by_cases h : p j = true
    · rw [if_pos h, List.length_cons, List.length_cons]; omega
    · rw [if_neg h, List.length_cons]; omega
theorem flip_at (j : Int) : atI [D.int 1, D.int (-1)] (if decide (j = 1) then 1 else 0) = some (.int (flip1 j)) := by
  unfold flip1
  by_cases h : j = 1
  · rw [if_pos h, if_pos (decide_eq_true h)]; rfl
  · rw [if_neg h, if_neg (by simpa using h)]; rfl
end Zn
namespace Zn
open PySem L2 Z
theorem atI_zero {α : Type} (x : α) (xs : List α) : atI (x :: xs) 0 = some x := by
  unfold atI ixN
  rw [if_pos (by omega), if_pos (by rw [List.length_cons]; omega)]
  rfl
end Zn


set_option Elab.async false
set_option linter.all false
set_option maxRecDepth 100000
set_option maxHeartbeats 2000000
namespace Z
open PySem L2
open Evl (Ex ex_l ex_t sz_of sz_lt fresh_back)
section
variable {K : PySem.W.Frag} {B F H : Hp} {S0 : List Addr} {os : Os} {Γ : List Sl} {tm : List (V × D)} {σ : L2.St} {E : Ends} {tz tb tu tw : TS} {te : TE} {ta : TA} {l L p : Addr} {ds es : List D} {d d0 : D} {n k i j : Nat} {Q : VK} {b : Bool} {c : Int} {as : List Addr}
/-- a loop over range, by any state -/
theorem s_rng (st : Sta K B F S0 os Γ tm σ H) (h : EvA K ta σ (Hx H (adr os S0)) (adr os S0) [.int c]) (h0 : 0 ≤ c) (h1 : c ≤ 1000000) (I : Nat → L2.St → Hp → Prop) (hi : ∀ H', Sta K B F S0 os Γ tm σ H' → I 0 σ H')
    (hs : ∀ i : Nat, (i : Int) < c → ∀ σ' H', I i σ' H' → tb { E with nx := I (i + 1), ct := I (i + 1), bk := E.nx } (σ'.set j (some (.int (0 + (i : Int))))) H') (hd : ∀ σ' H', I c.toNat σ' H' → E.nx σ' H') : tFor (iRng1 ta) (gName j) tb E σ H := by
  refine h H (Ex.refl _) st.ok _ fun vs H2 e2 rv => ?_
  obtain ⟨u, rfl, ru⟩ := rv.one_inv
  rw [ru.int_inv]
  refine ⟨c, rfl, by omega, by omega, fun i m σ' H' => m = c.toNat - i ∧ i ≤ c.toNat ∧ I i σ' H', ⟨c.toNat, by simp, Nat.zero_le _, hi H2 (st.step e2)⟩, ?_⟩
  rintro i m σ' H' ⟨rfl, hi2, hI⟩
  by_cases hlt : i < c.toNat
  · refine Or.inr ⟨hlt, I (i + 1), fun σ2 H3 q => ⟨c.toNat - (i + 1), by omega, rfl, hlt, q⟩, fun x H3 hy => ?_⟩
    obtain ⟨rfl, rfl⟩ := hy
    exact hs i (by omega) σ' _ hI
  · have : i = c.toNat := by omega
    subst this
    exact Or.inl ⟨Nat.le_refl _, hd σ' H' hI⟩
theorem q_rng (st : Sta K B F S0 os Γ tm σ H) (h : EvA K ta σ (Hx H (adr os S0)) (adr os S0) [.int c]) (h0 : 0 ≤ c) (h1 : c ≤ 1000000) (I : Nat → L2.St → Hp → Prop) (hi : ∀ H', Sta K B F S0 os Γ tm σ H' → I 0 σ H')
    (hs : ∀ i : Nat, (i : Int) < c → ∀ σ' H', I i σ' H' → tb { { E with nx := tz E } with nx := I (i + 1), ct := I (i + 1), bk := tz E } (σ'.set j (some (.int (0 + (i : Int))))) H') (hd : ∀ σ' H', I c.toNat σ' H' → tz E σ' H') : tSeq (tFor (iRng1 ta) (gName j) tb) tz E σ H :=
  s_rng (E := { E with nx := tz E }) st h h0 h1 I hi hs hd
/-- a loop over an owned list of places -/
theorem s_forO (st : Sta K B F S0 os Γ tm σ H) (hn : Γ[n]? = some (.at L)) (I : Nat → L2.St → Hp → Prop) (h0 : I 0 σ H) (hI : ∀ i σ' H', I i σ' H' → H' L = some (.lst (as.map V.ref)))
    (hs : ∀ i a, as[i]? = some a → ∀ σ' H', I i σ' H' → tb { E with nx := I (i + 1), ct := I (i + 1), bk := E.nx } (σ'.set j (some (.ref a))) H') (hd : ∀ σ' H', I as.length σ' H' → E.nx σ' H') : tFor (iList K (tVar n)) (gName j) tb E σ H := by
  refine ⟨_, st.slot hn, L, rfl, ⟨_, Or.inl (Or.inl (hI 0 σ H h0))⟩, fun i m σ' H' => m = as.length - i ∧ i ≤ as.length ∧ I i σ' H', ⟨as.length, by simp, Nat.zero_le _, h0⟩, ?_⟩
  rintro i m σ' H' ⟨rfl, hi2, hi⟩
  have hL : SqL K H' L (as.map V.ref) := Or.inl (Or.inl (hI i σ' H' hi))
  by_cases hlt : i < as.length
  · have ea : as[i]? = some as[i] := List.getElem?_eq_getElem hlt
    have ev : (as.map V.ref)[i]? = some (.ref as[i]) := by rw [List.getElem?_map, ea]; rfl
    refine Or.inr ⟨⟨_, _, hL, ev⟩, I (i + 1), fun σ2 H3 q => ⟨as.length - (i + 1), by omega, rfl, hlt, q⟩, fun x H3 hy => ?_⟩
    obtain ⟨rfl, hx⟩ := hy
    have : some (V.ref as[i]) = some x := ev.symm.trans (hx _ hL)
    cases this
    exact hs i _ ea σ' _ hi
  · have : i = as.length := by omega
    subst this
    exact Or.inl ⟨⟨_, hL, by simp⟩, hd σ' H' hi⟩
theorem RpA.adrs {G : Hp} : ∀ {xs : List V} {as : List Addr}, RpA K G xs (as.map D.adr) → xs = as.map V.ref
  | _, [], h => by cases h; rfl
  | _, a :: as, h => by
    cases h with
    | cons h1 h2 => rw [h1.adr_inv, RpA.adrs h2]; rfl
/-- a new list is owned, as a part of an expression -/
theorem w_F (st : Sta K B F S0 os Γ tm σ H) (h : EvF K te σ (Hx H (adr os S0)) (adr os S0) ds) (k : ∀ l H', Sta K B F S0 ((l, ds) :: os) Γ tm σ H' → Q (.ref l) H') : te σ H Q :=
  h H (Ex.refl _) st.ok _ fun p xs H2 hp e h2 ra => k p H2 (st.gain e hp h2 ra)
/-! places, read through -/
def Res1 (os : Os) (d d' : D) : Prop := d = d' ∨ ∃ a es, d = .adr a ∧ (a, es) ∈ os ∧ d' = .lst es
inductive ResA (os : Os) : List D → List D → Prop
  | nil : ResA os [] []
  | cons {d d' : D} {ds ds' : List D} : Res1 os d d' → ResA os ds ds' → ResA os (d :: ds) (d' :: ds')
theorem ResA.refl (os : Os) : ∀ ds : List D, ResA os ds ds
  | [] => .nil
  | d :: ds => .cons (Or.inl rfl) (ResA.refl os ds)
theorem Sta.res (st : Sta K B F S0 os Γ tm σ H) : ∀ {xs : List V} {ds ds' : List D}, RpA K (Hx H (adr os S0)) xs ds → ResA os ds ds' → RpA K (Hx H []) xs ds'
  | _, _, _, .nil, .nil => .nil
  | _, _, _, .cons h1 h2, .cons r1 r2 => by
    have g : Ex (Hx H (adr os S0)) (Hx H []) := Hx.sub fun a m => by simp at m
    refine .cons ?_ (st.res h2 r2)
    rcases r1 with rfl | ⟨a, es, rfl, hm, rfl⟩
    · exact h1.up g
    · rw [h1.adr_inv]
      obtain ⟨ys, k1, k2⟩ := st.own _ hm
      exact .lst (Hx.of k1 (by simp)) (k2.up g)
theorem Sls.put {G : Hp} {v : V} (sl : Sls K G σ Γ) (hv : σ[n]? = some (some v)) (r : Rp K G v d) : Sls K G σ (Γ.set n (.d d)) := by
  have := sl.set (s := .d d) (o := some v) ⟨_, rfl, r⟩ n
  have e : σ.set n (some v) = σ := by
    apply List.ext_getElem?
    intro i
    rw [List.getElem?_set]
    by_cases q : n = i
    · subst q
      have hlt := (List.getElem?_eq_some_iff.1 hv).1
      rw [if_pos rfl, if_pos hlt, hv]
    · rw [if_neg q]
  rw [e] at this
  exact this
theorem Sta.viewO {ds' : List D} (st : Sta K B F S0 os Γ tm σ H) (hn : Γ[n]? = some (.at l)) (hm : (l, ds) ∈ os) (hr : ResA os ds ds') : Sls K (Hx H []) σ (Γ.set n (.d (.lst ds'))) := by
  obtain ⟨xs, h1, h2⟩ := st.own _ hm
  have g : Ex (Hx H (adr os S0)) (Hx H []) := Hx.sub fun a m => by simp at m
  exact (st.sl.up g).put (st.slot hn) (.lst (Hx.of h1 (by simp)) (st.res h2 hr))
theorem Sta.viewR {ds' : List D} (st : Sta K B F S0 os Γ tm σ H) (hn : Γ[n]? = some (.d (.lst ds))) (hr : ResA os ds ds') : Sls K (Hx H []) σ (Γ.set n (.d (.lst ds'))) := by
  have g : Ex (Hx H (adr os S0)) (Hx H []) := Hx.sub fun a m => by simp at m
  obtain ⟨o, h1, v, rfl, rv⟩ := st.sl.get hn
  obtain ⟨a, xs, rfl, h2, h3⟩ := rv.lst_inv
  exact (st.sl.up g).put h1 (.lst (g _ _ h2) (st.res h3 hr))
/-- [list(x) for x in tuples]: all its lists are owned -/
theorem w_lists {r : List V → Hp → VK → Prop} {wi : TI} {vs : List Nat} {ps : List (List D)} (hr : ∀ ds, RCF K r [.tup ds] ds) (st : Sta K B F S0 os Γ tm σ H) (h : EvI K wi σ (Hx H (adr os S0)) (adr os S0) (ps.map D.tup)) (hz : ps.length ≤ 40000) (hv : j ∈ vs) (hj : ∀ d, ((wipeΓ Γ vs).set j (.d d))[j]? = some (.d d))
    (kk : ∀ (ents : Os) Dl H', ents.reverse.map (·.2) = ps → Sta K B F S0 (ents ++ (Dl, ents.reverse.map fun e => D.adr e.1) :: os) Γ tm σ H' → Q (.ref Dl) H') : tLc wi (gName j) tYes (tCB r (tCons (tVar j) tNil)) vs σ H Q := by
  refine h H (Ex.refl _) st.ok _ fun J H2 e2 hJ Dl hD => ?_
  have st2 : Sta K (Hx H2 (adr os S0)) F S0 os Γ tm σ H2 := by
    have s := st.step e2
    exact ⟨Ex.refl _, s.frm, s.ok0, s.nd, s.ns, s.own, s.sl, s.tmp⟩
  have st3 : Sta K (Hx H2 (adr os S0)) F S0 ((Dl, []) :: os) Γ tm σ (upd H2 Dl (.lst [])) := st2.gain (Evl.Ex.new hD) hD upd_same .nil
  refine ⟨fun i m H => m = ps.length - i ∧ i ≤ ps.length ∧ ∃ ents : Os, ents.reverse.map (·.2) = ps.take i ∧ Sta K (Hx H2 (adr os S0)) F S0 (ents ++ (Dl, ents.reverse.map fun e => D.adr e.1) :: os) Γ tm σ H, ⟨ps.length, by simp, Nat.zero_le _, [], by simp, st3⟩, ?_⟩
  rintro i m H3 ⟨rfl, hi, ents, he, s3⟩
  obtain ⟨h1, h2⟩ := hJ _ H3 s3.ext s3.ok
  by_cases hlt : i < ps.length
  · have ep : ps[i]? = some ps[i] := List.getElem?_eq_getElem hlt
    obtain ⟨hgo, hy⟩ := h1 i (.tup ps[i]) (by rw [List.getElem?_map, ep]; rfl)
    refine Or.inr ⟨hgo, fun H => ∃ ents : Os, ents.reverse.map (·.2) = ps.take (i + 1) ∧ Sta K (Hx H2 (adr os S0)) F S0 (ents ++ (Dl, ents.reverse.map fun e => D.adr e.1) :: os) Γ tm σ H, fun H' q => ⟨ps.length - (i + 1), by omega, rfl, hlt, q⟩, fun x H4 hyl => ?_⟩
    obtain ⟨e4, rx⟩ := hy x H4 hyl
    have s4 := s3.step e4
    refine ⟨(wipe_set hv).trans (wipe_wipe σ vs), ?_⟩
    have sl := (s4.sl.wipe vs).set (s := .d (.tup ps[i])) (o := some x) ⟨x, rfl, rx⟩ j
    refine (ef_cb (ea_cons (ev_sl sl (hj _)) ea_nil) (hr _) : EvF K _ _ _ _ _) H4 (Ex.refl _) s4.ok _ fun q xs H5 hq e5 h5 rq => ?_
    have s5 := s4.gain e5 hq h5 rq
    have hmem : (Dl, ents.reverse.map fun e => D.adr e.1) ∈ (q, ps[i]) :: (ents ++ (Dl, ents.reverse.map fun e => D.adr e.1) :: os) := by simp
    obtain ⟨acc, ha, racc⟩ := s5.own _ hmem
    have hlen : acc.length = ents.length := by rw [racc.len]; simp
    have hlen2 : ents.length ≤ ps.length := by
      have := congrArg List.length he
      simp at this
      omega
    refine ⟨acc, ha, sz_lt (by omega), (q, ps[i]) :: ents, ?_, ?_⟩
    · rw [List.reverse_cons, List.map_append, he, List.take_add_one, ep]; rfl
    · have hk : ((q, ps[i]) :: (ents ++ (Dl, ents.reverse.map fun e => D.adr e.1) :: os))[ents.length + 1]? = some (Dl, ents.reverse.map fun e => D.adr e.1) := by
        rw [List.getElem?_cons_succ, List.getElem?_append_right (Nat.le_refl _), Nat.sub_self]; rfl
      have s6 := s5.chg hk (racc.append (.cons (.adr q) .nil))
      rw [List.set_cons_succ, List.set_append_right _ _ (Nat.le_refl _), Nat.sub_self, List.set_cons_zero] at s6
      have e6 : ((q, ps[i]) :: ents).reverse.map (fun e => D.adr e.1) = (ents.reverse.map fun e => D.adr e.1) ++ [.adr q] := by rw [List.reverse_cons, List.map_append]; rfl
      rw [e6]
      exact s6
  · have : i = ps.length := by omega
    subst this
    rw [List.take_length] at he
    rw [List.length_map] at h2
    exact Or.inl ⟨h2, kk ents Dl H3 he (s3.base (st.ext.trans (Hx.mono e2)))⟩
end
end Z


set_option Elab.async false
set_option linter.all false
set_option maxRecDepth 100000
set_option maxHeartbeats 2000000
namespace Zn
open PySem L2 Z
/-! ### plain laws: equality -/
theorem eqvAll_ints : ∀ xs ys : List Int, PyData.eqvAll (pyL (xs.map D.int)) (pyL (ys.map D.int)) = true → xs = ys
  | [], [], _ => rfl
  | [], y :: ys, h => by simp [pyL, PyData.eqvAll] at h
  | x :: xs, [], h => by simp [pyL, PyData.eqvAll] at h
  | x :: xs, y :: ys, h => by
    simp only [List.map_cons, pyL, PyData.eqvAll, Bool.and_eq_true, D.py] at h
    obtain ⟨h1, h2⟩ := h
    have e : x = y := by simpa [PyData.eqv] using h1
    rw [e, eqvAll_ints xs ys h2]
theorem offs_inj : ∀ {f : Int} {s s' : Steps}, (offs f s).map (·.2) = (offs f s').map (·.2) → s.map (·.1) = s'.map (·.1) → s = s'
  | _, [], [], _, _ => rfl
  | _, [], _ :: _, _, h => by simp at h
  | _, _ :: _, [], _, h => by simp at h
  | f, (m, j) :: r, (m', j') :: r', h1, h2 => by
    simp only [offs, List.map_cons, List.cons.injEq] at h1 h2
    obtain ⟨a1, a2⟩ := h1
    obtain ⟨b1, b2⟩ := h2
    have ej : j = j' := by omega
    subst ej
    have : r = r' := offs_inj a2 b2
    subst this
    have : m = m' := b1
    subst this
    rfl
theorem parts_ne {f f' : Int} {s s' : Steps} (h : ¬ (f = f' ∧ s = s')) : (partsD f s).eq (partsD f' s') = false := by
  cases q : (partsD f s).eq (partsD f' s') with
  | false => rfl
  | true =>
    exfalso
    apply h
    unfold D.eq partsD intsD at q
    simp only [D.py, pyL, PyData.eqv, PyData.eqvAll, Bool.and_eq_true, Bool.and_true] at q
    obtain ⟨q1, q2⟩ := q
    have e1 := eqvAll_ints (f :: (offs f s).map (·.2)) (f' :: (offs f' s').map (·.2)) q1
    have e2 := eqvAll_ints _ _ q2
    rw [List.cons.injEq] at e1
    obtain ⟨e3, e4⟩ := e1
    subst e3
    exact ⟨rfl, offs_inj e4 e2⟩
theorem parts_same (f : Int) (s : Steps) : (partsD f s).eq (partsD f s) = true := eq_refl 2 _ (good_parts f s)
theorem jok_all : ∀ {s : Steps}, okS s → ∀ p ∈ s, jok p.2
  | [], _, p, h => by simp at h
  | [(m, j)], h1, p, h => by
    simp at h
    subst h
    exact h1
  | (m, j) :: (m2, j2) :: r, h1, p, h => by
    obtain ⟨k1, k2, k3⟩ := (show jok j ∧ m2 - m > (j.natAbs : Int) + (j2.natAbs : Int) ∧ okS ((m2, j2) :: r) from h1)
    rcases List.mem_cons.mp h with rfl | h
    · exact k1
    · exact jok_all k3 p h
theorem shift_ok : ∀ {s : Steps}, okS s → okS (shift s)
  | [], _ => trivial
  | [(m, j)], h => h
  | (m, j) :: (m2, j2) :: r, h => by
    obtain ⟨k1, k2, k3⟩ := (show jok j ∧ m2 - m > (j.natAbs : Int) + (j2.natAbs : Int) ∧ okS ((m2, j2) :: r) from h)
    exact ⟨k1, show m2 - (m - 1) > _ by omega, k3⟩
theorem drop_last {s : Steps} {q : Int × Int} (h : s.getLast? = some q) : s.dropLast ++ [q] = s := by
  have hne : s ≠ [] := fun e => by rw [e] at h; cases h
  have := List.dropLast_concat_getLast hne
  rw [List.getLast?_eq_some_getLast hne] at h
  rw [Option.some.inj h] at this
  exact this
theorem jok_flip (j : Int) : jok (flip1 j) := by
  unfold flip1 jok
  by_cases h : j = 1
  · rw [if_pos h]; decide
  · rw [if_neg h]; decide
theorem flip_ne {j : Int} (h : jok j) : flip1 j ≠ j := by
  unfold flip1
  by_cases e : j = 1
  · rw [if_pos e]; omega
  · rw [if_neg e]; omega
theorem flip_abs (j : Int) : (flip1 j).natAbs = 1 := by
  unfold flip1
  by_cases e : j = 1
  · rw [if_pos e]; rfl
  · rw [if_neg e]; rfl
theorem others_ok {f : Int} {s : Steps} (h : okS s) (hl : s.length ≤ 19) : ∀ q ∈ othersP f s, okS q.2 ∧ q.2.length ≤ 1000 ∧ ¬ (q.1 = f ∧ q.2 = s) := by
  intro q hq
  unfold othersP at hq
  cases e : s.getLast? with
  | none =>
    rw [e] at hq
    simp at hq
    subst hq
    exact ⟨h, by show s.length ≤ 1000; omega, fun k => by have : f + 1 = f := k.1; omega⟩
  | some p =>
    obtain ⟨ml, jl⟩ := p
    rw [e] at hq
    simp only [List.mem_cons, List.not_mem_nil, or_false] at hq
    have hs := drop_last e
    have hj := okS_last_jok h e
    have hlen : s.length = s.dropLast.length + 1 := by
      have := congrArg List.length hs
      simp at this ⊢
      omega
    have hok1 : okS s.dropLast := okS_pre (t := [(ml, jl)]) (by rw [hs]; exact h)
    have hnear := okS_last (s := s.dropLast) (p := (ml, jl)) (by rw [hs]; exact h)
    rcases hq with rfl | rfl | rfl | rfl | rfl
    · exact ⟨h, by show s.length ≤ 1000; omega, fun k => by have : f + 1 = f := k.1; omega⟩
    · refine ⟨hok1, by show s.dropLast.length ≤ 1000; omega, fun k => ?_⟩
      have := congrArg List.length k.2
      simp only at this
      omega
    · refine ⟨shift_ok h, ?_, fun k => ?_⟩
      · cases s with
        | nil => simp at e
        | cons p r => show (shift (p :: r)).length ≤ 1000; simp [shift] at hl ⊢; omega
      · cases s with
        | nil => simp at e
        | cons p r =>
          obtain ⟨m0, j0⟩ := p
          have k2 : (m0 - 1, j0) :: r = (m0, j0) :: r := k.2
          rw [List.cons.injEq, Prod.mk.injEq] at k2
          have := k2.1.1
          omega
    · refine ⟨okS_snoc hok1 (jok_flip jl) (fun m0 j0 e0 => ?_), ?_, fun k => ?_⟩
      · have := hnear.2 m0 j0 e0
        rw [flip_abs]
        show ml - m0 > _
        have h1 : (ml : Int) - m0 > (jl.natAbs : Int) + (j0.natAbs : Int) := this
        have h2 : (1 : Int) ≤ (jl.natAbs : Int) := by have := hj.1; omega
        omega
      · simp at hlen ⊢; omega
      · have k2 : s.dropLast ++ [(ml, flip1 jl)] = s := k.2
        rw [← hs] at k2
        have k3 := List.append_cancel_left (by simpa using k2 : s.dropLast ++ [(ml, flip1 jl)] = s.dropLast ++ [(ml, jl)])
        simp at k3
        exact flip_ne hj k3
    · refine ⟨okS_snoc h (by unfold jok; decide) (fun m0 j0 e0 => ?_), by simp; omega, fun k => ?_⟩
      · rw [e] at e0
        cases e0
        obtain ⟨g1, g2, g3⟩ := hj
        show ml + 2000 - ml > (jl.natAbs : Int) + ((7 : Int).natAbs : Int)
        omega
      · have := congrArg List.length k.2
        simp at this
theorem spans_p1 (f : Int) (s : Steps) : spansIf (fun j => decide (0 < j * 1)) f s = spansIf (fun j => decide (0 < j)) f s := by
  congr 1
  funext j
  rw [Int.mul_one]
theorem spans_m1 (f : Int) (s : Steps) : spansIf (fun j => decide (0 < j * -1)) f s = spansIf (fun j => decide (j < 0)) f s := by
  congr 1
  funext j
  have : (0 < j * -1) = (j < 0) := by
    apply propext
    constructor <;> intro h <;> omega
  exact decide_eq_decide.2 (by rw [this])
/-! ### plain laws: texts -/
def Bd (N x : Int) : Prop := -N ≤ x ∧ x ≤ N
theorem offs_bd {M : Int} : ∀ {A f : Int} {s : Steps}, (∀ p ∈ s, jok p.2 ∧ Bd M p.1) → Bd A f → ∀ q ∈ offs f s, Bd M q.1 ∧ Bd (A + 720 * s.length) q.2
  | A, f, [], _, _, q, hq => by simp [offs] at hq
  | A, f, (m, j) :: r, h, hf, q, hq => by
    rw [offs] at hq
    obtain ⟨⟨j0, j1, j2⟩, hm⟩ := h (m, j) List.mem_cons_self
    simp only at j1 j2 hm
    obtain ⟨f1, f2⟩ := hf
    have hl : (((m, j) :: r).length : Int) = r.length + 1 := by simp
    rcases List.mem_cons.mp hq with rfl | hq
    · refine ⟨hm, ?_⟩
      show Bd _ (f + j)
      constructor <;> omega
    · have := offs_bd (A := A + 720) (f := f + j) (s := r) (fun p hp => h p (List.mem_cons_of_mem _ hp)) ⟨by omega, by omega⟩ q hq
      obtain ⟨k1, k2, k3⟩ := this
      exact ⟨k1, by omega, by omega⟩
theorem spans_bd {M : Int} {p : Int → Bool} : ∀ {A f : Int} {s : Steps}, (∀ p ∈ s, jok p.2 ∧ Bd M p.1) → Bd A f → ∀ q ∈ spansIf p f s, Bd (M + A + 720 * s.length) q.1 ∧ Bd (M + A + 720 * s.length) q.2
  | A, f, [], _, _, q, hq => by simp [spansIf] at hq
  | A, f, (m, j) :: r, h, hf, q, hq => by
    rw [spansIf] at hq
    obtain ⟨⟨j0, j1, j2⟩, hm1, hm2⟩ := h (m, j) List.mem_cons_self
    simp only at j1 j2 hm1 hm2
    obtain ⟨f1, f2⟩ := hf
    have hl : (((m, j) :: r).length : Int) = r.length + 1 := by simp
    have rest : q ∈ spansIf p (f + j) r → Bd (M + A + 720 * ((m, j) :: r).length) q.1 ∧ Bd (M + A + 720 * ((m, j) :: r).length) q.2 := fun hq => by
      have := spans_bd (A := A + 720) (f := f + j) (s := r) (fun p hp => h p (List.mem_cons_of_mem _ hp)) ⟨by omega, by omega⟩ q hq
      obtain ⟨⟨k1, k2⟩, k3, k4⟩ := this
      exact ⟨⟨by omega, by omega⟩, by omega, by omega⟩
    by_cases c : p j = true
    · rw [if_pos c] at hq
      rcases List.mem_cons.mp hq with rfl | hq
      · constructor
        · show Bd _ (m + min f (f + j))
          constructor <;> omega
        · show Bd _ (m + max f (f + j))
          constructor <;> omega
      · exact rest hq
    · rw [if_neg c] at hq
      exact rest hq
theorem shows_int {N x : Int} {n : Nat} (h : Bd N x) (hN : N ≤ 10000000000000) : shows n (.int x) := by
  unfold shows
  obtain ⟨h1, h2⟩ := h
  have : x.natAbs < 2 ^ 64 := by omega
  exact Nat.lt_of_lt_of_le this (Nat.pow_le_pow_right (by decide) (by decide))
theorem shows_pairs {N : Int} {l : List (Int × Int)} (h : ∀ q ∈ l, Bd N q.1 ∧ Bd N q.2) (hN : N ≤ 10000000000000) : shows 2 (.lst (l.map pairD)) := by
  unfold shows
  intro x hx
  obtain ⟨q, hq, rfl⟩ := List.mem_map.1 hx
  unfold pairD shows
  intro y hy
  simp only [List.mem_cons, List.not_mem_nil, or_false] at hy
  rcases hy with rfl | rfl
  · exact shows_int (h q hq).1 hN
  · exact shows_int (h q hq).2 hN
theorem shows_ints {N : Int} {l : List Int} (h : ∀ q ∈ l, Bd N q) (hN : N ≤ 10000000000000) : shows 2 (.lst (l.map D.int)) := by
  unfold shows
  intro x hx
  obtain ⟨q, hq, rfl⟩ := List.mem_map.1 hx
  exact shows_int (h q hq) hN
theorem wt_int (n : Nat) (i : Int) : wt n (.int i) = 1921 := by cases n <;> (unfold wt; rfl)
theorem wt_pairs (l : List (Int × Int)) : wt 2 (.lst (l.map pairD)) = 2 + 3852 * l.length := by
  unfold wt
  rw [List.map_map]
  have : ∀ l : List (Int × Int), (l.map ((fun x => wt 1 x + 2) ∘ pairD)).sum = 3852 * l.length := fun l => by
    induction l with
    | nil => rfl
    | cons p r ih =>
      rw [List.map_cons, List.sum_cons, ih, List.length_cons]
      have : wt 1 (pairD p) = 3850 := by
        unfold pairD wt
        simp [wt_int]
      simp only [Function.comp]
      rw [this]
      omega
  rw [this]
theorem wt_ints (l : List Int) : wt 2 (.lst (l.map D.int)) = 2 + 1923 * l.length := by
  unfold wt
  rw [List.map_map]
  have : ∀ l : List Int, (l.map ((fun x => wt 1 x + 2) ∘ D.int)).sum = 1923 * l.length := fun l => by
    induction l with
    | nil => rfl
    | cons p r ih =>
      rw [List.map_cons, List.sum_cons, ih, List.length_cons]
      simp only [Function.comp, wt_int]
      omega
  rw [this]
end Zn


set_option Elab.async false
set_option linter.all false
set_option maxRecDepth 100000
set_option maxHeartbeats 2000000
namespace Z
open PySem L2
open Evl (Ex ex_l ex_t sz_of sz_lt fresh_back)
section
variable {K : PySem.W.Frag} {B F H H' : Hp} {S0 : List Addr} {os : Os} {Γ Γ' : List Sl} {tm : List (V × D)} {σ : L2.St} {E : Ends} {tz tb tu tw : TS} {te : TE} {ta : TA} {a l L p : Addr} {ds es : List D} {d d0 : D} {n k i j : Nat} {Q : VK} {b : Bool} {c : Int} {as : List Addr}
theorem Sta.forget (st : Sta K B F S0 os Γ tm σ H) : Sta K B F S0 [] Γ [] σ H := by
  have g : Ex (Hx H (adr os S0)) (Hx H (adr [] S0)) := Hx.sub fun a m => List.mem_append_right _ m
  exact ⟨st.ext.trans g, st.frm, st.ok0, by simp, fun p hp => by simp at hp, fun p hp => by simp at hp, st.sl.up g, fun p hp => by simp at hp⟩
theorem Sta.one (st : Sta K B F [] [(a, ds)] Γ tm σ H) {xs : List V} (fr : ∀ b u, H b = some u → b ≠ a → H' b = some u) (h1 : H' a = some (.lst xs)) (h2 : RpA K (Hx H' [a]) xs es) : Sta K B F [] [(a, es)] Γ tm σ H' := by
  have g : Ex (Hx H (adr [(a, ds)] [])) (Hx H' (adr [(a, ds)] [])) := fun b u q => by
    obtain ⟨q1, q2⟩ := Hx.inv q
    exact Hx.of (fr b u q1 fun e => q2 (by rw [e]; simp)) q2
  exact ⟨st.ext.trans g, fun b m => by simp at m, st.ok0, st.nd, fun p hp => by simp at hp; subst hp; simp, fun p hp => by simp at hp; subst hp; exact ⟨xs, h1, h2⟩, st.sl.up g, fun p hp => (st.tmp p hp).up g⟩
theorem mem_set_ne {e : Addr × List D} {q : Addr × List D} : ∀ {os : Os} {k : Nat} {x : List D}, os[k]? = some (a, x) → e ∈ os → e.1 ≠ a → e ∈ os.set k q
  | [], _, _, _, h, _ => by simp at h
  | y :: ys, 0, x, hk, h, ne => by
    rw [List.getElem?_cons_zero] at hk
    cases hk
    rcases List.mem_cons.mp h with rfl | h
    · exact absurd rfl ne
    · exact List.mem_cons_of_mem _ h
  | y :: ys, k + 1, x, hk, h, ne => by
    rw [List.getElem?_cons_succ] at hk
    rcases List.mem_cons.mp h with rfl | h
    · exact List.mem_cons_self
    · exact List.mem_cons_of_mem _ (mem_set_ne hk h ne)
theorem map_set_same {x y : List D} : ∀ {os : Os} {k : Nat}, os[k]? = some (a, x) → (os.set k (a, y)).map (·.1) = os.map (·.1)
  | [], _, h => by simp at h
  | z :: zs, 0, h => by
    rw [List.getElem?_cons_zero] at h
    cases h
    rfl
  | z :: zs, k + 1, h => by
    rw [List.getElem?_cons_succ] at h
    rw [List.set_cons_succ, List.map_cons, List.map_cons, map_set_same h]
theorem mem_of_set {e q : Addr × List D} {os : Os} {k : Nat} (h : e ∈ os.set k q) : e = q ∨ e ∈ os := by
  rcases List.mem_or_eq_of_mem_set h with h | h
  · exact Or.inr h
  · exact Or.inl h
/-- a.append(e), a one of the owned lists -/
theorem app_step {N : Nat} (st : Sta K B F S0 os Γ tm σ H) (hn : Γ[n]? = some (.at a)) (ha : a ∈ os.map (·.1)) (hN : ∀ e ∈ os, e.2.length ≤ N) (hN2 : N < 90000) (h : Ev K te σ (Hx H (adr os S0)) (adr os S0) d)
    (kk : ∀ os' H', os'.map (·.1) = os.map (·.1) → (∀ e ∈ os', e.2.length ≤ N + 1) → (∀ e ∈ os, e.1 ≠ a → e ∈ os') → Sta K B F S0 os' Γ [] σ H' → E.nx σ H') : tDrop (tBM K "list" rAppend (tVar n) (tCons te tNil)) E σ H := by
  obtain ⟨⟨a', x⟩, hm, rfl⟩ := List.mem_map.mp ha
  obtain ⟨k, hk⟩ := List.getElem?_of_mem hm
  have hx := hN _ hm
  simp only at hx
  refine s_app (n := n) (k := k) st hn hk h (by omega) fun H' st' => kk _ H' (map_set_same hk) (fun e he => ?_) (fun e he ne => mem_set_ne hk he ne) st'
  rcases mem_of_set he with rfl | he
  · show (x ++ [d]).length ≤ N + 1
    rw [List.length_append]
    show x.length + 1 ≤ N + 1
    omega
  · have := hN e he
    omega
/-- L.append(new list), L an owned list of places -/
theorem app_new {N : Nat} (st : Sta K B F S0 os Γ tm σ H) (hn : Γ[n]? = some (.at L)) (hm : (L, as.map D.adr) ∈ os) (hN : ∀ e ∈ os, e.2.length ≤ N) (hN2 : N < 90000) (h : EvF K te σ (Hx H (adr os S0)) (adr os S0) ds) (hd : ds.length ≤ N)
    (kk : ∀ p os' H', p ∉ os.map (·.1) → os'.map (·.1) = p :: os.map (·.1) → (∀ e ∈ os', e.2.length ≤ N + 1) → (L, (as ++ [p]).map D.adr) ∈ os' → Sta K B F S0 os' Γ [] σ H' → E.nx σ H') : tDrop (tBM K "list" rAppend (tVar n) (tCons te tNil)) E σ H := by
  obtain ⟨xs, h1, h2⟩ := st.own _ hm
  refine ⟨_, st.slot hn, Or.inl ⟨rfl, xs, Or.inl (Or.inl h1)⟩, ?_⟩
  refine h H (Ex.refl _) st.ok _ fun p zs H2 hp e h3 rz => ?_
  have st2 := (st.gain e hp h3 rz).clr
  have hpn : p ∉ adr os S0 := st.ok.no hp
  have hm2 : (L, as.map D.adr) ∈ (p, ds) :: os := List.mem_cons_of_mem _ hm
  obtain ⟨k, hk⟩ := List.getElem?_of_mem hm2
  obtain ⟨xs2, h4, r4⟩ := st2.own _ hm2
  have hx := hN _ hm
  simp only at hx
  have st3 := st2.chg hk (r4.append (.cons (.adr p) .nil))
  refine ⟨L, xs2, .ref p, rfl, rfl, h4, sz_lt (by have e : xs2.length = (as.map D.adr).length := r4.len; omega), kk p _ _ (fun m => hpn (List.mem_append_left _ m)) (map_set_same hk) (fun e he => ?_) ?_ st3⟩
  · rcases mem_of_set he with rfl | he
    · show (as.map D.adr ++ [D.adr p]).length ≤ N + 1
      rw [List.length_append]
      show (as.map D.adr).length + 1 ≤ N + 1
      omega
    · rcases List.mem_cons.mp he with rfl | he
      · show ds.length ≤ N + 1; omega
      · have := hN e he
        omega
  · rw [List.map_append]
    have hlt := (List.getElem?_eq_some_iff.1 hk).1
    exact List.mem_set hlt _
theorem resA_of : ∀ {l os : Os}, (∀ e ∈ l, e ∈ os) → ResA os (l.map fun e => D.adr e.1) (l.map fun e => D.lst e.2)
  | [], _, _ => .nil
  | e :: l, os, h => .cons (Or.inr ⟨e.1, e.2, rfl, h e List.mem_cons_self, rfl⟩) (resA_of fun x hx => h x (List.mem_cons_of_mem _ hx))
theorem own_adrs (st : Sta K B F S0 os Γ tm σ H) (hm : (L, as.map D.adr) ∈ os) : H L = some (.lst (as.map V.ref)) := by
  obtain ⟨xs, h1, h2⟩ := st.own _ hm
  rw [RpA.adrs h2] at h1
  exact h1
end
end Z


set_option Elab.async false
set_option linter.all false
set_option maxRecDepth 100000
set_option maxHeartbeats 2000000
namespace Z
open PySem L2
open Evl (Ex ex_l ex_t sz_of sz_lt fresh_back)
section
variable {K : PySem.W.Frag} {B F H H' : Hp} {S0 : List Addr} {os : Os} {Γ Γ' : List Sl} {tm : List (V × D)} {σ : L2.St} {E : Ends} {tz tb tu tw : TS} {te : TE} {ta : TA} {a l L p : Addr} {ds es : List D} {d d0 : D} {n k i j : Nat} {Q : VK} {b : Bool} {c : Int} {as : List Addr}
theorem q_lists {r : List V → Hp → VK → Prop} {wi : TI} {vs : List Nat} {ps : List (List D)} (hr : ∀ ds, RCF K r [.tup ds] ds) (st : Sta K B F S0 os Γ tm σ H) (h : EvI K wi σ (Hx H (adr os S0)) (adr os S0) (ps.map D.tup)) (hz : ps.length ≤ 40000) (hv : j ∈ vs) (hj : ∀ d, ((wipeΓ Γ vs).set j (.d d))[j]? = some (.d d))
    (kk : ∀ (ents : Os) Dl σ' H', ents.reverse.map (·.2) = ps → Sta K B F S0 (ents ++ (Dl, ents.reverse.map fun e => D.adr e.1) :: os) (Γ.set i (.at Dl)) [] σ' H' → tz E σ' H') : tSeq (tAsg (tLc wi (gName j) tYes (tCB r (tCons (tVar j) tNil)) vs) (gName i)) tz E σ H := by
  show tLc wi (gName j) tYes (tCB r (tCons (tVar j) tNil)) vs σ H (fun x H1 => gName i x σ H1 (tz E))
  exact w_lists (Q := fun x H1 => gName i x σ H1 (tz E)) hr st h hz hv hj fun ents Dl H' he st => kk ents Dl _ H' he (st.setAt i)
theorem q_make {C : Addr} {R : List D → List (Str × D) → Prop} {gs : List (Str × D)} {X : XK} {dvs : List V} {dds : List D} (st : Sta K B F S0 os Γ tm σ H) (h : EvA K ta σ (Hx H []) [] ds) (hd : ∀ H, RpA K H dvs dds) (hR : R (ds ++ dds) gs) (kk : ∀ σ' H', Sta K B F S0 os (Γ.set i (.d (.obj C gs))) [] σ' H' → tz E σ' H') : tSeq (tAsg (tMake C (spI K C R) dvs X ta) (gName i)) tz E σ H := by
  show tMake C (spI K C R) dvs X ta σ H (fun x H1 => gName i x σ H1 (tz E))
  exact w_make (Q := fun x H1 => gName i x σ H1 (tz E)) st h hd hR fun v H' st => kk _ H' (st.setT i)
theorem q_forO (st : Sta K B F S0 os Γ tm σ H) (hn : Γ[n]? = some (.at L)) (I : Nat → L2.St → Hp → Prop) (h0 : I 0 σ H) (hI : ∀ i σ' H', I i σ' H' → H' L = some (.lst (as.map V.ref)))
    (hs : ∀ i a, as[i]? = some a → ∀ σ' H', I i σ' H' → tb { { E with nx := tz E } with nx := I (i + 1), ct := I (i + 1), bk := tz E } (σ'.set j (some (.ref a))) H') (hd : ∀ σ' H', I as.length σ' H' → tz E σ' H') : tSeq (tFor (iList K (tVar n)) (gName j) tb) tz E σ H :=
  s_forO (E := { E with nx := tz E }) st hn I h0 hI hs hd
end
end Z


set_option Elab.async false
set_option linter.all false
set_option maxRecDepth 100000
set_option maxHeartbeats 4000000
namespace K4
open PySem L2 Z Zn
open Evl (Ex ex_l ex_t sz_of sz_lt fresh_back)
def top (i : Nat) : Stmt := PySem.Challenge.pw_everyzone_k04_zones_made.main.body.getD i (.Pass ⟨0, 0, 0, 0⟩)
structure Tx (K : PySem.W.Frag) (mg : Str → Option Value) : Prop where
  f_abs : mg "abs" = none
  f_bool : mg "bool" = none
  f_int : mg "int" = none
  f_isinstance : mg "isinstance" = none
  f_len : mg "len" = none
  f_list : mg "list" = none
  f_max : mg "max" = none
  f_min : mg "min" = none
  f_range : mg "range" = none
  f_repr : mg "repr" = none
  f_sum : mg "sum" = none
  f_tuple : mg "tuple" = none
  f_zip : mg "zip" = none
  i_GREATEST_JUMP : ∃ t, mg "GREATEST_JUMP" = some (.int 720 t)
  c_Zone : Ocl K (He.ga K "Zone")
  g_Zone : mg "Zone" = some (.ref (He.ga K "Zone"))
  mk_Zone : Mk K (He.ga K "Zone") (He.ma K (He.ga K "Zone") "__init__")
  ne_Zone : PySem.W.findIn K (.ref (He.ga K "Zone")) "__ne__" = some (some (.builtin "object.__ne__"))
  n_Zone_own_first : NoAttr K (He.ga K "Zone") "own_first"
  n_Zone_own_jumps : NoAttr K (He.ga K "Zone") "own_jumps"
  n_Zone_own_moments : NoAttr K (He.ga K "Zone") "own_moments"
  n_Zone_own_offsets : NoAttr K (He.ga K "Zone") "own_offsets"
  p_Zone_first : PropOf K (He.ga K "Zone") "first" (He.ma K (He.ga K "Zone") "first") (getA K "Zone" "first")
  d_is_whole : ∃ fd, FunD K "is_whole" "is_whole" (defArgs (top 7)) (defBody (top 7)) (defScope (top 7)) [] [] (He.ga K "is_whole") fd
  m_is_whole : mg "is_whole" = some (.ref (He.ga K "is_whole"))
  d_is_list : ∃ fd, FunD K "is_list" "is_list" (defArgs (top 8)) (defBody (top 8)) (defScope (top 8)) [] [] (He.ga K "is_list") fd
  m_is_list : mg "is_list" = some (.ref (He.ga K "is_list"))
  d_need_integer : ∃ fd, FunD K "need_integer" "need_integer" (defArgs (top 9)) (defBody (top 9)) (defScope (top 9)) [] [] (He.ga K "need_integer") fd
  m_need_integer : mg "need_integer" = some (.ref (He.ga K "need_integer"))
  d_is_pair : ∃ fd, FunD K "is_pair" "is_pair" (defArgs (top 12)) (defBody (top 12)) (defScope (top 12)) [] [] (He.ga K "is_pair") fd
  m_is_pair : mg "is_pair" = some (.ref (He.ga K "is_pair"))
  d_Zone_takes : ∃ fd, FunD K "takes" "Zone.takes" (defArgs (inClass (top 13) 1)) (defBody (inClass (top 13) 1)) (defScope (inClass (top 13) 1)) [] [] (He.ma K (He.ga K "Zone") "takes") fd
  m_Zone_takes : Meth K (He.ga K "Zone") "takes" (He.ma K (He.ga K "Zone") "takes")
  d_Zone_ddinitdd : ∃ fd, FunD K "__init__" "Zone.__init__" (defArgs (inClass (top 13) 0)) (defBody (inClass (top 13) 0)) (defScope (inClass (top 13) 0)) [.ref (He.dflAt ("Zone", some "__init__") 0 K)] [] (He.ma K (He.ga K "Zone") "__init__") fd
  d_Zone_first : ∃ fd, FunD K "first" "Zone.first" (defArgs (inClass (top 13) 2)) (defBody (inClass (top 13) 2)) (defScope (inClass (top 13) 2)) [] [] (getA K "Zone" "first") fd
  d_Zone_changes : ∃ fd, FunD K "changes" "Zone.changes" (defArgs (inClass (top 13) 3)) (defBody (inClass (top 13) 3)) (defScope (inClass (top 13) 3)) [] [] (He.ma K (He.ga K "Zone") "changes") fd
  m_Zone_changes : Meth K (He.ga K "Zone") "changes" (He.ma K (He.ga K "Zone") "changes")
  d_Zone_jump_list : ∃ fd, FunD K "jump_list" "Zone.jump_list" (defArgs (inClass (top 13) 4)) (defBody (inClass (top 13) 4)) (defScope (inClass (top 13) 4)) [] [] (He.ma K (He.ga K "Zone") "jump_list") fd
  m_Zone_jump_list : Meth K (He.ga K "Zone") "jump_list" (He.ma K (He.ga K "Zone") "jump_list")
  d_Zone_ddlendd : ∃ fd, FunD K "__len__" "Zone.__len__" (defArgs (inClass (top 13) 5)) (defBody (inClass (top 13) 5)) (defScope (inClass (top 13) 5)) [] [] (He.ma K (He.ga K "Zone") "__len__") fd
  m_Zone_ddlendd : Meth K (He.ga K "Zone") "__len__" (He.ma K (He.ga K "Zone") "__len__")
  d_Zone_ddcontainsdd : ∃ fd, FunD K "__contains__" "Zone.__contains__" (defArgs (inClass (top 13) 6)) (defBody (inClass (top 13) 6)) (defScope (inClass (top 13) 6)) [] [] (He.ma K (He.ga K "Zone") "__contains__") fd
  m_Zone_ddcontainsdd : Meth K (He.ga K "Zone") "__contains__" (He.ma K (He.ga K "Zone") "__contains__")
  d_Zone_parts : ∃ fd, FunD K "parts" "Zone.parts" (defArgs (inClass (top 13) 8)) (defBody (inClass (top 13) 8)) (defScope (inClass (top 13) 8)) [] [] (He.ma K (He.ga K "Zone") "parts") fd
  m_Zone_parts : Meth K (He.ga K "Zone") "parts" (He.ma K (He.ga K "Zone") "parts")
  d_Zone_ddeqdd : ∃ fd, FunD K "__eq__" "Zone.__eq__" (defArgs (inClass (top 13) 7)) (defBody (inClass (top 13) 7)) (defScope (inClass (top 13) 7)) [] [] (He.ma K (He.ga K "Zone") "__eq__") fd
  m_Zone_ddeqdd : Meth K (He.ga K "Zone") "__eq__" (He.ma K (He.ga K "Zone") "__eq__")
  d_Zone_spans : ∃ fd, FunD K "spans" "Zone.spans" (defArgs (inClass (top 13) 12)) (defBody (inClass (top 13) 12)) (defScope (inClass (top 13) 12)) [] [] (He.ma K (He.ga K "Zone") "spans") fd
  m_Zone_spans : Meth K (He.ga K "Zone") "spans" (He.ma K (He.ga K "Zone") "spans")
  d_Zone_gaps : ∃ fd, FunD K "gaps" "Zone.gaps" (defArgs (inClass (top 13) 17)) (defBody (inClass (top 13) 17)) (defScope (inClass (top 13) 17)) [] [] (He.ma K (He.ga K "Zone") "gaps") fd
  m_Zone_gaps : Meth K (He.ga K "Zone") "gaps" (He.ma K (He.ga K "Zone") "gaps")
  d_Zone_folds : ∃ fd, FunD K "folds" "Zone.folds" (defArgs (inClass (top 13) 18)) (defBody (inClass (top 13) 18)) (defScope (inClass (top 13) 18)) [] [] (He.ma K (He.ga K "Zone") "folds") fd
  m_Zone_folds : Meth K (He.ga K "Zone") "folds" (He.ma K (He.ga K "Zone") "folds")
  d_l_cell : ∃ fd, FunD K "_law_cell" "_law_cell" (defArgs (top 15)) (defBody (top 15)) (defScope (top 15)) [] [] (He.ga K "_law_cell") fd
  m_l_cell : mg "_law_cell" = some (.ref (He.ga K "_law_cell"))
  d_l_bag : ∃ fd, FunD K "_law_bag" "_law_bag" (defArgs (top 16)) (defBody (top 16)) (defScope (top 16)) [] [] (He.ga K "_law_bag") fd
  m_l_bag : mg "_law_bag" = some (.ref (He.ga K "_law_bag"))
  d_l_take : ∃ fd, FunD K "_law_take" "_law_take" (defArgs (top 17)) (defBody (top 17)) (defScope (top 17)) [] [] (He.ga K "_law_take") fd
  m_l_take : mg "_law_take" = some (.ref (He.ga K "_law_take"))
  d_l_zone : ∃ fd, FunD K "_law_zone" "_law_zone" (defArgs (top 18)) (defBody (top 18)) (defScope (top 18)) [] [] (He.ga K "_law_zone") fd
  m_l_zone : mg "_law_zone" = some (.ref (He.ga K "_law_zone"))
  d_l_changes : ∃ fd, FunD K "_law_changes" "_law_changes" (defArgs (top 19)) (defBody (top 19)) (defScope (top 19)) [] [] (He.ga K "_law_changes") fd
  m_l_changes : mg "_law_changes" = some (.ref (He.ga K "_law_changes"))
  d_l_made : ∃ fd, FunD K "_law_made" "_law_made" (defArgs (top 20)) (defBody (top 20)) (defScope (top 20)) [] [] (He.ga K "_law_made") fd
  m_l_made : mg "_law_made" = some (.ref (He.ga K "_law_made"))
  d_l_spans : ∃ fd, FunD K "_law_spans" "_law_spans" (defArgs (top 21)) (defBody (top 21)) (defScope (top 21)) [] [] (He.ga K "_law_spans") fd
  m_l_spans : mg "_law_spans" = some (.ref (He.ga K "_law_spans"))
  d_l_others : ∃ fd, FunD K "_law_others" "_law_others" (defArgs (top 22)) (defBody (top 22)) (defScope (top 22)) [] [] (He.ga K "_law_others") fd
  m_l_others : mg "_law_others" = some (.ref (He.ga K "_law_others"))
  d_l_fresh_right : ∃ fd, FunD K "_law_fresh_right" "_law_fresh_right" (defArgs (top 23)) (defBody (top 23)) (defScope (top 23)) [] [] (He.ga K "_law_fresh_right") fd
  m_l_fresh_right : mg "_law_fresh_right" = some (.ref (He.ga K "_law_fresh_right"))
  d_law : ∃ fd, FunD K "law" "law" (defArgs (top 24)) (defBody (top 24)) (defScope (top 24)) [] [] (He.ga K "law") fd
  m_law : mg "law" = some (.ref (He.ga K "law"))
  nil_Zone : ∀ H : Hp, Rp K H (.ref (He.dflAt ("Zone", some "__init__") 0 K)) (.tup [])
  kl_Zone : PySem.W.kitOne K (.type "list") (.ref (He.ga K "Zone")) = some false
  nl_Zone : PySem.W.notFirst K (He.ga K "Zone") (.type "list") = true

def R_whole : List D → D → Prop := fun ds z => ∃ x : D, ds = [x] ∧ x.isObj = false ∧ z = .bl x.isInt
def R_list : List D → D → Prop := fun ds z => ∃ x : D, ds = [x] ∧ x.isObj = false ∧ z = .bl x.isSeq
def R_needInt : List D → D → Prop := fun ds z => ∃ i : Int, ds = [.int i] ∧ z = .non
def R_pair : List D → D → Prop := fun ds z => ∃ p : Int × Int, (ds = [pairD p] ∨ ds = [pairL p]) ∧ z = .bl true

def R_first (C : Addr) : List D → D → Prop := fun ds z => ∃ (f : Int) (s : Steps), ds = [zoneD C f s] ∧ z = .int f
def R_changes (C : Addr) : List D → List D → Prop := fun ds zs => ∃ (f : Int) (s : Steps), ds = [zoneD C f s] ∧ zs = (offs f s).map pairD
def R_jumps (C : Addr) : List D → List D → Prop := fun ds zs => ∃ (f : Int) (s : Steps), ds = [zoneD C f s] ∧ zs = (s.map (·.2)).map D.int
def R_zlen (C : Addr) : List D → D → Prop := fun ds z => ∃ (f : Int) (s : Steps), ds = [zoneD C f s] ∧ z = .int s.length
def R_has (C : Addr) : List D → D → Prop := fun ds z => ∃ (f : Int) (s : Steps) (x : D), ds = [zoneD C f s, x] ∧ x.isObj = false ∧ z = .bl (x.isInt && D.inL x ((s.map (·.1)).map D.int))
def R_parts (C : Addr) : List D → D → Prop := fun ds z => ∃ (f : Int) (s : Steps), ds = [zoneD C f s] ∧ z = partsD f s
def R_zeq (C : Addr) : List D → D → Prop := fun ds z => ∃ (f : Int) (s : Steps), (∃ (f' : Int) (s' : Steps), ds = [zoneD C f s, zoneD C f' s'] ∧ z = .bl ((partsD f s).eq (partsD f' s'))) ∨ (∃ xs, ds = [zoneD C f s, .lst xs] ∧ z = .bl false)
def R_spans (C : Addr) : List D → List D → Prop := fun ds zs => ∃ (f : Int) (s : Steps), ds = [zoneD C f s] ∧ s.length ≤ 1000 ∧ zs = (spansP f s).map pairD
def R_gaps (C : Addr) : List D → List D → Prop := fun ds zs => ∃ (f : Int) (s : Steps), ds = [zoneD C f s] ∧ s.length ≤ 1000 ∧ zs = (spansIf (fun j => decide (0 < j)) f s).map pairD
def R_folds (C : Addr) : List D → List D → Prop := fun ds zs => ∃ (f : Int) (s : Steps), ds = [zoneD C f s] ∧ s.length ≤ 1000 ∧ zs = (spansIf (fun j => decide (j < 0)) f s).map pairD

def cellV (os : List Int) (i : Int) : Int := if i < os.length then os.getD i.toNat 0 else 179424691 * i + 563
def R_cell : List D → D → Prop := fun ds z => ∃ (os : List Int) (i : Int), ds = [.rls (os.map D.int), .int i] ∧ 0 ≤ i ∧ i ≤ 1000 ∧ z = .int (cellV os i)
def R_bag : List D → List D → Prop := fun ds zs => ∃ c : Int, ds = [.int c] ∧ zs = [.int (max 0 (c - 10 ^ (18 : Int).toNat)), .int (c % 2147483629), .int 0]
section
variable {P : Program} {w : World} {K : PySem.W.Frag} {mg : Str → Option Value} {base : Heap}
abbrev s_is_whole : Stmt := top 7
theorem sc_is_whole : FnScope ["value"] ["value"] (defScope s_is_whole) := ⟨rfl, rfl, rfl, by decide +kernel, rfl, by decide +kernel, by decide +kernel⟩
theorem cal_is_whole (T : Tx K mg) : C8.Cal P w K mg base 1 "is_whole" (spR K R_whole) [] := by
  obtain ⟨fd, F⟩ := T.d_is_whole
  refine ⟨_, fd, ["value"], [], FunD.ok F sc_is_whole (fun vs H Q E h => ?_) (fun cdv A outer s H vs Q E hr h => ?_), T.m_is_whole, F.kp, F.bindsN (fun _ _ _ _ _ _ us hl => match us, hl with | [_], _ => rfl), .nil⟩
  · obtain ⟨S, ds, d, _, ra, hR, _⟩ := h
    obtain ⟨x, rfl, hx, rfl⟩ := hR
    exact ra.len
  · obtain ⟨S, ds, d, ok, ra, hR, k⟩ := h
    obtain ⟨x, rfl, hx, rfl⟩ := hR
    have st : Sta K (Hx H S) H S [] [.d x] [] (L2.start ["value"] vs) H := Sta.init ok ra rfl
    refine ⟨_, PSs.nox ((pss_one (ps_ret (pe_and (pe_callB call_isi (by rfl) T.f_isinstance (by decide +kernel) (pa_cons (pv 0) (pa_cons (pe_bltn (v := .ty "int") (by rfl) T.f_int (by decide +kernel) rfl) pa_nil))) (pe_one (pe_not (pe_callB call_isi (by rfl) T.f_isinstance (by decide +kernel) (pa_cons (pv 0) (pa_cons (pe_bltn (v := .ty "bool") (by rfl) T.f_bool (by decide +kernel) rfl) pa_nil))))))))), ?_⟩
    obtain ⟨n, ty, k1, k2, -, -⟩ := ty_of K hx
    exact r_ret st (ev_andV (ev_isi (ev_sl st.sl rfl) ty k1) (fun _ => ev_notV (ev_isi (ev_sl st.sl rfl) ty k2))) (by cases x <;> rfl) k
abbrev s_is_list : Stmt := top 8
theorem sc_is_list : FnScope ["value"] ["value"] (defScope s_is_list) := ⟨rfl, rfl, rfl, by decide +kernel, rfl, by decide +kernel, by decide +kernel⟩
theorem cal_is_list (T : Tx K mg) : C8.Cal P w K mg base 1 "is_list" (spR K R_list) [] := by
  obtain ⟨fd, F⟩ := T.d_is_list
  refine ⟨_, fd, ["value"], [], FunD.ok F sc_is_list (fun vs H Q E h => ?_) (fun cdv A outer s H vs Q E hr h => ?_), T.m_is_list, F.kp, F.bindsN (fun _ _ _ _ _ _ us hl => match us, hl with | [_], _ => rfl), .nil⟩
  · obtain ⟨S, ds, d, _, ra, hR, _⟩ := h
    obtain ⟨x, rfl, hx, rfl⟩ := hR
    exact ra.len
  · obtain ⟨S, ds, d, ok, ra, hR, k⟩ := h
    obtain ⟨x, rfl, hx, rfl⟩ := hR
    have st : Sta K (Hx H S) H S [] [.d x] [] (L2.start ["value"] vs) H := Sta.init ok ra rfl
    refine ⟨_, PSs.nox ((pss_one (ps_ret (pe_callB call_isiT (by rfl) T.f_isinstance (by decide +kernel) (pa_cons (pv 0) (pa_cons (pe_tup (pa_cons (pe_bltn (v := .ty "list") (by rfl) T.f_list (by decide +kernel) rfl) (pa_cons (pe_bltn (v := .ty "tuple") (by rfl) T.f_tuple (by decide +kernel) rfl) pa_nil))) pa_nil)))))), ?_⟩
    obtain ⟨n, ty, -, -, k1, -⟩ := ty_of K hx
    exact r_ret st (ev_isi2 (ev_sl st.sl rfl) ty k1) rfl k
abbrev s_need_integer : Stmt := top 9
theorem sc_need_integer : FnScope ["value"] ["value"] (defScope s_need_integer) := ⟨rfl, rfl, rfl, by decide +kernel, rfl, by decide +kernel, by decide +kernel⟩
theorem cal_need_integer (T : Tx K mg) : C8.Cal P w K mg base 2 "need_integer" (spR K R_needInt) [] := by
  obtain ⟨fd, F⟩ := T.d_need_integer
  refine ⟨_, fd, ["value"], [], FunD.ok F sc_need_integer (fun vs H Q E h => ?_) (fun cdv A outer s H vs Q E hr h => ?_), T.m_need_integer, F.kp, F.bindsN (fun _ _ _ _ _ _ us hl => match us, hl with | [_], _ => rfl), .nil⟩
  · obtain ⟨S, ds, d, _, ra, hR, _⟩ := h
    obtain ⟨i, rfl, rfl⟩ := hR
    exact ra.len
  · obtain ⟨S, ds, d, ok, ra, hR, k⟩ := h
    obtain ⟨i, rfl, rfl⟩ := hR
    have st : Sta K (Hx H S) H S [] [.d (.int i)] [] (L2.start ["value"] vs) H := Sta.init ok ra rfl
    refine ⟨_, PSs.nox ((pss_one (ps_if (pt_not (pt_val (C8.pe_c (cal_is_whole T) hr (by decide) (by rfl) (pa_cons (pv 0) pa_nil)))) (pss_one ps_never) pss_nil))), ?_⟩
    refine s_if st (et_not (et_B (ev_call (R := R_whole) (ea_cons (ev_sl st.sl rfl) ea_nil) ⟨_, rfl, rfl, rfl⟩))) (fun hb => by cases hb) (fun hb H st => ?_)
    exact k _ _ st.exF .non
abbrev s_is_pair : Stmt := top 12
theorem sc_is_pair : FnScope ["value"] ["value"] (defScope s_is_pair) := ⟨rfl, rfl, rfl, by decide +kernel, rfl, by decide +kernel, by decide +kernel⟩
theorem cal_is_pair (T : Tx K mg) : C8.Cal P w K mg base 2 "is_pair" (spR K R_pair) [] := by
  obtain ⟨fd, F⟩ := T.d_is_pair
  refine ⟨_, fd, ["value"], [], FunD.ok F sc_is_pair (fun vs H Q E h => ?_) (fun cdv A outer s H vs Q E hr h => ?_), T.m_is_pair, F.kp, F.bindsN (fun _ _ _ _ _ _ us hl => match us, hl with | [_], _ => rfl), .nil⟩
  · obtain ⟨S, ds, d, _, ra, hR, _⟩ := h
    obtain ⟨p, rfl | rfl, rfl⟩ := hR
    · exact ra.len
    · exact ra.len
  · obtain ⟨S, ds, d, ok, ra, hR, k⟩ := h
    obtain ⟨p, rfl | rfl, rfl⟩ := hR
    · have st : Sta K (Hx H S) H S [] [.d (pairD p)] [] (L2.start ["value"] vs) H := Sta.init ok ra rfl
      refine ⟨_, PSs.nox (pss_one (ps_ret (pe_and (C8.pe_c (cal_is_list T) hr (by decide) (by rfl) (pa_cons (pv 0) pa_nil)) (pe_and (pe_cmpR op_eq (pe_callB call_len_seq (by rfl) T.f_len (by decide +kernel) (pa_cons (pv 0) pa_nil)) pe_int (nomark _)) (pe_and (C8.pe_c (cal_is_whole T) hr (by decide) (by rfl) (pa_cons (pe_ix ix_tup (pv 0) pe_int (fun _ _ => rfl)) pa_nil)) (pe_one (C8.pe_c (cal_is_whole T) hr (by decide) (by rfl) (pa_cons (pe_ix ix_tup (pv 0) pe_int (fun _ _ => rfl)) pa_nil)))))))), ?_⟩
      exact r_ret st (ev_andV (ev_call (R := R_list) (ea_cons (ev_sl st.sl rfl) ea_nil) ⟨_, rfl, rfl, rfl⟩) (fun _ => ev_andV (ev_eqI (ev_cb (ea_cons (ev_sl st.sl rfl) ea_nil) rc_lenT) ev_int) (fun _ => ev_andV (ev_call (R := R_whole) (ea_cons (ev_ixT (ev_sl st.sl rfl) ev_int rfl) ea_nil) ⟨_, rfl, rfl, rfl⟩) (fun _ => ev_call (R := R_whole) (ea_cons (ev_ixT (ev_sl st.sl rfl) ev_int rfl) ea_nil) ⟨_, rfl, rfl, rfl⟩)))) rfl k
    · have st : Sta K (Hx H S) H S [] [.d (pairL p)] [] (L2.start ["value"] vs) H := Sta.init ok ra rfl
      refine ⟨_, PSs.nox (pss_one (ps_ret (pe_and (C8.pe_c (cal_is_list T) hr (by decide) (by rfl) (pa_cons (pv 0) pa_nil)) (pe_and (pe_cmpR op_eq (pe_callB call_len_seq (by rfl) T.f_len (by decide +kernel) (pa_cons (pv 0) pa_nil)) pe_int (nomark _)) (pe_and (C8.pe_c (cal_is_whole T) hr (by decide) (by rfl) (pa_cons (pe_ix ix_list (pv 0) pe_int (fun _ _ => rfl)) pa_nil)) (pe_one (C8.pe_c (cal_is_whole T) hr (by decide) (by rfl) (pa_cons (pe_ix ix_list (pv 0) pe_int (fun _ _ => rfl)) pa_nil)))))))), ?_⟩
      exact r_ret st (ev_andV (ev_call (R := R_list) (ea_cons (ev_sl st.sl rfl) ea_nil) ⟨_, rfl, rfl, rfl⟩) (fun _ => ev_andV (ev_eqI (ev_cb (ea_cons (ev_sl st.sl rfl) ea_nil) rc_lenL) ev_int) (fun _ => ev_andV (ev_call (R := R_whole) (ea_cons (ev_ixL (ev_sl st.sl rfl) ev_int rfl) ea_nil) ⟨_, rfl, rfl, rfl⟩) (fun _ => ev_call (R := R_whole) (ea_cons (ev_ixL (ev_sl st.sl rfl) ev_int rfl) ea_nil) ⟨_, rfl, rfl, rfl⟩)))) rfl k
abbrev s_Zone_takes : Stmt := inClass (top 13) 1
theorem sc_Zone_takes : FnScope ["self", "moment", "offset", "jump"] ["self", "moment", "offset"] (defScope s_Zone_takes) := ⟨rfl, rfl, rfl, by decide +kernel, rfl, by decide +kernel, by decide +kernel⟩
theorem cal_Zone_takes (T : Tx K mg) : C8.Met P w K mg base 1 (He.ga K "Zone") "takes" (spTakes (He.ga K "Zone")) [] := by
  obtain ⟨fd, F⟩ := T.d_Zone_takes
  obtain ⟨t_GREATEST_JUMP, h_GREATEST_JUMP⟩ := T.i_GREATEST_JUMP
  refine ⟨_, fd, ["self", "moment", "offset"], [], T.c_Zone.cl, T.m_Zone_takes, FunD.ok F sc_Zone_takes (fun vs H Q E h => ?_) (fun cdv A outer s H vs Q E hr h => ?_), F.bindsN (fun _ _ _ _ _ _ us hl => match us, hl with | [_, _, _], _ => rfl), .nil⟩
  · obtain ⟨x, dx, m, o, j, f, s, mo, of, rfl, _⟩ := h
    rfl
  · obtain ⟨x, dx, m, o, j, f, s, mo, of, rfl, Z, hlen, hok, k⟩ := h
    refine ⟨_, PSs.nox ((pss_cons (ps_set (i := 3) sc_Zone_takes.nd rfl (Or.inl rfl) (pe_op op_sub (pv 2) (pe_ix ix_list (pe_fld (pv 0) rfl) (pe_un un_neg pe_int) (fun _ _ => rfl))))
      (pss_cons (ps_if (PW.pt (pw_or (pt_cmpR op_eq (pv 3) pe_int (nomark _)) (pw_or1 (pt_cmpR op_gt (pe_callB call_abs (by rfl) T.f_abs (by decide +kernel) (pa_cons (pv 3) pa_nil)) (pe_glob (v := .int 720) rfl h_GREATEST_JUMP ⟨_, rfl⟩) (nomark _))))) (pss_one (ps_ret pe_bl)) pss_nil)
      (pss_cons (ps_if (PW.pt (pw_and (pt_cmpR (op_neD hr.units) (pe_fld (pv 0) rfl) (pe_lst pa_nil) (nomark _)) (pw_and1 (pt_cmpR op_le (pe_op op_sub (pv 1) (pe_ix ix_list (pe_fld (pv 0) rfl) (pe_un un_neg pe_int) (fun _ _ => rfl))) (pe_op op_add (pe_callB call_abs (by rfl) T.f_abs (by decide +kernel) (pa_cons (pv 3) pa_nil)) (pe_callB call_abs (by rfl) T.f_abs (by decide +kernel) (pa_cons (pe_ix ix_list (pe_fld (pv 0) rfl) (pe_un un_neg pe_int) (fun _ _ => rfl)) pa_nil))) (nomark _))))) (pss_one (ps_ret pe_bl)) pss_nil)
      (pss_cons (ps_expr (pe_bm PySem.F.plainAttrs_list PySem.F.slot_list_append PySem.F.type_list_append mt_append (pe_fld (pv 0) rfl) (pa_cons (pv 1) pa_nil)))
      (pss_cons (ps_expr (pe_bm PySem.F.plainAttrs_list PySem.F.slot_list_append PySem.F.type_list_append mt_append (pe_fld (pv 0) rfl) (pa_cons (pv 2) pa_nil)))
      (pss_cons (ps_expr (pe_bm PySem.F.plainAttrs_list PySem.F.slot_list_append PySem.F.type_list_append mt_append (pe_fld (pv 0) rfl) (pa_cons (pv 3) pa_nil)))
      (pss_one (ps_ret pe_bl))))))))), ?_⟩
    obtain ⟨hj, hnear⟩ := okS_last hok
    have st : Sta K (Hx H []) H [] [] [.ad x (zoneD (He.ga K "Zone") f s), .d (.int mo), .d (.int of), .no] [] (L2.start ["self", "moment", "offset", "jump"] [.ref x, .int mo, .int of]) H :=
      Sta.initG Ok.nil (.cons ⟨rfl, Z.rp.up Hx.nil⟩ (.cons ⟨_, rfl, .int _⟩ (.cons ⟨_, rfl, .int _⟩ (.cons trivial .nil))))
    refine q_asg st (ev_sub (ev_sl st.sl rfl) (ev_ixL (ev_fld (ev_sla (n := 0) st.sl rfl) T.c_Zone.cl T.n_Zone_own_offsets rfl) (ev_neg ev_int) (atI_last (offs_getLast f s)))) fun σ H1 st => ?_
    generalize hjj : of - (f + (s.map (·.2)).sum) = jj at st hok hj hnear k ⊢
    obtain ⟨j0, j1, j2⟩ : jok jj := hj
    refine q_if st (et_or (et_test (ev_eqI (ev_sl st.sl rfl) ev_int)) (fun _ => et_test (ev_gt (ev_cb (ea_cons (ev_sl st.sl rfl) ea_nil) rc_abs) ev_int))) (fun hb => ?_) (fun hb H2 st => ?_)
    · exfalso
      simp only [Bool.or_eq_true, decide_eq_true_eq] at hb
      omega
    have fin : ∀ H3, Sta K (Hx H []) H [] [] [.ad x (zoneD (He.ga K "Zone") f s), .d (.int mo), .d (.int of), .d (.int jj)] [] σ H3 → (tSeq (tDrop (tBM K "list" rAppend (tFld K (tVar 0) "own_moments") (tCons (tVar 1) tNil))) (tSeq (tDrop (tBM K "list" rAppend (tFld K (tVar 0) "own_offsets") (tCons (tVar 2) tNil))) (tSeq (tDrop (tBM K "list" rAppend (tFld K (tVar 0) "own_jumps") (tCons (tVar 3) tNil))) (tRet (tC (.bl true)))))) { nx := fun _ H' => Q .non H', rt := Q } σ H3 := by
      intro H3 st
      have z := Z.up st.exF
      have nx : ∀ {b : Addr} {l : List V}, H3 b = some (.lst l) → x ≠ b := fun hb => ne_of z.ob hb (by intro q; cases q)
      have s0 := st.sl.slotA (n := 0) rfl
      refine fld_app s0 z.ob rfl z.hm (st.sl.slotI (n := 1) rfl) (by simp; omega) T.c_Zone.cl T.n_Zone_own_moments ?_
      refine fld_app s0 (by rw [upd_ne (nx z.hm)]; exact z.ob) rfl (by rw [upd_ne z.mo.symm]; exact z.ho) (st.sl.slotI (n := 2) rfl) (by simp [offs_len]; omega) T.c_Zone.cl T.n_Zone_own_offsets ?_
      refine fld_app s0 (by rw [upd_ne (nx z.ho), upd_ne (nx z.hm)]; exact z.ob) rfl (by rw [upd_ne z.oj.symm, upd_ne z.mj.symm]; exact z.hj) (st.sl.slotI (n := 3) rfl) (by simp; omega) T.c_Zone.cl T.n_Zone_own_jumps ?_
      refine k _ (z.push hjj) fun b u hb b1 b2 b3 => ?_
      rw [upd_ne b3, upd_ne b2, upd_ne b1]
      exact st.exF _ _ hb
    cases hs : s.getLast? with
    | none =>
      have e0 : s = [] := by simpa using hs
      refine q_if (b := false) st (EvT.to (et_and (c := false) (et_test (ev_neD 1 1 (ev_fld (ev_sla (n := 0) st.sl rfl) T.c_Zone.cl T.n_Zone_own_moments rfl) (EvF.ev (ef_lst ea_nil (by simp))) (good_ints _) (by simp [good]))) (fun hb => by rw [e0] at hb; simp [D.eq, intsD, D.py, pyL, PyData.eqv, PyData.eqvAll] at hb)) (by rw [e0]; simp [D.eq, intsD, D.py, pyL, PyData.eqv, PyData.eqvAll])) (fun hb => by cases hb) (fun _ H3 st => fin H3 st)
    | some p =>
      obtain ⟨m0, j0'⟩ := p
      have h1 : (s.map (·.1)).getLast? = some m0 := by rw [List.getLast?_map, hs]; rfl
      have h2 : (s.map (·.2)).getLast? = some j0' := by rw [List.getLast?_map, hs]; rfl
      have hn := hnear m0 j0' hs
      refine q_if st (et_and (et_test (ev_neD 1 1 (ev_fld (ev_sla (n := 0) st.sl rfl) T.c_Zone.cl T.n_Zone_own_moments rfl) (EvF.ev (ef_lst ea_nil (by simp))) (good_ints _) (by simp [good]))) (fun _ => et_test (ev_le (ev_sub (ev_sl st.sl rfl) (ev_ixL (ev_fld (ev_sla (n := 0) st.sl rfl) T.c_Zone.cl T.n_Zone_own_moments rfl) (ev_neg ev_int) (atI_last h1))) (ev_add (ev_cb (ea_cons (ev_sl st.sl rfl) ea_nil) rc_abs) (ev_cb (ea_cons (ev_ixL (ev_fld (ev_sla (n := 0) st.sl rfl) T.c_Zone.cl T.n_Zone_own_jumps rfl) (ev_neg ev_int) (atI_last h2)) ea_nil) rc_abs))))) (fun hb => ?_) (fun _ H3 st => fin H3 st)
      exfalso
      simp only [Bool.and_eq_true, decide_eq_true_eq] at hb
      omega
abbrev s_Zone_ddinitdd : Stmt := inClass (top 13) 0
theorem sc_Zone_ddinitdd : FnScope ["self", "offset", "changes", "item"] ["self", "offset", "changes"] (defScope s_Zone_ddinitdd) := ⟨rfl, rfl, rfl, by decide +kernel, rfl, by decide +kernel, by decide +kernel⟩
theorem fn_Zone_init (T : Tx K mg) : ∃ fd, FunD K "__init__" "Zone.__init__" (defArgs s_Zone_ddinitdd) (defBody s_Zone_ddinitdd) (defScope s_Zone_ddinitdd) [.ref (He.dflAt ("Zone", some "__init__") 0 K)] [] (He.ma K (He.ga K "Zone") "__init__") fd ∧
    FnOk P w K mg base CX0 3 (He.ma K (He.ga K "Zone") "__init__") fd ["self", "offset", "changes"] (spI K (He.ga K "Zone") R_zone) := by
  obtain ⟨fd, F⟩ := T.d_Zone_ddinitdd
  refine ⟨fd, F, FunD.ok F sc_Zone_ddinitdd (fun vs H Q E h => ?_) (fun cdv A outer s H vs Q E hr h => ?_)⟩
  · obtain ⟨S, x, dx, us, ds, gs, rfl, _, _, _, ra, hR, _⟩ := h
    obtain ⟨f, s, g, _, rfl | rfl, _⟩ := hR
    · rw [List.length_cons, ra.len]; rfl
    · rw [List.length_cons, ra.len]; rfl
  · obtain ⟨S, x, dx, us, ds, gs, rfl, hx, ok, hxS, ra, hR, k⟩ := h
    have ok' : Ok (x :: S) H := fun a m z => by
      rcases List.mem_cons.mp m with rfl | m
      · rw [hx] at z; cases z
      · exact ok a m z
    obtain ⟨f, s, g, hg, hds, hok, hlen, rfl⟩ := hR
    obtain ⟨ch, rfl⟩ : ∃ ch, ds = [.int f, ch] := by rcases hds with e | e <;> exact ⟨_, e⟩
    obtain ⟨v1, v2, rfl, r1, r2⟩ := ra.two_inv
    have st : Sta K (Hx H (x :: S)) H (x :: S) [] [.at x, .d (.int f), .d ch, .no] [] (L2.start ["self", "offset", "changes", "item"] [.ref x, v1, v2]) H :=
      Sta.initG ok' (.cons rfl (.cons ⟨_, rfl, r1⟩ (.cons ⟨_, rfl, r2⟩ (.cons trivial .nil))))
    have stp : ∀ {i : Nat} {d : D}, ((offs f s).map g)[i]? = some d → ∃ mo jj, s.take (i + 1) = s.take i ++ [(mo, jj)] ∧ d = g (mo, f + ((s.take i).map (·.2)).sum + jj) ∧ okS (s.take i ++ [(mo, jj)]) ∧ (s.take i).length ≤ 1000 := by
      intro i d h
      rw [List.getElem?_map] at h
      cases q : (offs f s)[i]? with
      | none => rw [q] at h; cases h
      | some p =>
        rw [q] at h
        obtain ⟨jj, h1, h2⟩ := offs_get q
        obtain ⟨p1, p2⟩ := p
        refine ⟨p1, jj, take_one h1, ?_, ?_, ?_⟩
        · have : g (p1, p2) = d := Option.some.inj h
          rw [← this]
          exact congrArg (fun z => g (p1, z)) h2
        · rw [← take_one h1]
          exact okS_pre (t := s.drop (i + 1)) (by rw [List.take_append_drop]; exact hok)
        · exact Nat.le_trans (by rw [List.length_take]; omega) hlen
    rcases hg with rfl | rfl <;> rcases hds with e | e <;> cases e
    · refine ⟨_, PSs.nox ((pss_cons (ps_expr (C8.pe_c (cal_need_integer T) hr (by decide) (by rfl) (pa_cons (pv 1) pa_nil)))
      (pss_cons (ps_if (pt_not (pt_val (C8.pe_c (cal_is_list T) hr (by decide) (by rfl) (pa_cons (pv 2) pa_nil)))) (pss_one ps_never) pss_nil)
      (pss_cons (ps_fld (pv 0) (pv 1) rfl)
      (pss_cons (ps_fld (pv 0) (pe_lst pa_nil) rfl)
      (pss_cons (ps_fld (pv 0) (pe_lst (pa_cons (pv 1) pa_nil)) rfl)
      (pss_cons (ps_fld (pv 0) (pe_lst pa_nil) rfl)
      (pss_one (ps_for PassesOwn.never rfl (pi_list (pv 2)) (pg_name (i := 3) sc_Zone_ddinitdd.nd rfl (Or.inl rfl))
        (pss_one (ps_if (PW.pt (pw_or (pt_not (pt_val (C8.pe_c (cal_is_pair T) hr (by decide) (by rfl) (pa_cons (pv 3) pa_nil)))) (pw_or1 (pt_not (pt_val (C8.pe_mt (cal_Zone_takes T) hr (by decide) (pv 0) (pa_cons (pe_ix ix_tup (pv 3) pe_int (fun _ _ => rfl)) (pa_cons (pe_ix ix_tup (pv 3) pe_int (fun _ _ => rfl)) pa_nil)))))))) (pss_one ps_never) pss_nil))))))))))), ?_⟩
      refine q_drop st (ev_call (R := R_needInt) (ea_cons (ev_sl st.sl rfl) ea_nil) ⟨_, rfl, rfl⟩) fun H1 st => ?_
      refine q_if st (et_not (et_B (ev_call (R := R_list) (ea_cons (ev_sl st.sl rfl) ea_nil) ⟨_, rfl, rfl, rfl⟩))) (fun hb => by cases hb) (fun _ H2 st => ?_)
      refine q_fldI st (ev_sl st.sl rfl) rfl hx T.c_Zone.cl T.n_Zone_own_first (by decide) fun H3 st => ?_
      refine q_fldF st (ef_lst ea_nil (by simp)) rfl upd_same T.c_Zone.cl T.n_Zone_own_moments (Nat.le_of_ble_eq_true rfl) fun m H4 st => ?_
      refine q_fldF st (ef_lst (ea_cons (ev_sl st.sl rfl) ea_nil) (by simp)) rfl upd_same T.c_Zone.cl T.n_Zone_own_offsets (Nat.le_of_ble_eq_true rfl) fun o H5 st => ?_
      refine q_fldF st (ef_lst ea_nil (by simp)) rfl upd_same T.c_Zone.cl T.n_Zone_own_jumps (Nat.le_of_ble_eq_true rfl) fun j H6 st => ?_
      refine s_for (ε := Nat) st (ei_list (ev_sl st.sl rfl)) (fun i e => e = i) (fun e => zo m o j f (s.take e)) (fun e => [.at x, .d (.int f), .d (.lst ((offs f s).map pairD)), .no]) 0 rfl rfl (fits.rfl' _) (fun _ => rfl) (fun i d e hd he B' v σ' H' hB st => ?_) (fun e he σ' H' st => ?_)
      · subst he
        obtain ⟨mo, jj, ht, rfl, hok2, hl2⟩ := stp hd
        have st := st.setT 3
        have ej : f + ((s.take e).map (·.2)).sum + jj - (f + ((s.take e).map (·.2)).sum) = jj := by omega
        refine s_takes (mo := mo) (of := f + ((s.take e).map (·.2)).sum + jj) st upd_same rfl (et_B (ev_call (R := R_pair) (ea_cons (ev_sl st.sl rfl) ea_nil) ⟨_, Or.inl rfl, rfl⟩)) (ev_ixT (ev_sl st.sl rfl) ev_int rfl) (ev_ixT (ev_sl st.sl rfl) ev_int rfl) hl2 (by rw [ej]; exact hok2) fun H' st => ?_
        rw [ej, ← ht] at st
        exact ⟨_, rfl, st.clr.weak ⟨Or.inl rfl, Or.inl rfl, Or.inl rfl, Or.inr rfl, trivial⟩⟩
      · subst he
        have e1 : s.take ((offs f s).map pairD).length = s := by rw [List.length_map, offs_len]; exact List.take_length
        rw [e1] at st
        exact zone_end st upd_same (fun a ha => by rw [upd_ne ha, upd_ne ha, upd_ne ha, upd_ne ha]) k
    · refine ⟨_, PSs.nox ((pss_cons (ps_expr (C8.pe_c (cal_need_integer T) hr (by decide) (by rfl) (pa_cons (pv 1) pa_nil)))
      (pss_cons (ps_if (pt_not (pt_val (C8.pe_c (cal_is_list T) hr (by decide) (by rfl) (pa_cons (pv 2) pa_nil)))) (pss_one ps_never) pss_nil)
      (pss_cons (ps_fld (pv 0) (pv 1) rfl)
      (pss_cons (ps_fld (pv 0) (pe_lst pa_nil) rfl)
      (pss_cons (ps_fld (pv 0) (pe_lst (pa_cons (pv 1) pa_nil)) rfl)
      (pss_cons (ps_fld (pv 0) (pe_lst pa_nil) rfl)
      (pss_one (ps_for PassesOwn.never rfl (pi_tup (pv 2)) (pg_name (i := 3) sc_Zone_ddinitdd.nd rfl (Or.inl rfl))
        (pss_one (ps_if (PW.pt (pw_or (pt_not (pt_val (C8.pe_c (cal_is_pair T) hr (by decide) (by rfl) (pa_cons (pv 3) pa_nil)))) (pw_or1 (pt_not (pt_val (C8.pe_mt (cal_Zone_takes T) hr (by decide) (pv 0) (pa_cons (pe_ix ix_tup (pv 3) pe_int (fun _ _ => rfl)) (pa_cons (pe_ix ix_tup (pv 3) pe_int (fun _ _ => rfl)) pa_nil)))))))) (pss_one ps_never) pss_nil))))))))))), ?_⟩
      refine q_drop st (ev_call (R := R_needInt) (ea_cons (ev_sl st.sl rfl) ea_nil) ⟨_, rfl, rfl⟩) fun H1 st => ?_
      refine q_if st (et_not (et_B (ev_call (R := R_list) (ea_cons (ev_sl st.sl rfl) ea_nil) ⟨_, rfl, rfl, rfl⟩))) (fun hb => by cases hb) (fun _ H2 st => ?_)
      refine q_fldI st (ev_sl st.sl rfl) rfl hx T.c_Zone.cl T.n_Zone_own_first (by decide) fun H3 st => ?_
      refine q_fldF st (ef_lst ea_nil (by simp)) rfl upd_same T.c_Zone.cl T.n_Zone_own_moments (Nat.le_of_ble_eq_true rfl) fun m H4 st => ?_
      refine q_fldF st (ef_lst (ea_cons (ev_sl st.sl rfl) ea_nil) (by simp)) rfl upd_same T.c_Zone.cl T.n_Zone_own_offsets (Nat.le_of_ble_eq_true rfl) fun o H5 st => ?_
      refine q_fldF st (ef_lst ea_nil (by simp)) rfl upd_same T.c_Zone.cl T.n_Zone_own_jumps (Nat.le_of_ble_eq_true rfl) fun j H6 st => ?_
      refine s_for (ε := Nat) st (ei_tup (ev_sl st.sl rfl)) (fun i e => e = i) (fun e => zo m o j f (s.take e)) (fun e => [.at x, .d (.int f), .d (.tup ((offs f s).map pairD)), .no]) 0 rfl rfl (fits.rfl' _) (fun _ => rfl) (fun i d e hd he B' v σ' H' hB st => ?_) (fun e he σ' H' st => ?_)
      · subst he
        obtain ⟨mo, jj, ht, rfl, hok2, hl2⟩ := stp hd
        have st := st.setT 3
        have ej : f + ((s.take e).map (·.2)).sum + jj - (f + ((s.take e).map (·.2)).sum) = jj := by omega
        refine s_takes (mo := mo) (of := f + ((s.take e).map (·.2)).sum + jj) st upd_same rfl (et_B (ev_call (R := R_pair) (ea_cons (ev_sl st.sl rfl) ea_nil) ⟨_, Or.inl rfl, rfl⟩)) (ev_ixT (ev_sl st.sl rfl) ev_int rfl) (ev_ixT (ev_sl st.sl rfl) ev_int rfl) hl2 (by rw [ej]; exact hok2) fun H' st => ?_
        rw [ej, ← ht] at st
        exact ⟨_, rfl, st.clr.weak ⟨Or.inl rfl, Or.inl rfl, Or.inl rfl, Or.inr rfl, trivial⟩⟩
      · subst he
        have e1 : s.take ((offs f s).map pairD).length = s := by rw [List.length_map, offs_len]; exact List.take_length
        rw [e1] at st
        exact zone_end st upd_same (fun a ha => by rw [upd_ne ha, upd_ne ha, upd_ne ha, upd_ne ha]) k
    · refine ⟨_, PSs.nox ((pss_cons (ps_expr (C8.pe_c (cal_need_integer T) hr (by decide) (by rfl) (pa_cons (pv 1) pa_nil)))
      (pss_cons (ps_if (pt_not (pt_val (C8.pe_c (cal_is_list T) hr (by decide) (by rfl) (pa_cons (pv 2) pa_nil)))) (pss_one ps_never) pss_nil)
      (pss_cons (ps_fld (pv 0) (pv 1) rfl)
      (pss_cons (ps_fld (pv 0) (pe_lst pa_nil) rfl)
      (pss_cons (ps_fld (pv 0) (pe_lst (pa_cons (pv 1) pa_nil)) rfl)
      (pss_cons (ps_fld (pv 0) (pe_lst pa_nil) rfl)
      (pss_one (ps_for PassesOwn.never rfl (pi_list (pv 2)) (pg_name (i := 3) sc_Zone_ddinitdd.nd rfl (Or.inl rfl))
        (pss_one (ps_if (PW.pt (pw_or (pt_not (pt_val (C8.pe_c (cal_is_pair T) hr (by decide) (by rfl) (pa_cons (pv 3) pa_nil)))) (pw_or1 (pt_not (pt_val (C8.pe_mt (cal_Zone_takes T) hr (by decide) (pv 0) (pa_cons (pe_ix ix_list (pv 3) pe_int (fun _ _ => rfl)) (pa_cons (pe_ix ix_list (pv 3) pe_int (fun _ _ => rfl)) pa_nil)))))))) (pss_one ps_never) pss_nil))))))))))), ?_⟩
      refine q_drop st (ev_call (R := R_needInt) (ea_cons (ev_sl st.sl rfl) ea_nil) ⟨_, rfl, rfl⟩) fun H1 st => ?_
      refine q_if st (et_not (et_B (ev_call (R := R_list) (ea_cons (ev_sl st.sl rfl) ea_nil) ⟨_, rfl, rfl, rfl⟩))) (fun hb => by cases hb) (fun _ H2 st => ?_)
      refine q_fldI st (ev_sl st.sl rfl) rfl hx T.c_Zone.cl T.n_Zone_own_first (by decide) fun H3 st => ?_
      refine q_fldF st (ef_lst ea_nil (by simp)) rfl upd_same T.c_Zone.cl T.n_Zone_own_moments (Nat.le_of_ble_eq_true rfl) fun m H4 st => ?_
      refine q_fldF st (ef_lst (ea_cons (ev_sl st.sl rfl) ea_nil) (by simp)) rfl upd_same T.c_Zone.cl T.n_Zone_own_offsets (Nat.le_of_ble_eq_true rfl) fun o H5 st => ?_
      refine q_fldF st (ef_lst ea_nil (by simp)) rfl upd_same T.c_Zone.cl T.n_Zone_own_jumps (Nat.le_of_ble_eq_true rfl) fun j H6 st => ?_
      refine s_for (ε := Nat) st (ei_list (ev_sl st.sl rfl)) (fun i e => e = i) (fun e => zo m o j f (s.take e)) (fun e => [.at x, .d (.int f), .d (.lst ((offs f s).map pairL)), .no]) 0 rfl rfl (fits.rfl' _) (fun _ => rfl) (fun i d e hd he B' v σ' H' hB st => ?_) (fun e he σ' H' st => ?_)
      · subst he
        obtain ⟨mo, jj, ht, rfl, hok2, hl2⟩ := stp hd
        have st := st.setT 3
        have ej : f + ((s.take e).map (·.2)).sum + jj - (f + ((s.take e).map (·.2)).sum) = jj := by omega
        refine s_takes (mo := mo) (of := f + ((s.take e).map (·.2)).sum + jj) st upd_same rfl (et_B (ev_call (R := R_pair) (ea_cons (ev_sl st.sl rfl) ea_nil) ⟨_, Or.inr rfl, rfl⟩)) (ev_ixL (ev_sl st.sl rfl) ev_int rfl) (ev_ixL (ev_sl st.sl rfl) ev_int rfl) hl2 (by rw [ej]; exact hok2) fun H' st => ?_
        rw [ej, ← ht] at st
        exact ⟨_, rfl, st.clr.weak ⟨Or.inl rfl, Or.inl rfl, Or.inl rfl, Or.inr rfl, trivial⟩⟩
      · subst he
        have e1 : s.take ((offs f s).map pairL).length = s := by rw [List.length_map, offs_len]; exact List.take_length
        rw [e1] at st
        exact zone_end st upd_same (fun a ha => by rw [upd_ne ha, upd_ne ha, upd_ne ha, upd_ne ha]) k
    · refine ⟨_, PSs.nox ((pss_cons (ps_expr (C8.pe_c (cal_need_integer T) hr (by decide) (by rfl) (pa_cons (pv 1) pa_nil)))
      (pss_cons (ps_if (pt_not (pt_val (C8.pe_c (cal_is_list T) hr (by decide) (by rfl) (pa_cons (pv 2) pa_nil)))) (pss_one ps_never) pss_nil)
      (pss_cons (ps_fld (pv 0) (pv 1) rfl)
      (pss_cons (ps_fld (pv 0) (pe_lst pa_nil) rfl)
      (pss_cons (ps_fld (pv 0) (pe_lst (pa_cons (pv 1) pa_nil)) rfl)
      (pss_cons (ps_fld (pv 0) (pe_lst pa_nil) rfl)
      (pss_one (ps_for PassesOwn.never rfl (pi_tup (pv 2)) (pg_name (i := 3) sc_Zone_ddinitdd.nd rfl (Or.inl rfl))
        (pss_one (ps_if (PW.pt (pw_or (pt_not (pt_val (C8.pe_c (cal_is_pair T) hr (by decide) (by rfl) (pa_cons (pv 3) pa_nil)))) (pw_or1 (pt_not (pt_val (C8.pe_mt (cal_Zone_takes T) hr (by decide) (pv 0) (pa_cons (pe_ix ix_list (pv 3) pe_int (fun _ _ => rfl)) (pa_cons (pe_ix ix_list (pv 3) pe_int (fun _ _ => rfl)) pa_nil)))))))) (pss_one ps_never) pss_nil))))))))))), ?_⟩
      refine q_drop st (ev_call (R := R_needInt) (ea_cons (ev_sl st.sl rfl) ea_nil) ⟨_, rfl, rfl⟩) fun H1 st => ?_
      refine q_if st (et_not (et_B (ev_call (R := R_list) (ea_cons (ev_sl st.sl rfl) ea_nil) ⟨_, rfl, rfl, rfl⟩))) (fun hb => by cases hb) (fun _ H2 st => ?_)
      refine q_fldI st (ev_sl st.sl rfl) rfl hx T.c_Zone.cl T.n_Zone_own_first (by decide) fun H3 st => ?_
      refine q_fldF st (ef_lst ea_nil (by simp)) rfl upd_same T.c_Zone.cl T.n_Zone_own_moments (Nat.le_of_ble_eq_true rfl) fun m H4 st => ?_
      refine q_fldF st (ef_lst (ea_cons (ev_sl st.sl rfl) ea_nil) (by simp)) rfl upd_same T.c_Zone.cl T.n_Zone_own_offsets (Nat.le_of_ble_eq_true rfl) fun o H5 st => ?_
      refine q_fldF st (ef_lst ea_nil (by simp)) rfl upd_same T.c_Zone.cl T.n_Zone_own_jumps (Nat.le_of_ble_eq_true rfl) fun j H6 st => ?_
      refine s_for (ε := Nat) st (ei_tup (ev_sl st.sl rfl)) (fun i e => e = i) (fun e => zo m o j f (s.take e)) (fun e => [.at x, .d (.int f), .d (.tup ((offs f s).map pairL)), .no]) 0 rfl rfl (fits.rfl' _) (fun _ => rfl) (fun i d e hd he B' v σ' H' hB st => ?_) (fun e he σ' H' st => ?_)
      · subst he
        obtain ⟨mo, jj, ht, rfl, hok2, hl2⟩ := stp hd
        have st := st.setT 3
        have ej : f + ((s.take e).map (·.2)).sum + jj - (f + ((s.take e).map (·.2)).sum) = jj := by omega
        refine s_takes (mo := mo) (of := f + ((s.take e).map (·.2)).sum + jj) st upd_same rfl (et_B (ev_call (R := R_pair) (ea_cons (ev_sl st.sl rfl) ea_nil) ⟨_, Or.inr rfl, rfl⟩)) (ev_ixL (ev_sl st.sl rfl) ev_int rfl) (ev_ixL (ev_sl st.sl rfl) ev_int rfl) hl2 (by rw [ej]; exact hok2) fun H' st => ?_
        rw [ej, ← ht] at st
        exact ⟨_, rfl, st.clr.weak ⟨Or.inl rfl, Or.inl rfl, Or.inl rfl, Or.inr rfl, trivial⟩⟩
      · subst he
        have e1 : s.take ((offs f s).map pairL).length = s := by rw [List.length_map, offs_len]; exact List.take_length
        rw [e1] at st
        exact zone_end st upd_same (fun a ha => by rw [upd_ne ha, upd_ne ha, upd_ne ha, upd_ne ha]) k
theorem mak_Zone2 (T : Tx K mg) : C8.Mak P w K mg base 3 "Zone" (He.ga K "Zone") (spI K (He.ga K "Zone") R_zone) [] := by
  obtain ⟨fd, F, ok⟩ := fn_Zone_init (P := P) (w := w) (base := base) T
  obtain ⟨ds, h1, h2⟩ := F.binds1 (ps := ["self", "offset", "changes"]) 3 1 (by simp) rfl (fun T kV doc pm an cdv ct us its hu hi => match us, its, hu, hi with | [_, _, _], [_], _, _ => ⟨_, rfl, rfl⟩)
  exact ⟨_, fd, _, ds, T.mk_Zone, ok, T.g_Zone, h2, h1⟩
theorem mak_Zone1 (T : Tx K mg) : C8.Mak P w K mg base 3 "Zone" (He.ga K "Zone") (spI K (He.ga K "Zone") R_zone) [.ref (He.dflAt ("Zone", some "__init__") 0 K)] := by
  obtain ⟨fd, F, ok⟩ := fn_Zone_init (P := P) (w := w) (base := base) T
  obtain ⟨ds, h1, h2⟩ := F.binds1 (ps := ["self", "offset", "changes"]) 2 0 (by simp) rfl (fun T kV doc pm an cdv ct us its hu hi => match us, its, hu, hi with | [_, _], [_], _, _ => ⟨_, rfl, rfl⟩)
  exact ⟨_, fd, _, ds, T.mk_Zone, ok, T.g_Zone, h2, h1⟩
abbrev s_Zone_first : Stmt := inClass (top 13) 2
theorem sc_Zone_first : FnScope ["self"] ["self"] (defScope s_Zone_first) := ⟨rfl, rfl, rfl, by decide +kernel, rfl, by decide +kernel, by decide +kernel⟩
theorem cal_Zone_first (T : Tx K mg) : Prp P w K mg base 1 (He.ga K "Zone") "first" (spR K (R_first (He.ga K "Zone"))) := by
  obtain ⟨fd, F⟩ := T.d_Zone_first
  refine ⟨_, _, fd, ["self"], T.c_Zone.cl, T.p_Zone_first, FunD.ok F sc_Zone_first (fun vs H Q E h => ?_) (fun cdv A outer s H vs Q E hr h => ?_), F.bindsN (fun _ _ _ _ _ _ us hl => match us, hl with | [_], _ => rfl)⟩
  · obtain ⟨S, ds, d, _, ra, ⟨f, s, rfl, rfl⟩, _⟩ := h
    exact ra.len
  · obtain ⟨S, ds, d, ok, ra, ⟨f, s, rfl, rfl⟩, k⟩ := h
    have st : Sta K (Hx H S) H S [] [.d (zoneD (He.ga K "Zone") f s)] [] (L2.start ["self"] vs) H := Sta.init ok ra rfl
    refine ⟨_, PSs.nox ((pss_one (ps_ret (pe_fld (pv 0) rfl)))), ?_⟩
    exact r_ret st (ev_fld (ev_sl st.sl rfl) T.c_Zone.cl T.n_Zone_own_first rfl) rfl k
abbrev s_Zone_changes : Stmt := inClass (top 13) 3
theorem sc_Zone_changes : FnScope ["self"] ["self"] (defScope s_Zone_changes) := ⟨rfl, rfl, rfl, by decide +kernel, rfl, by decide +kernel, by decide +kernel⟩
theorem cal_Zone_changes (T : Tx K mg) : C8.Met P w K mg base 1 (He.ga K "Zone") "changes" (spF K (R_changes (He.ga K "Zone"))) [] := by
  obtain ⟨fd, F⟩ := T.d_Zone_changes
  refine ⟨_, fd, ["self"], [], T.c_Zone.cl, T.m_Zone_changes, FunD.ok F sc_Zone_changes (fun vs H Q E h => ?_) (fun cdv A outer s H vs Q E hr h => ?_), F.bindsN (fun _ _ _ _ _ _ us hl => match us, hl with | [_], _ => rfl), .nil⟩
  · obtain ⟨S, ds, d, _, ra, ⟨f, s, rfl, rfl⟩, _⟩ := h
    exact ra.len
  · obtain ⟨S, ds, d, ok, ra, ⟨f, s, rfl, rfl⟩, k⟩ := h
    have st : Sta K (Hx H S) H S [] [.d (zoneD (He.ga K "Zone") f s)] [] (L2.start ["self"] vs) H := Sta.init ok ra rfl
    refine ⟨_, PSs.nox (pss_one (ps_ret (pe_listZip rfl (by rfl) T.f_list (by rfl) T.f_zip (pa_cons (pe_fld (pv 0) rfl) (pa_cons (pe_slice sl_list (pe_fld (pv 0) rfl) (po_some pe_int) po_none) pa_nil))))), ?_⟩
    exact r_retF st (ef_cb (ea_cons (ev_fld (ev_sl st.sl rfl) T.c_Zone.cl T.n_Zone_own_moments rfl) (ea_cons (EvF.ev (ef_sl (ev_fld (ev_sl st.sl rfl) T.c_Zone.cl T.n_Zone_own_offsets rfl) (eo_some (K := K) ev_int) eo_none)) ea_nil)) rcf_listZip) (zip_offs f s) k
abbrev s_Zone_jump_list : Stmt := inClass (top 13) 4
theorem sc_Zone_jump_list : FnScope ["self"] ["self"] (defScope s_Zone_jump_list) := ⟨rfl, rfl, rfl, by decide +kernel, rfl, by decide +kernel, by decide +kernel⟩
theorem cal_Zone_jump_list (T : Tx K mg) : C8.Met P w K mg base 1 (He.ga K "Zone") "jump_list" (spF K (R_jumps (He.ga K "Zone"))) [] := by
  obtain ⟨fd, F⟩ := T.d_Zone_jump_list
  refine ⟨_, fd, ["self"], [], T.c_Zone.cl, T.m_Zone_jump_list, FunD.ok F sc_Zone_jump_list (fun vs H Q E h => ?_) (fun cdv A outer s H vs Q E hr h => ?_), F.bindsN (fun _ _ _ _ _ _ us hl => match us, hl with | [_], _ => rfl), .nil⟩
  · obtain ⟨S, ds, d, _, ra, hR, _⟩ := h
    obtain ⟨f, s, rfl, rfl⟩ := hR
    exact ra.len
  · obtain ⟨S, ds, d, ok, ra, hR, k⟩ := h
    obtain ⟨f, s, rfl, rfl⟩ := hR
    have st : Sta K (Hx H S) H S [] [.d (zoneD (He.ga K "Zone") f s)] [] (L2.start ["self"] vs) H := Sta.init ok ra rfl
    refine ⟨_, PSs.nox ((pss_one (ps_ret (pe_callTy call_list_of (by rfl) T.f_list (by decide +kernel) (pa_cons (pe_fld (pv 0) rfl) pa_nil))))), ?_⟩
    exact r_retF st (ef_cb (ea_cons (ev_fld (ev_sl st.sl rfl) T.c_Zone.cl T.n_Zone_own_jumps rfl) ea_nil) (rcf_list (Or.inl rfl))) rfl k
abbrev s_Zone_ddlendd : Stmt := inClass (top 13) 5
theorem sc_Zone_ddlendd : FnScope ["self"] ["self"] (defScope s_Zone_ddlendd) := ⟨rfl, rfl, rfl, by decide +kernel, rfl, by decide +kernel, by decide +kernel⟩
theorem cal_Zone_ddlendd (T : Tx K mg) : C8.Met P w K mg base 1 (He.ga K "Zone") "__len__" (spR K (R_zlen (He.ga K "Zone"))) [] := by
  obtain ⟨fd, F⟩ := T.d_Zone_ddlendd
  refine ⟨_, fd, ["self"], [], T.c_Zone.cl, T.m_Zone_ddlendd, FunD.ok F sc_Zone_ddlendd (fun vs H Q E h => ?_) (fun cdv A outer s H vs Q E hr h => ?_), F.bindsN (fun _ _ _ _ _ _ us hl => match us, hl with | [_], _ => rfl), .nil⟩
  · obtain ⟨S, ds, d, _, ra, hR, _⟩ := h
    obtain ⟨f, s, rfl, rfl⟩ := hR
    exact ra.len
  · obtain ⟨S, ds, d, ok, ra, hR, k⟩ := h
    obtain ⟨f, s, rfl, rfl⟩ := hR
    have st : Sta K (Hx H S) H S [] [.d (zoneD (He.ga K "Zone") f s)] [] (L2.start ["self"] vs) H := Sta.init ok ra rfl
    refine ⟨_, PSs.nox ((pss_one (ps_ret (pe_callB call_len_seq (by rfl) T.f_len (by decide +kernel) (pa_cons (pe_fld (pv 0) rfl) pa_nil))))), ?_⟩
    exact r_ret st (ev_cb (ea_cons (ev_fld (ev_sl st.sl rfl) T.c_Zone.cl T.n_Zone_own_moments rfl) ea_nil) rc_lenL) (by simp) k
abbrev s_Zone_ddcontainsdd : Stmt := inClass (top 13) 6
theorem sc_Zone_ddcontainsdd : FnScope ["self", "value"] ["self", "value"] (defScope s_Zone_ddcontainsdd) := ⟨rfl, rfl, rfl, by decide +kernel, rfl, by decide +kernel, by decide +kernel⟩
theorem cal_Zone_ddcontainsdd (T : Tx K mg) : C8.Met P w K mg base 2 (He.ga K "Zone") "__contains__" (spR K (R_has (He.ga K "Zone"))) [] := by
  obtain ⟨fd, F⟩ := T.d_Zone_ddcontainsdd
  refine ⟨_, fd, ["self", "value"], [], T.c_Zone.cl, T.m_Zone_ddcontainsdd, FunD.ok F sc_Zone_ddcontainsdd (fun vs H Q E h => ?_) (fun cdv A outer s H vs Q E hr h => ?_), F.bindsN (fun _ _ _ _ _ _ us hl => match us, hl with | [_, _], _ => rfl), .nil⟩
  · obtain ⟨S, ds, d, _, ra, hR, _⟩ := h
    obtain ⟨f, s, x, rfl, hx, rfl⟩ := hR
    exact ra.len
  · obtain ⟨S, ds, d, ok, ra, hR, k⟩ := h
    obtain ⟨f, s, x, rfl, hx, rfl⟩ := hR
    have st : Sta K (Hx H S) H S [] [.d (zoneD (He.ga K "Zone") f s), .d x] [] (L2.start ["self", "value"] vs) H := Sta.init ok ra rfl
    refine ⟨_, PSs.nox ((pss_one (ps_ret (pe_and (C8.pe_c (cal_is_whole T) hr (by decide) (by rfl) (pa_cons (pv 1) pa_nil)) (pe_one (pe_cmpR (op_inD (hu65 hr)) (pv 1) (pe_fld (pv 0) rfl) (by rfl))))))), ?_⟩
    exact r_ret st (ev_andV (ev_call (R := R_whole) (ea_cons (ev_sl st.sl rfl) ea_nil) ⟨_, rfl, hx, rfl⟩) (fun hb => ev_inD 0 1 (ev_sl st.sl rfl) (ev_fld (ev_sl st.sl rfl) T.c_Zone.cl T.n_Zone_own_moments rfl) (by cases x <;> first | trivial | cases hb) (good_ints _))) rfl k
abbrev s_Zone_parts : Stmt := inClass (top 13) 8
theorem sc_Zone_parts : FnScope ["self"] ["self"] (defScope s_Zone_parts) := ⟨rfl, rfl, rfl, by decide +kernel, rfl, by decide +kernel, by decide +kernel⟩
theorem cal_Zone_parts (T : Tx K mg) : C8.Met P w K mg base 1 (He.ga K "Zone") "parts" (spR K (R_parts (He.ga K "Zone"))) [] := by
  obtain ⟨fd, F⟩ := T.d_Zone_parts
  refine ⟨_, fd, ["self"], [], T.c_Zone.cl, T.m_Zone_parts, FunD.ok F sc_Zone_parts (fun vs H Q E h => ?_) (fun cdv A outer s H vs Q E hr h => ?_), F.bindsN (fun _ _ _ _ _ _ us hl => match us, hl with | [_], _ => rfl), .nil⟩
  · obtain ⟨S, ds, d, _, ra, hR, _⟩ := h
    obtain ⟨f, s, rfl, rfl⟩ := hR
    exact ra.len
  · obtain ⟨S, ds, d, ok, ra, hR, k⟩ := h
    obtain ⟨f, s, rfl, rfl⟩ := hR
    have st : Sta K (Hx H S) H S [] [.d (zoneD (He.ga K "Zone") f s)] [] (L2.start ["self"] vs) H := Sta.init ok ra rfl
    refine ⟨_, PSs.nox ((pss_one (ps_ret (pe_tup (pa_cons (pe_fld (pv 0) rfl) (pa_cons (pe_fld (pv 0) rfl) pa_nil)))))), ?_⟩
    exact r_ret st (ev_tup (ea_cons (ev_fld (ev_sl st.sl rfl) T.c_Zone.cl T.n_Zone_own_offsets rfl) (ea_cons (ev_fld (ev_sl st.sl rfl) T.c_Zone.cl T.n_Zone_own_moments rfl) ea_nil)) (by simp)) rfl k
abbrev s_Zone_ddeqdd : Stmt := inClass (top 13) 7
theorem sc_Zone_ddeqdd : FnScope ["self", "other"] ["self", "other"] (defScope s_Zone_ddeqdd) := ⟨rfl, rfl, rfl, by decide +kernel, rfl, by decide +kernel, by decide +kernel⟩
theorem cal_Zone_ddeqdd (T : Tx K mg) : C8.Met P w K mg base 2 (He.ga K "Zone") "__eq__" (spR K (R_zeq (He.ga K "Zone"))) [] := by
  obtain ⟨fd, F⟩ := T.d_Zone_ddeqdd
  refine ⟨_, fd, ["self", "other"], [], T.c_Zone.cl, T.m_Zone_ddeqdd, FunD.ok F sc_Zone_ddeqdd (fun vs H Q E h => ?_) (fun cdv A outer s H vs Q E hr h => ?_), F.bindsN (fun _ _ _ _ _ _ us hl => match us, hl with | [_, _], _ => rfl), .nil⟩
  · obtain ⟨S, ds, d, _, ra, ⟨f, s, ⟨f', s', rfl, rfl⟩ | ⟨xs, rfl, rfl⟩⟩, _⟩ := h
    · exact ra.len
    · exact ra.len
  · obtain ⟨S, ds, d, ok, ra, ⟨f, s, ⟨f', s', rfl, rfl⟩ | ⟨xs, rfl, rfl⟩⟩, k⟩ := h
    · have st : Sta K (Hx H S) H S [] [.d (zoneD (He.ga K "Zone") f s), .d (zoneD (He.ga K "Zone") f' s')] [] (L2.start ["self", "other"] vs) H := Sta.init ok ra rfl
      refine ⟨_, PSs.nox ((pss_one (ps_ret (pe_and (pe_callB call_isi (by rfl) T.f_isinstance (by decide +kernel) (pa_cons (pv 1) (pa_cons (pe_glob (v := .ref (He.ga K "Zone")) rfl T.g_Zone rfl) pa_nil))) (pe_one (pe_cmpR (op_eqD hr.units) (C8.pe_mt0 (cal_Zone_parts T) hr (by decide) (pv 0)) (C8.pe_mt0 (cal_Zone_parts T) hr (by decide) (pv 1)) (nomark _))))))), ?_⟩
      exact r_ret st (ev_andV (ev_isiO (b := true) (ev_sl (n := 1) st.sl rfl) (.obj T.c_Zone) (by unfold PySem.W.kitOne; rw [if_pos (by simp)])) (fun _ => ev_eqD 2 2 (ev_meth (R := (R_parts (He.ga K "Zone"))) (ev_sl (n := 0) st.sl rfl) rfl ea_nil ⟨_, _, rfl, rfl⟩) (ev_meth (R := (R_parts (He.ga K "Zone"))) (ev_sl (n := 1) st.sl rfl) rfl ea_nil ⟨_, _, rfl, rfl⟩) (good_parts _ _) (good_parts _ _))) rfl k
    · have st : Sta K (Hx H S) H S [] [.d (zoneD (He.ga K "Zone") f s), .d (.lst xs)] [] (L2.start ["self", "other"] vs) H := Sta.init ok ra rfl
      refine ⟨_, PSs.nox ((pss_one (ps_ret (pe_and (pe_callB call_isi (by rfl) T.f_isinstance (by decide +kernel) (pa_cons (pv 1) (pa_cons (pe_glob (v := .ref (He.ga K "Zone")) rfl T.g_Zone rfl) pa_nil))) (pe_one (pe_cmpR (op_eqD hr.units) (C8.pe_mt0 (cal_Zone_parts T) hr (by decide) (pv 0)) (C8.pe_mt0 (cal_Zone_parts T) hr (by decide) (pv 1)) (nomark _))))))), ?_⟩
      exact r_ret st (ev_andV (b := false) (c := false) (ev_isiO (ev_sl (n := 1) st.sl rfl) (.lst _) T.kl_Zone) (fun hb => by cases hb)) rfl k
abbrev s_Zone_spans : Stmt := inClass (top 13) 12
theorem sc_Zone_spans : FnScope ["self", "found", "moment", "old", "new"] ["self"] (defScope s_Zone_spans) := ⟨rfl, rfl, rfl, by decide +kernel, rfl, by decide +kernel, by decide +kernel⟩
theorem cal_Zone_spans (T : Tx K mg) : C8.Met P w K mg base 1 (He.ga K "Zone") "spans" (spF K (R_spans (He.ga K "Zone"))) [] := by
  obtain ⟨fd, F⟩ := T.d_Zone_spans
  refine ⟨_, fd, ["self"], [], T.c_Zone.cl, T.m_Zone_spans, FunD.ok F sc_Zone_spans (fun vs H Q E h => ?_) (fun cdv A outer s H vs Q E hr h => ?_), F.bindsN (fun _ _ _ _ _ _ us hl => match us, hl with | [_], _ => rfl), .nil⟩
  · obtain ⟨S, ds, d, _, ra, hR, _⟩ := h
    obtain ⟨f, s, rfl, hlen, rfl⟩ := hR
    exact ra.len
  · obtain ⟨S, ds, d, ok, ra, hR, k⟩ := h
    obtain ⟨f, s, rfl, hlen, rfl⟩ := hR
    have st : Sta K (Hx H S) H S [] [.d (zoneD (He.ga K "Zone") f s), .no, .no, .no, .no] [] (L2.start ["self", "found", "moment", "old", "new"] vs) H := Sta.init ok ra rfl
    refine ⟨_, PSs.nox ((pss_cons (ps_set (i := 1) sc_Zone_spans.nd rfl (Or.inl rfl) (pe_lst pa_nil))
      (pss_cons (ps_for PassesOwn.never rfl (pi_zip3 (by rfl) T.f_zip (pa_cons (pe_fld (pv 0) rfl) (pa_cons (pe_fld (pv 0) rfl) (pa_cons (pe_slice sl_list (pe_fld (pv 0) rfl) (po_some pe_int) po_none) pa_nil)))) (pg_tup rfl (pgs_cons (pg_name (i := 2) sc_Zone_spans.nd rfl (Or.inl rfl)) (pgs_cons (pg_name (i := 3) sc_Zone_spans.nd rfl (Or.inl rfl)) (pgs_cons (pg_name (i := 4) sc_Zone_spans.nd rfl (Or.inl rfl)) pgs_nil))))
        (pss_one (ps_expr (pe_bm PySem.F.plainAttrs_list PySem.F.slot_list_append PySem.F.type_list_append mt_append (pv 1) (pa_cons (pe_tup (pa_cons (pe_op op_add (pv 2) (pe_callB (call_min2 rfl) (by rfl) T.f_min (by decide +kernel) (pa_cons (pv 3) (pa_cons (pv 4) pa_nil)))) (pa_cons (pe_op op_add (pv 2) (pe_callB (call_max2 rfl) (by rfl) T.f_max (by decide +kernel) (pa_cons (pv 3) (pa_cons (pv 4) pa_nil)))) pa_nil))) pa_nil)))))
      (pss_one (ps_ret (pv 1)))))), ?_⟩
    refine q_asgF st (ef_lst ea_nil (by simp)) fun l σ1 H1 st => ?_
    refine q_for (ε := Nat) st (EvI.to (ei_zip3 (ea_cons (ev_fld (ev_sl st.sl rfl) T.c_Zone.cl T.n_Zone_own_moments rfl) (ea_cons (ev_fld (ev_sl st.sl rfl) T.c_Zone.cl T.n_Zone_own_offsets rfl) (ea_cons (EvF.ev (ef_sl (ev_fld (ev_sl st.sl rfl) T.c_Zone.cl T.n_Zone_own_offsets rfl) (eo_some (K := K) ev_int) eo_none)) ea_nil)))) (zip3_offs f s)) (fun i e => e = i ∧ i ≤ s.length) (fun e => [(l, ((spansP f s).take e).map pairD)]) (fun e => [.d (zoneD (He.ga K "Zone") f s), .at l, .no, .no, .no]) 0 ⟨rfl, Nat.zero_le _⟩ rfl (fits.rfl' _) (fun _ => rfl) (fun i d e hd he B' v σ' H' hB st => ?_) (fun e he σ' H' st => ?_)
    · obtain ⟨rfl, hi⟩ := he
      obtain ⟨mo, old, new, rfl, hp⟩ := trip_get hd
      have hl : ((spansP f s).take e).length < 100000 := by rw [List.length_take, spansP_len]; omega
      have hi' : e < s.length := by have := (List.getElem?_eq_some_iff.1 hp).1; rw [spansP_len] at this; exact this
      refine g_three st fun σ2 st => ?_
      refine s_app (n := 1) (k := 0) st rfl rfl (ev_tup (ea_cons (ev_add (ev_sl st.sl rfl) (ev_cb (ea_cons (ev_sl st.sl rfl) (ea_cons (ev_sl st.sl rfl) ea_nil)) rc_min)) (ea_cons (ev_add (ev_sl st.sl rfl) (ev_cb (ea_cons (ev_sl st.sl rfl) (ea_cons (ev_sl st.sl rfl) ea_nil)) rc_max)) ea_nil)) (by simp)) (by rw [List.length_map]; exact hl) fun H' st => ?_
      refine ⟨e + 1, ⟨rfl, hi'⟩, ?_⟩
      show Sta K B' H S [(l, ((spansP f s).take (e + 1)).map pairD)] [.d (zoneD (He.ga K "Zone") f s), .at l, .no, .no, .no] [] σ2 H'
      rw [take_one hp, List.map_append]
      exact st.weak ⟨Or.inl rfl, Or.inl rfl, Or.inr rfl, Or.inr rfl, Or.inr rfl, trivial⟩
    · obtain ⟨rfl, _⟩ := he
      refine r_retAt st rfl ?_ k
      rw [trip_len, ← spansP_len f s, List.take_length]
abbrev s_Zone_gaps : Stmt := inClass (top 13) 17
theorem sc_Zone_gaps : FnScope ["self", "span", "jump"] ["self"] (defScope s_Zone_gaps) := ⟨rfl, rfl, rfl, by decide +kernel, rfl, by decide +kernel, by decide +kernel⟩
theorem cal_Zone_gaps (T : Tx K mg) : C8.Met P w K mg base 2 (He.ga K "Zone") "gaps" (spF K (R_gaps (He.ga K "Zone"))) [] := by
  obtain ⟨fd, F⟩ := T.d_Zone_gaps
  refine ⟨_, fd, ["self"], [], T.c_Zone.cl, T.m_Zone_gaps, FunD.ok F sc_Zone_gaps (fun vs H Q E h => ?_) (fun cdv A outer s H vs Q E hr h => ?_), F.bindsN (fun _ _ _ _ _ _ us hl => match us, hl with | [_], _ => rfl), .nil⟩
  · obtain ⟨S, ds, d, _, ra, hR, _⟩ := h
    obtain ⟨f, s, rfl, hlen, rfl⟩ := hR
    exact ra.len
  · obtain ⟨S, ds, d, ok, ra, hR, k⟩ := h
    obtain ⟨f, s, rfl, hlen, rfl⟩ := hR
    have st : Sta K (Hx H S) H S [] [.d (zoneD (He.ga K "Zone") f s), .no, .no] [] (L2.start ["self", "span", "jump"] vs) H := Sta.init ok ra rfl
    refine ⟨_, PSs.nox ((pss_one (ps_ret (pe_lc (own := [("span", 1), ("jump", 2)]) (g := gTup K 2 (gCons (gName 1) (gCons (gName 2) gNil))) (by rfl) sc_Zone_gaps.nd (pi_zip (by rfl) T.f_zip (pa_cons (C8.pe_mt0 (cal_Zone_spans T) hr (by decide) (pv 0)) (pa_cons (pe_fld (pv 0) rfl) pa_nil))) (blkOk_by (own := [("span", 1), ("jump", 2)]) (N := ["self", "span", "jump"]) (sc := defScope s_Zone_gaps) (by decide +kernel)) (fun _ _ _ _ _ => (pg_tup rfl (pgs_cons (pg_name (i := 1) sc_Zone_gaps.nd rfl (Or.inl rfl) (Or.inr rfl)) (pgs_cons (pg_name (i := 2) sc_Zone_gaps.nd rfl (Or.inl rfl) (Or.inr rfl)) pgs_nil)))) (fun _ _ _ _ _ => (pts_one (pt_cmpR op_gt (pv 2) pe_int (nomark _)))) (fun _ _ _ _ _ => (pv 1)))))), ?_⟩
    exact r_retF st (ef_lc (α := (Int × Int) × Int) (ps := (spansP f s).zip (s.map (·.2))) (f := fun p => .tup [pairD p.1, .int p.2]) (keep := fun a_ => decide (0 < a_.2)) (val := fun a_ => pairD a_.1) (up := _) st.sl ((ei_zip (ea_cons (EvF.ev (ef_meth (RF := (R_spans (He.ga K "Zone"))) (ev_sl (n := 0) st.sl rfl) rfl ea_nil ⟨_, _, rfl, hlen, rfl⟩)) (ea_cons (ev_fld (ev_sl (n := 0) st.sl rfl) T.c_Zone.cl T.n_Zone_own_jumps rfl) ea_nil))).to (zip_spans f s)) (by rw [List.length_zip, spansP_len]; omega) (fun a_ ha_ => (tg_two (by decide) (by decide))) (fun a_ ha_ σ_ G_ S_ sl_ => (et_test (ev_gt (ev_sl (n := 2) sl_ rfl) ev_int))) (fun a_ ha_ hk_ σ_ G_ S_ sl_ => (ev_sl (n := 1) sl_ rfl))) (spansIf_eq (fun j => decide (0 < j)) f s) k
abbrev s_Zone_folds : Stmt := inClass (top 13) 18
theorem sc_Zone_folds : FnScope ["self", "span", "jump"] ["self"] (defScope s_Zone_folds) := ⟨rfl, rfl, rfl, by decide +kernel, rfl, by decide +kernel, by decide +kernel⟩
theorem cal_Zone_folds (T : Tx K mg) : C8.Met P w K mg base 2 (He.ga K "Zone") "folds" (spF K (R_folds (He.ga K "Zone"))) [] := by
  obtain ⟨fd, F⟩ := T.d_Zone_folds
  refine ⟨_, fd, ["self"], [], T.c_Zone.cl, T.m_Zone_folds, FunD.ok F sc_Zone_folds (fun vs H Q E h => ?_) (fun cdv A outer s H vs Q E hr h => ?_), F.bindsN (fun _ _ _ _ _ _ us hl => match us, hl with | [_], _ => rfl), .nil⟩
  · obtain ⟨S, ds, d, _, ra, hR, _⟩ := h
    obtain ⟨f, s, rfl, hlen, rfl⟩ := hR
    exact ra.len
  · obtain ⟨S, ds, d, ok, ra, hR, k⟩ := h
    obtain ⟨f, s, rfl, hlen, rfl⟩ := hR
    have st : Sta K (Hx H S) H S [] [.d (zoneD (He.ga K "Zone") f s), .no, .no] [] (L2.start ["self", "span", "jump"] vs) H := Sta.init ok ra rfl
    refine ⟨_, PSs.nox ((pss_one (ps_ret (pe_lc (own := [("span", 1), ("jump", 2)]) (g := gTup K 2 (gCons (gName 1) (gCons (gName 2) gNil))) (by rfl) sc_Zone_folds.nd (pi_zip (by rfl) T.f_zip (pa_cons (C8.pe_mt0 (cal_Zone_spans T) hr (by decide) (pv 0)) (pa_cons (pe_fld (pv 0) rfl) pa_nil))) (blkOk_by (own := [("span", 1), ("jump", 2)]) (N := ["self", "span", "jump"]) (sc := defScope s_Zone_folds) (by decide +kernel)) (fun _ _ _ _ _ => (pg_tup rfl (pgs_cons (pg_name (i := 1) sc_Zone_folds.nd rfl (Or.inl rfl) (Or.inr rfl)) (pgs_cons (pg_name (i := 2) sc_Zone_folds.nd rfl (Or.inl rfl) (Or.inr rfl)) pgs_nil)))) (fun _ _ _ _ _ => (pts_one (pt_cmpR op_lt (pv 2) pe_int (nomark _)))) (fun _ _ _ _ _ => (pv 1)))))), ?_⟩
    exact r_retF st (ef_lc (α := (Int × Int) × Int) (ps := (spansP f s).zip (s.map (·.2))) (f := fun p => .tup [pairD p.1, .int p.2]) (keep := fun a_ => decide (a_.2 < 0)) (val := fun a_ => pairD a_.1) (up := _) st.sl ((ei_zip (ea_cons (EvF.ev (ef_meth (RF := (R_spans (He.ga K "Zone"))) (ev_sl (n := 0) st.sl rfl) rfl ea_nil ⟨_, _, rfl, hlen, rfl⟩)) (ea_cons (ev_fld (ev_sl (n := 0) st.sl rfl) T.c_Zone.cl T.n_Zone_own_jumps rfl) ea_nil))).to (zip_spans f s)) (by rw [List.length_zip, spansP_len]; omega) (fun a_ ha_ => (tg_two (by decide) (by decide))) (fun a_ ha_ σ_ G_ S_ sl_ => (et_test (ev_lt (ev_sl (n := 2) sl_ rfl) ev_int))) (fun a_ ha_ hk_ σ_ G_ S_ sl_ => (ev_sl (n := 1) sl_ rfl))) (spansIf_eq (fun j => decide (j < 0)) f s) k
end
end K4


set_option Elab.async false
set_option linter.all false
set_option maxRecDepth 100000
set_option maxHeartbeats 4000000
namespace K4
open PySem L2 Z Zn
open Evl (Ex ex_l ex_t sz_of sz_lt fresh_back)
section
variable {P : Program} {w : World} {K : PySem.W.Frag} {mg : Str → Option Value} {base : Heap}
abbrev s_l_cell : Stmt := top 15
theorem sc_l_cell : FnScope ["_law_script", "_law_index"] ["_law_script", "_law_index"] (defScope s_l_cell) := ⟨rfl, rfl, rfl, by decide +kernel, rfl, by decide +kernel, by decide +kernel⟩
theorem cal_l_cell (T : Tx K mg) : C8.Cal P w K mg base 1 "_law_cell" (spR K R_cell) [] := by
  obtain ⟨fd, F⟩ := T.d_l_cell
  refine ⟨_, fd, ["_law_script", "_law_index"], [], FunD.ok F sc_l_cell (fun vs H Q E h => ?_) (fun cdv A outer s H vs Q E hr h => ?_), T.m_l_cell, F.kp, F.bindsN (fun _ _ _ _ _ _ us hl => match us, hl with | [_, _], _ => rfl), .nil⟩
  · obtain ⟨S, ds, d, _, ra, hR, _⟩ := h
    obtain ⟨os, i, rfl, h0, h1, rfl⟩ := hR
    exact ra.len
  · obtain ⟨S, ds, d, ok, ra, hR, k⟩ := h
    obtain ⟨os, i, rfl, h0, h1, rfl⟩ := hR
    have st : Sta K (Hx H S) H S [] [.d (.rls (os.map D.int)), .d (.int i)] [] (L2.start ["_law_script", "_law_index"] vs) H := Sta.init ok ra rfl
    refine ⟨_, PSs.nox ((pss_cons (ps_if (pt_cmpR op_lt (pv 1) (pe_callB call_len_seq (by rfl) T.f_len (by decide +kernel) (pa_cons (pv 0) pa_nil)) (nomark _)) (pss_one (ps_ret (pe_ix ix_list (pv 0) (pv 1) (fun _ _ => rfl)))) pss_nil)
      (pss_one (ps_ret (pe_op op_add (pe_op op_mul pe_int (pv 1)) pe_int))))), ?_⟩
    refine q_if st (et_test (ev_lt (ev_sl st.sl rfl) (ev_cb (ea_cons (ev_sl st.sl rfl) ea_nil) rc_lenR))) (fun hb H1 st => ?_) (fun hb H1 st => ?_)
    · have hb2 : i < os.length := by simpa using hb
      refine r_ret st (ev_ixR (ev_sl st.sl rfl) (ev_sl (d := .int i) st.sl rfl) (d := .int (os.getD i.toNat 0)) ?_) (by unfold cellV; rw [if_pos hb2]) k
      unfold atI ixN
      rw [if_pos h0, List.length_map, if_pos (by omega)]
      show (os.map D.int)[i.toNat]? = _
      rw [List.getElem?_map, List.getElem?_eq_getElem (by omega), List.getD_eq_getElem?_getD, List.getElem?_eq_getElem (by omega)]
      rfl
    · have hb2 : ¬ i < os.length := by simpa using hb
      exact r_ret st (ev_add (ev_mul ev_int (ev_sl st.sl rfl) (Or.inl ⟨by omega, by omega⟩)) ev_int) (by unfold cellV; rw [if_neg hb2]) k
abbrev s_l_bag : Stmt := top 16
theorem sc_l_bag : FnScope ["_law_cell_here"] ["_law_cell_here"] (defScope s_l_bag) := ⟨rfl, rfl, rfl, by decide +kernel, rfl, by decide +kernel, by decide +kernel⟩
theorem cal_l_bag (T : Tx K mg) : C8.Cal P w K mg base 1 "_law_bag" (spF K R_bag) [] := by
  obtain ⟨fd, F⟩ := T.d_l_bag
  refine ⟨_, fd, ["_law_cell_here"], [], FunD.ok F sc_l_bag (fun vs H Q E h => ?_) (fun cdv A outer s H vs Q E hr h => ?_), T.m_l_bag, F.kp, F.bindsN (fun _ _ _ _ _ _ us hl => match us, hl with | [_], _ => rfl), .nil⟩
  · obtain ⟨S, ds, d, _, ra, hR, _⟩ := h
    obtain ⟨c, rfl, rfl⟩ := hR
    exact ra.len
  · obtain ⟨S, ds, d, ok, ra, hR, k⟩ := h
    obtain ⟨c, rfl, rfl⟩ := hR
    have st : Sta K (Hx H S) H S [] [.d (.int c)] [] (L2.start ["_law_cell_here"] vs) H := Sta.init ok ra rfl
    refine ⟨_, PSs.nox ((pss_one (ps_ret (pe_lst (pa_cons (pe_callB (call_max2 rfl) (by rfl) T.f_max (by decide +kernel) (pa_cons pe_int (pa_cons (pe_op op_sub (pv 0) (pe_op op_pow pe_int pe_int)) pa_nil))) (pa_cons (pe_op op_mod (pv 0) pe_int) (pa_cons pe_int pa_nil))))))), ?_⟩
    exact r_retF st (ef_lst (ea_cons (ev_cb (ea_cons ev_int (ea_cons (ev_sub (ev_sl st.sl rfl) (ev_pow ev_int ev_int ⟨by decide, by decide, by decide⟩)) ea_nil)) rc_max) (ea_cons (ev_mod (ev_sl st.sl rfl) ev_int (by decide)) (ea_cons ev_int ea_nil))) (by simp)) rfl k
abbrev s_l_take : Stmt := top 17
theorem sc_l_take : FnScope ["_law_bag_here", "_law_many", "_law_digit", "_law_mixed"] ["_law_bag_here", "_law_many"] (defScope s_l_take) := ⟨rfl, rfl, rfl, by decide +kernel, rfl, by decide +kernel, by decide +kernel⟩
theorem cal_l_take (T : Tx K mg) : C8.Cal P w K mg base 1 "_law_take" spTake [] := by
  obtain ⟨fd, F⟩ := T.d_l_take
  refine ⟨_, fd, ["_law_bag_here", "_law_many"], [], FunD.ok F sc_l_take (fun vs H Q E h => ?_) (fun cdv A outer s H vs Q E hr h => ?_), T.m_l_take, F.kp, F.bindsN (fun _ _ _ _ _ _ us hl => match us, hl with | [_, _], _ => rfl), .nil⟩
  · obtain ⟨a, b0, b1, b2, many, rfl, _⟩ := h
    rfl
  · obtain ⟨a, b0, b1, b2, many, rfl, h, p1, p2, p3, p4, p5, p6, p7, k⟩ := h
    refine ⟨_, PSs.nox ((pss_cons (ps_if (pt_cmpR op_gt (pe_ix ix_list (pv 0) pe_int (fun _ _ => rfl)) pe_int (nomark _)) (pss_cons (ps_set (i := 2) sc_l_take.nd rfl (Or.inl rfl) (pe_op op_mod (pe_ix ix_list (pv 0) pe_int (fun _ _ => rfl)) (pv 1)))
      (pss_cons (ps_asg (pe_op op_fdivW (pe_ix ix_list (pv 0) pe_int (fun _ _ => rfl)) (pv 1)) (pg_sub (pv 0) pe_int set_list))
      (pss_one (ps_ret (pv 2))))) pss_nil)
      (pss_cons (ps_asg (pe_op op_add (pe_ix ix_list (pv 0) pe_int (fun _ _ => rfl)) pe_int) (pg_sub (pv 0) pe_int set_list))
      (pss_cons (ps_set (i := 3) sc_l_take.nd rfl (Or.inl rfl) (pe_op op_mod (pe_op op_pow (pe_op op_add (pe_op op_add (pe_ix ix_list (pv 0) pe_int (fun _ _ => rfl)) (pe_op op_mul pe_int (pe_ix ix_list (pv 0) pe_int (fun _ _ => rfl)))) pe_int) pe_int) pe_int))
      (pss_cons (ps_set (i := 3) sc_l_take.nd rfl (Or.inl rfl) (pe_op op_mod (pe_op op_pow (pe_op op_add (pv 3) (pe_op op_mul pe_int (pe_ix ix_list (pv 0) pe_int (fun _ _ => rfl)))) pe_int) pe_int))
      (pss_one (ps_ret (pe_op op_mod (pe_op op_fdivW (pv 3) pe_int) (pv 1))))))))), ?_⟩
    refine o_ix h rfl rfl ⟨_, _, rfl, rfl, _, rfl, ?_⟩
    by_cases c : 0 < b0
    · refine ifT (decide_eq_true c) ?_
      refine o_ix h rfl rfl ⟨_, rfl, _, _, rfl, rfl, p6, ?_⟩
      refine o_ix h rfl rfl ⟨_, rfl, _, _, rfl, rfl, cdiv p6 p7, _, rfl, a, _, 0, 0, rfl, rfl, h, rfl, ?_⟩
      refine ⟨_, rfl, k _ _ _ (Int.emod_nonneg _ (by omega)) (Int.emod_lt_of_pos _ p6) (Int.ediv_nonneg p1 (by omega)) p4 (by omega)⟩
    · refine ifF (decide_eq_false c) ?_
      refine o_ix h rfl rfl ⟨_, _, rfl, rfl, _, rfl, a, _, 2, 2, rfl, rfl, h, rfl, ?_⟩
      have h1 : upd H a (.lst ([V.int b0, V.int b1, V.int b2].set 2 (V.int (b2 + 1)))) a = some (.lst [.int b0, .int b1, .int (b2 + 1)]) := upd_same
      refine o_ix h1 rfl rfl (o_ix h1 rfl rfl ⟨_, _, rfl, rfl, Or.inl ⟨by decide, by decide⟩, _, _, rfl, rfl, _, _, rfl, rfl, _, _, rfl, rfl, cpow1 p2 p3 (by omega) (by omega), _, _, rfl, rfl, (show (0 : Int) < 2147483647 by decide), ?_⟩)
      refine ⟨_, rfl, o_ix h1 rfl rfl ⟨_, _, rfl, rfl, Or.inl ⟨by decide, by decide⟩, _, _, rfl, rfl, _, _, rfl, rfl, cpow2 (by omega) (by omega), _, _, rfl, rfl, (show (0 : Int) < 2147483587 by decide), ?_⟩⟩
      exact ⟨_, rfl, _, _, rfl, rfl, cdiv (by decide) (by decide), _, rfl, _, _, rfl, rfl, p6, k _ _ _ (Int.emod_nonneg _ (by omega)) (Int.emod_lt_of_pos _ p6) p1 (by omega) (by omega)⟩
abbrev s_l_zone : Stmt := top 18
theorem sc_l_zone : FnScope ["_law_bag_here", "_law_most", "_law_found", "_law_moment", "_law_lap", "_law_drawn", "_law_jump", "_law_near"] ["_law_bag_here", "_law_most"] (defScope s_l_zone) := ⟨rfl, rfl, rfl, by decide +kernel, rfl, by decide +kernel, by decide +kernel⟩
theorem cal_l_zone (T : Tx K mg) (most : Int) (hm0 : 0 ≤ most) (hm1 : most ≤ 18) : C8.Cal P w K mg base 2 "_law_zone" (spPlan K most) [] := by
  obtain ⟨fd, F⟩ := T.d_l_zone
  refine ⟨_, fd, ["_law_bag_here", "_law_most"], [], FunD.ok F sc_l_zone (fun vs H Q E h => ?_) (fun cdv A outer s H vs Q E hr h => ?_), T.m_l_zone, F.kp, F.bindsN (fun _ _ _ _ _ _ us hl => match us, hl with | [_, _], _ => rfl), .nil⟩
  · obtain ⟨S, a, bag, xs, N, rfl, _⟩ := h
    rfl
  · obtain ⟨S, a, bag, xs, N, rfl, ok, haS, ha, rb, hbag, hN, k⟩ := h
    refine ⟨_, PSs.nox ((pss_cons (ps_set (i := 2) sc_l_zone.nd rfl (Or.inl rfl) (pe_lst pa_nil))
      (pss_cons (ps_set (i := 3) sc_l_zone.nd rfl (Or.inl rfl) (pe_op op_add (pe_ix ix_list (pe_lst (pa_cons pe_int (pa_cons (pe_un un_neg pe_int) (pa_cons (pe_op op_pow pe_int pe_int) (pa_cons (pe_op op_mul pe_int (C8.pe_c (cal_l_take T) hr (by decide) (by rfl) (pa_cons (pv 0) (pa_cons pe_int pa_nil)))) pa_nil))))) (C8.pe_c (cal_l_take T) hr (by decide) (by rfl) (pa_cons (pv 0) (pa_cons pe_int pa_nil))) (fun _ _ => rfl)) (C8.pe_c (cal_l_take T) hr (by decide) (by rfl) (pa_cons (pv 0) (pa_cons pe_int pa_nil)))))
      (pss_cons (ps_for PassesOwn.never rfl (pi_range1 (by rfl) T.f_range (pa_cons (C8.pe_c (cal_l_take T) hr (by decide) (by rfl) (pa_cons (pv 0) (pa_cons (pe_ix ix_list (pe_lst (pa_cons (pe_op op_add (pv 1) pe_int) (pa_cons (pe_op op_add (pv 1) pe_int) (pa_cons (pe_op op_add (pv 1) pe_int) (pa_cons pe_int pa_nil))))) (C8.pe_c (cal_l_take T) hr (by decide) (by rfl) (pa_cons (pv 0) (pa_cons pe_int pa_nil))) (fun _ _ => rfl)) pa_nil))) pa_nil)) (pg_name (i := 4) sc_l_zone.nd rfl (Or.inl rfl))
        (pss_cons (ps_set (i := 5) sc_l_zone.nd rfl (Or.inl rfl) (pe_op op_add pe_int (C8.pe_c (cal_l_take T) hr (by decide) (by rfl) (pa_cons (pv 0) (pa_cons pe_int pa_nil)))))
      (pss_cons (ps_set (i := 6) sc_l_zone.nd rfl (Or.inl rfl) (pe_ix ix_list (pe_lst (pa_cons pe_int (pa_cons (pe_un un_neg pe_int) (pa_cons pe_int (pa_cons (pe_un un_neg pe_int) (pa_cons pe_int (pa_cons (pe_un un_neg pe_int) (pa_cons pe_int (pa_cons (pe_un un_neg pe_int) (pa_cons (pv 5) (pa_cons (pe_un un_neg (pv 5)) pa_nil))))))))))) (C8.pe_c (cal_l_take T) hr (by decide) (by rfl) (pa_cons (pv 0) (pa_cons pe_int pa_nil))) (fun _ _ => rfl)))
      (pss_cons (ps_if (pt_cmpR (op_neD hr.units) (pv 2) (pe_lst pa_nil) (nomark _)) (pss_cons (ps_set (i := 7) sc_l_zone.nd rfl (Or.inl rfl) (pe_op op_add (pe_op op_add (pe_callB call_abs (by rfl) T.f_abs (by decide +kernel) (pa_cons (pv 6) pa_nil)) (pe_callB call_abs (by rfl) T.f_abs (by decide +kernel) (pa_cons (pe_ix ix_tup (pe_ix ix_list (pv 2) (pe_un un_neg pe_int) (fun _ _ => rfl)) pe_int (fun _ _ => rfl)) pa_nil))) pe_int))
      (pss_one (ps_set (i := 3) sc_l_zone.nd rfl (Or.inl rfl) (pe_op op_add (pe_op op_add (pv 3) (pv 7)) (pe_ix ix_list (pe_lst (pa_cons pe_int (pa_cons pe_int (pa_cons (C8.pe_c (cal_l_take T) hr (by decide) (by rfl) (pa_cons (pv 0) (pa_cons pe_int pa_nil))) (pa_cons pe_int (pa_cons (C8.pe_c (cal_l_take T) hr (by decide) (by rfl) (pa_cons (pv 0) (pa_cons pe_int pa_nil))) pa_nil)))))) (C8.pe_c (cal_l_take T) hr (by decide) (by rfl) (pa_cons (pv 0) (pa_cons pe_int pa_nil))) (fun _ _ => rfl)))))) pss_nil)
      (pss_one (ps_expr (pe_bm PySem.F.plainAttrs_list PySem.F.slot_list_append PySem.F.type_list_append mt_append (pv 2) (pa_cons (pe_tup (pa_cons (pv 3) (pa_cons (pv 6) pa_nil))) pa_nil))))))))
      (pss_one (ps_ret (pe_tup (pa_cons (pe_op op_sub (C8.pe_c (cal_l_take T) hr (by decide) (by rfl) (pa_cons (pv 0) (pa_cons pe_int pa_nil))) pe_int) (pa_cons (pv 2) pa_nil))))))))), ?_⟩
    have st : Sta K (Hx H (a :: S)) H S [(a, bag)] [.at a, .d (.int most), .no, .no, .no, .no, .no, .no] [] (L2.start ["_law_bag_here", "_law_most", "_law_found", "_law_moment", "_law_lap", "_law_drawn", "_law_jump", "_law_near"] [.ref a, .int most]) H :=
      ⟨Ex.refl _, fun _ _ => rfl, ok, by simp, fun p hp => by simp at hp; subst hp; exact haS, fun p hp => by simp at hp; subst hp; exact ⟨xs, ha, rb⟩, .cons rfl (.cons ⟨_, rfl, .int _⟩ (.cons trivial (.cons trivial (.cons trivial (.cons trivial (.cons trivial (.cons trivial .nil))))))), fun p hp => by simp at hp⟩
    -- found = []
    refine q_asgF st (ef_lst ea_nil (by simp)) fun l σ1 H1 st => ?_
    -- moment
    refine ⟨_, rfl, _, _, rfl, rfl, ⟨by decide, by decide, by decide⟩, ?_⟩
    refine w_take (n := 0) (k := 1) st rfl rfl hbag (by omega) (by decide) (by decide) fun r1 bag H2 h1 h1' hbag st => ⟨_, _, rfl, rfl, Or.inl ⟨by decide, by decide⟩, ?_⟩
    obtain ⟨hz, st⟩ := w_newI st [0, -5000, 10 ^ (12 : Int).toNat, 1440 * r1] (by simp)
    refine ⟨hz, fun p hp => ?_⟩
    have st := st p hp
    refine w_take (n := 0) (k := 1) st rfl rfl hbag (by omega) (by decide) (by decide) fun r2 bag H4 h2 h2' hbag st => ?_
    refine w_at st h2 h2' fun mo hmo => ?_
    refine w_take (n := 0) (k := 1) st.tl rfl rfl hbag (by omega) (by decide) (by decide) fun r3 bag H5 h3 h3' hbag st => ⟨_, _, rfl, rfl, ?_⟩
    have st := st.set 3 (d := .int (mo + r3)) (.int _)
    have hmo1 : -5000 ≤ mo + r3 ∧ mo + r3 ≤ 1000000001500 := by
      simp only [List.mem_cons, List.not_mem_nil, or_false] at hmo
      rcases hmo with rfl | rfl | rfl | rfl
      · omega
      · omega
      · have : (10 : Int) ^ (12 : Int).toNat = 1000000000000 := by decide
        omega
      · omega
    -- the range
    refine w_takeE (n := 0) st rfl ?_
    refine ⟨_, st.sl.slotI (n := 1) rfl, _, _, rfl, rfl, _, st.sl.slotI (n := 1) rfl, _, _, rfl, rfl, _, st.sl.slotI (n := 1) rfl, _, _, rfl, rfl, ?_⟩
    obtain ⟨hz, st⟩ := w_newI st [most + 1, most + 1, most + 1, 20] (by simp)
    refine ⟨hz, fun p hp => ?_⟩
    have st := st p hp
    refine w_take (n := 0) (k := 1) st rfl rfl hbag (by omega) (by decide) (by decide) fun r4 bag H7 h4 h4' hbag st => ?_
    refine w_at st h4 h4' fun many hmany => ?_
    have hmany2 : 0 < many ∧ many ≤ 20 := by
      simp only [List.mem_cons, List.not_mem_nil, or_false] at hmany
      omega
    refine take_sp (k := 1) (many := many) st.tl rfl hbag (by omega) (by omega) (by omega) fun cnt bag H8 h5 h5' hbag st => ?_
    have hcnt : cnt.toNat ≤ 19 := by omega
    refine (s_for (ε := List D × Steps × Int) (wi := iRng1 (tCons (tC (.int cnt)) tNil)) st (ei_range (ea_cons ev_int ea_nil) (by omega) (by omega)) (fun i e => BagOk (N + 10 + 5 * i) e.1 ∧ okS e.2.1 ∧ e.2.1.length = i ∧ i ≤ 19 ∧ (-5000 ≤ e.2.2 ∧ e.2.2 ≤ 1000000001500 + 500000 * i) ∧ (∀ p ∈ e.2.1, -5000 ≤ p.1 ∧ p.1 ≤ 2000000000000) ∧ (∀ q, e.2.1.getLast? = some q → q.1 = e.2.2))
      (fun e => [(l, e.2.1.map pairD), (a, e.1)]) (fun e => [.at a, .d (.int most), .at l, .d (.int e.2.2), .no, .no, .no, .no]) (bag, [], mo + r3)
      ⟨hbag.mono (by omega), trivial, rfl, by omega, ⟨hmo1.1, by simpa using hmo1.2⟩, fun p hp => by simp at hp, fun q hq => by simp at hq⟩ rfl (fits.rfl' _) (fun _ => rfl) (fun i d e hd he B' v σ' H' hB st => ?_) (fun e he σ' H' st => ?_))
    · obtain ⟨hi, rfl⟩ := rangeD_get hd
      obtain ⟨bag, s, mo⟩ := e
      obtain ⟨hbag, hok, hlen, hi2, ⟨hmo1, hmo2⟩, hmom, hlast⟩ := he
      simp only at hbag hok hlen hi2 hmo1 hmo2 hmom hlast
      have st := st.setT 4
      -- drawn
      refine w_take (n := 0) (k := 1) st rfl rfl hbag (by omega) (by decide) (by decide) fun r1 bag H2 g1 g1' hbag st => ⟨_, _, rfl, rfl, ?_⟩
      have st := st.set 5 (d := .int (1 + r1)) (.int _)
      -- jump
      refine ⟨_, rfl, _, rfl, _, rfl, _, rfl, _, st.sl.slotI (n := 5) rfl, _, st.sl.slotI (n := 5) rfl, _, rfl, ?_⟩
      obtain ⟨hz, st⟩ := w_newI st [60, -60, 30, -30, 1, -1, 720, -720, 1 + r1, -(1 + r1)] (by simp)
      refine ⟨hz, fun p hp => ?_⟩
      have st := st p hp
      refine w_take (n := 0) (k := 1) st rfl rfl hbag (by omega) (by decide) (by decide) fun r2 bag H4 g2 g2' hbag st => ?_
      refine w_at st g2 g2' fun j hj => ?_
      have hj : jok j := by
        unfold jok
        simp only [List.mem_cons, List.not_mem_nil, or_false] at hj
        omega
      have st := st.tl.set 6 (d := .int j) (.int _)
      obtain ⟨hj0, hj1, hj2⟩ := hj
      have vw := st.view (n := 2) (k := 0) rfl rfl
      refine q_ifV st (EvT.to (et_test (ev_neD 2 1 (ev_sl vw rfl) (EvF.ev (ef_lst ea_nil (by simp))) (good_pairs s) good_nil)) (ne_nil pairD s)) (fun hb H5 st => ?_) (fun hb H5 st => ?_)
      · have hne : s ≠ [] := fun e => by rw [e] at hb; simp at hb
        obtain ⟨⟨m1, j1⟩, hl⟩ : ∃ q, s.getLast? = some q := ⟨_, List.getLast?_eq_some_getLast hne⟩
        have em : m1 = mo := hlast _ hl
        subst em
        have hj1' : jok j1 := okS_last_jok hok hl
        obtain ⟨i0, i1, i2⟩ := hj1'
        have vw := st.view (n := 2) (k := 0) rfl rfl
        refine q_asgV st (ev_add (ev_add (ev_cb (ea_cons (ev_sl (n := 6) vw rfl) ea_nil) rc_abs) (ev_cb (ea_cons (ev_ixT (ev_ixL (ev_sl (n := 2) vw rfl) (ev_neg ev_int) (atI_last hl)) ev_int rfl) ea_nil) rc_abs)) ev_int) fun σ6 H6 st => ?_
        refine ⟨_, st.sl.slotI (n := 3) rfl, _, st.sl.slotI (n := 7) rfl, _, _, rfl, rfl, ?_⟩
        refine w_take (n := 0) (k := 1) st rfl rfl hbag (by omega) (by decide) (by decide) fun r3 bag H7 g3 g3' hbag st => ?_
        refine w_take (n := 0) (k := 1) st rfl rfl hbag (by omega) (by decide) (by decide) fun r4 bag H8 g4 g4' hbag st => ?_
        obtain ⟨hz, st⟩ := w_newI st [0, 1, r3, 1440, r4] (by simp)
        refine ⟨hz, fun p hp => ?_⟩
        have st := st p hp
        refine w_take (n := 0) (k := 1) st rfl rfl hbag (by omega) (by decide) (by decide) fun r5 bag H10 g5 g5' hbag st => ?_
        refine w_at st g5 g5' fun z hz => ⟨_, _, rfl, rfl, ?_⟩
        have hz2 : 0 ≤ z ∧ z ≤ 400000 := by
          simp only [List.mem_cons, List.not_mem_nil, or_false] at hz
          omega
        have st := st.tl.set 3 (d := .int (m1 + ((j.natAbs : Int) + (j1.natAbs : Int) + 1) + z)) (.int _)
        refine plan_app (s := s) st rfl rfl rfl (by omega) fun H11 st => ⟨(bag, s ++ [(m1 + ((j.natAbs : Int) + (j1.natAbs : Int) + 1) + z, j)], m1 + ((j.natAbs : Int) + (j1.natAbs : Int) + 1) + z), ⟨hbag.mono (by omega), okS_snoc hok ⟨hj0, hj1, hj2⟩ (fun a b e => ?_), ?_, by omega, ⟨?_, ?_⟩, fun p hp => ?_, fun q hq => ?_⟩, st.weak ⟨Or.inl rfl, Or.inl rfl, Or.inl rfl, Or.inl rfl, Or.inr rfl, Or.inr rfl, Or.inr rfl, Or.inr rfl, trivial⟩⟩
        · rw [hl] at e; cases e; show m1 + ((j.natAbs : Int) + (j1.natAbs : Int) + 1) + z - m1 > _; omega
        · show (s ++ [_]).length = i + 1; rw [List.length_append, hlen]; rfl
        · show -5000 ≤ m1 + ((j.natAbs : Int) + (j1.natAbs : Int) + 1) + z; omega
        · show m1 + ((j.natAbs : Int) + (j1.natAbs : Int) + 1) + z ≤ _; push_cast; omega
        · rcases List.mem_append.mp hp with h | h
          · exact hmom p h
          · simp at h; subst h; show -5000 ≤ m1 + ((j.natAbs : Int) + (j1.natAbs : Int) + 1) + z ∧ m1 + ((j.natAbs : Int) + (j1.natAbs : Int) + 1) + z ≤ _; omega
        · have hq : (s ++ [(m1 + ((j.natAbs : Int) + (j1.natAbs : Int) + 1) + z, j)]).getLast? = some q := hq
          rw [List.getLast?_concat] at hq
          cases hq
          rfl
      · have hs : s = [] := by cases s with | nil => rfl | cons p r => simp at hb
        subst hs
        refine plan_app (s := []) st rfl rfl rfl (by decide) fun H11 st => ⟨(bag, [(mo, j)], mo), ⟨hbag.mono (by omega), ⟨hj0, hj1, hj2⟩, by simp at hlen; subst hlen; rfl, by omega, ⟨hmo1, by show mo ≤ _; push_cast; omega⟩, fun p hp => ?_, fun q hq => ?_⟩, st.weak ⟨Or.inl rfl, Or.inl rfl, Or.inl rfl, Or.inl rfl, Or.inr rfl, Or.inr rfl, Or.inr rfl, Or.inl rfl, trivial⟩⟩
        · simp at hp; subst hp; show -5000 ≤ mo ∧ mo ≤ _; omega
        · have hq : some (mo, j) = some q := hq
          cases hq
          rfl
    · obtain ⟨bag, s, mo⟩ := e
      obtain ⟨hbag, hok, hlen, hi2, ⟨hmo1, hmo2⟩, hmom, hlast⟩ := he
      simp only at hbag hok hlen hi2 hmo1 hmo2 hmom hlast
      refine w_take (n := 0) (k := 1) st rfl rfl hbag (by omega) (by decide) (by decide) fun r bag H2 g1 g1' hbag st => ⟨_, _, rfl, rfl, _, st.slot (n := 2) rfl, sz_of (by simp), fun p hp => ?_⟩
      have st2 := (st.free (fits.rfl' _) (fun p hp => hp)).step (Evl.Ex.new (o := .tup [.int (r - 850), .ref l]) hp)
      obtain ⟨xs', h1, h2⟩ := st2.own (a, bag) (by simp)
      have hpn : p ∉ a :: S := fun m => st.ok.no hp (List.mem_cons_of_mem _ m)
      refine k (.ref p) (r - 850) s bag xs' _ ⟨by omega, by omega, hok, by omega, hmom⟩ (hbag.mono (by omega)) (fun b u hb nb => ?_) h1 h2 (.tup (Or.inl (Or.inl (Hx.of upd_same hpn))) (.cons (.int _) (.cons st2.top .nil)))
      by_cases mb : b ∈ S
      · rw [st2.frm b mb]; exact hb
      · exact (Hx.inv (st2.ext b u (Hx.of hb (by simp only [List.mem_cons, not_or]; exact ⟨nb, mb⟩)))).1
end
end K4


set_option Elab.async false
set_option linter.all false
set_option maxRecDepth 100000
set_option maxHeartbeats 4000000
namespace K4
open PySem L2 Z Zn
open Evl (Ex ex_l ex_t sz_of sz_lt fresh_back)

def R_lchg : List D → List D → Prop := fun ds zs => ∃ (f : Int) (s : Steps), ds = [planD f s] ∧ s.length ≤ 1000 ∧ zs = (offs f s).map pairD
def R_made (C : Addr) : List D → D → Prop := fun ds z => ∃ (f : Int) (s : Steps), ds = [planD f s] ∧ s.length ≤ 1000 ∧ okS s ∧ z = zoneD C f s
def R_lspans : List D → List D → Prop := fun ds zs => ∃ (f : Int) (s : Steps) (g : Int), ds = [planD f s, .int g] ∧ s.length ≤ 1000 ∧ -1 ≤ g ∧ g ≤ 1 ∧ zs = (spansIf (fun j => decide (0 < j * g)) f s).map pairD
def R_others : List D → List D → Prop := fun ds zs => ∃ (f : Int) (s : Steps), ds = [planD f s] ∧ s.length ≤ 1000 ∧ zs = (othersP f s).map (fun q => planD q.1 q.2)
theorem step_at {s : Steps} {i : Nat} {d : D} (h : (s.map pairD)[i]? = some d) : ∃ m j, s[i]? = some (m, j) ∧ d = .tup [.int m, .int j] := by
  rw [List.getElem?_map] at h
  cases q : s[i]? with
  | none => rw [q] at h; cases h
  | some p =>
    rw [q] at h
    exact ⟨p.1, p.2, rfl, (Option.some.inj h).symm⟩
theorem sum_take {s : Steps} {i : Nat} {m j : Int} (h : s[i]? = some (m, j)) : ((s.take (i + 1)).map (·.2)).sum = ((s.take i).map (·.2)).sum + j := by
  rw [take_one h, List.map_append, List.sum_append]
  simp
section
variable {P : Program} {w : World} {K : PySem.W.Frag} {mg : Str → Option Value} {base : Heap}
abbrev s_l_changes : Stmt := top 19
theorem sc_l_changes : FnScope ["_law_plan", "_law_found", "_law_offset", "_law_moment", "_law_jump"] ["_law_plan"] (defScope s_l_changes) := ⟨rfl, rfl, rfl, by decide +kernel, rfl, by decide +kernel, by decide +kernel⟩
theorem cal_l_changes (T : Tx K mg) : C8.Cal P w K mg base 1 "_law_changes" (spF K R_lchg) [] := by
  obtain ⟨fd, F⟩ := T.d_l_changes
  refine ⟨_, fd, ["_law_plan"], [], FunD.ok F sc_l_changes (fun vs H Q E h => ?_) (fun cdv A outer s H vs Q E hr h => ?_), T.m_l_changes, F.kp, F.bindsN (fun _ _ _ _ _ _ us hl => match us, hl with | [_], _ => rfl), .nil⟩
  · obtain ⟨S, ds, d, _, ra, hR, _⟩ := h
    obtain ⟨f, s, rfl, hlen, rfl⟩ := hR
    exact ra.len
  · obtain ⟨S, ds, d, ok, ra, hR, k⟩ := h
    obtain ⟨f, s, rfl, hlen, rfl⟩ := hR
    have st : Sta K (Hx H S) H S [] [.d (planD f s), .no, .no, .no, .no] [] (L2.start ["_law_plan", "_law_found", "_law_offset", "_law_moment", "_law_jump"] vs) H := Sta.init ok ra rfl
    refine ⟨_, PSs.nox ((pss_cons (ps_par (i := 1) (j := 2) (by rfl) sc_l_changes.nd rfl rfl (by decide) rfl rfl (pa_cons (pe_lst pa_nil) (pa_cons (pe_ix ix_tup (pv 0) pe_int (fun _ _ => rfl)) pa_nil)) (by rfl))
      (pss_cons (ps_for PassesOwn.never rfl (pi_list (pe_ix ix_tup (pv 0) pe_int (fun _ _ => rfl))) (pg_tup rfl (pgs_cons (pg_name (i := 3) sc_l_changes.nd rfl (Or.inl rfl)) (pgs_cons (pg_name (i := 4) sc_l_changes.nd rfl (Or.inl rfl)) pgs_nil)))
        (pss_cons (ps_set (i := 2) sc_l_changes.nd rfl (Or.inl rfl) (pe_op op_add (pv 2) (pv 4)))
      (pss_one (ps_expr (pe_bm PySem.F.plainAttrs_list PySem.F.slot_list_append PySem.F.type_list_append mt_append (pv 1) (pa_cons (pe_tup (pa_cons (pv 3) (pa_cons (pv 2) pa_nil))) pa_nil))))))
      (pss_one (ps_ret (pv 1)))))), ?_⟩
    refine q_parF st (ef_lst ea_nil (by simp)) (fun _ => (ev_ixT (ev_sl st.sl rfl) ev_int rfl)) fun l σ1 H1 st => ?_
    refine q_for (ε := Nat) st (ei_list (ev_ixT (ev_sl st.sl rfl) ev_int rfl)) (fun i e => e = i ∧ i ≤ s.length) (fun e => [(l, (offs f (s.take e)).map pairD)]) (fun e => [.d (planD f s), .at l, .d (.int (f + ((s.take e).map (·.2)).sum)), .no, .no]) 0 ⟨rfl, Nat.zero_le _⟩ rfl ⟨Or.inl rfl, Or.inl rfl, Or.inl (by simp), Or.inl rfl, Or.inl rfl, trivial⟩ (fun _ => rfl) (fun i d e hd he B' v σ' H' hB st => ?_) (fun e he σ' H' st => ?_)
    · obtain ⟨rfl, hi⟩ := he
      obtain ⟨m, j, hs, rfl⟩ := step_at hd
      have hi' : e < s.length := (List.getElem?_eq_some_iff.1 hs).1
      refine g_two st fun σ2 st => ?_
      refine q_asg st (ev_add (ev_sl st.sl rfl) (ev_sl st.sl rfl)) fun σ3 H3 st => ?_
      refine s_app (n := 1) (k := 0) st rfl rfl (ev_tup (ea_cons (ev_sl st.sl rfl) (ea_cons (ev_sl st.sl rfl) ea_nil)) (by simp)) (by rw [List.length_map, offs_len, List.length_take]; omega) fun H4 st => ?_
      refine ⟨e + 1, ⟨rfl, hi'⟩, ?_⟩
      show Sta K B' H S [(l, (offs f (s.take (e + 1))).map pairD)] [.d (planD f s), .at l, .d (.int (f + ((s.take (e + 1)).map (·.2)).sum)), .no, .no] [] σ3 H4
      rw [sum_take hs, ← Int.add_assoc, take_one hs, offs_append, List.map_append]
      exact st.weak ⟨Or.inl rfl, Or.inl rfl, Or.inl rfl, Or.inr rfl, Or.inr rfl, trivial⟩
    · obtain ⟨rfl, _⟩ := he
      refine r_retAt st rfl ?_ k
      rw [List.length_map, List.take_length]
abbrev s_l_made : Stmt := top 20
theorem sc_l_made : FnScope ["_law_plan"] ["_law_plan"] (defScope s_l_made) := ⟨rfl, rfl, rfl, by decide +kernel, rfl, by decide +kernel, by decide +kernel⟩
theorem cal_l_made (T : Tx K mg) : C8.Cal P w K mg base 5 "_law_made" (spR K (R_made (He.ga K "Zone"))) [] := by
  obtain ⟨fd, F⟩ := T.d_l_made
  refine ⟨_, fd, ["_law_plan"], [], FunD.ok F sc_l_made (fun vs H Q E h => ?_) (fun cdv A outer s H vs Q E hr h => ?_), T.m_l_made, F.kp, F.bindsN (fun _ _ _ _ _ _ us hl => match us, hl with | [_], _ => rfl), .nil⟩
  · obtain ⟨S, ds, d, _, ra, hR, _⟩ := h
    obtain ⟨f, s, rfl, hlen, hok, rfl⟩ := hR
    exact ra.len
  · obtain ⟨S, ds, d, ok, ra, hR, k⟩ := h
    obtain ⟨f, s, rfl, hlen, hok, rfl⟩ := hR
    have st : Sta K (Hx H S) H S [] [.d (planD f s)] [] (L2.start ["_law_plan"] vs) H := Sta.init ok ra rfl
    refine ⟨_, PSs.nox ((pss_one (ps_ret (C8.pe_mk (mak_Zone2 T) hr (by decide) (by rfl) (pa_cons (pe_ix ix_tup (pv 0) pe_int (fun _ _ => rfl)) (pa_cons (C8.pe_c (cal_l_changes T) hr (by decide) (by rfl) (pa_cons (pv 0) pa_nil)) pa_nil)))))), ?_⟩
    exact r_ret st (ev_make (R := R_zone) (gs := zoneF f s) (ea_cons (ev_ixT (ev_sl st.sl rfl) ev_int rfl) (ea_cons (EvF.ev (ef_call (RF := R_lchg) (ea_cons (ev_sl st.sl rfl) ea_nil) ⟨_, _, rfl, hlen, rfl⟩)) ea_nil)) (fun _ => .nil) ⟨f, s, pairD, Or.inl rfl, Or.inl rfl, hok, hlen, rfl⟩) rfl k
abbrev s_l_spans : Stmt := top 21
theorem sc_l_spans : FnScope ["_law_plan", "_law_sign", "_law_found", "_law_offset", "_law_moment", "_law_jump"] ["_law_plan", "_law_sign"] (defScope s_l_spans) := ⟨rfl, rfl, rfl, by decide +kernel, rfl, by decide +kernel, by decide +kernel⟩
theorem cal_l_spans (T : Tx K mg) : C8.Cal P w K mg base 1 "_law_spans" (spF K R_lspans) [] := by
  obtain ⟨fd, F⟩ := T.d_l_spans
  refine ⟨_, fd, ["_law_plan", "_law_sign"], [], FunD.ok F sc_l_spans (fun vs H Q E h => ?_) (fun cdv A outer s H vs Q E hr h => ?_), T.m_l_spans, F.kp, F.bindsN (fun _ _ _ _ _ _ us hl => match us, hl with | [_, _], _ => rfl), .nil⟩
  · obtain ⟨S, ds, d, _, ra, hR, _⟩ := h
    obtain ⟨f, s, g, rfl, hlen, hg1, hg2, rfl⟩ := hR
    exact ra.len
  · obtain ⟨S, ds, d, ok, ra, hR, k⟩ := h
    obtain ⟨f, s, g, rfl, hlen, hg1, hg2, rfl⟩ := hR
    have st : Sta K (Hx H S) H S [] [.d (planD f s), .d (.int g), .no, .no, .no, .no] [] (L2.start ["_law_plan", "_law_sign", "_law_found", "_law_offset", "_law_moment", "_law_jump"] vs) H := Sta.init ok ra rfl
    refine ⟨_, PSs.nox ((pss_cons (ps_par (i := 2) (j := 3) (by rfl) sc_l_spans.nd rfl rfl (by decide) rfl rfl (pa_cons (pe_lst pa_nil) (pa_cons (pe_ix ix_tup (pv 0) pe_int (fun _ _ => rfl)) pa_nil)) (by rfl))
      (pss_cons (ps_for PassesOwn.never rfl (pi_list (pe_ix ix_tup (pv 0) pe_int (fun _ _ => rfl))) (pg_tup rfl (pgs_cons (pg_name (i := 4) sc_l_spans.nd rfl (Or.inl rfl)) (pgs_cons (pg_name (i := 5) sc_l_spans.nd rfl (Or.inl rfl)) pgs_nil)))
        (pss_cons (ps_if (pt_cmpR op_gt (pe_op op_mul (pv 5) (pv 1)) pe_int (nomark _)) (pss_one (ps_expr (pe_bm PySem.F.plainAttrs_list PySem.F.slot_list_append PySem.F.type_list_append mt_append (pv 2) (pa_cons (pe_tup (pa_cons (pe_op op_add (pv 4) (pe_callB (call_min2 rfl) (by rfl) T.f_min (by decide +kernel) (pa_cons (pv 3) (pa_cons (pe_op op_add (pv 3) (pv 5)) pa_nil)))) (pa_cons (pe_op op_add (pv 4) (pe_callB (call_max2 rfl) (by rfl) T.f_max (by decide +kernel) (pa_cons (pv 3) (pa_cons (pe_op op_add (pv 3) (pv 5)) pa_nil)))) pa_nil))) pa_nil)))) pss_nil)
      (pss_one (ps_set (i := 3) sc_l_spans.nd rfl (Or.inl rfl) (pe_op op_add (pv 3) (pv 5))))))
      (pss_one (ps_ret (pv 2)))))), ?_⟩
    refine q_parF st (ef_lst ea_nil (by simp)) (fun _ => (ev_ixT (ev_sl st.sl rfl) ev_int rfl)) fun l σ1 H1 st => ?_
    refine q_for (ε := Nat) st (ei_list (ev_ixT (ev_sl st.sl rfl) ev_int rfl)) (fun i e => e = i ∧ i ≤ s.length) (fun e => [(l, (spansIf (fun j => decide (0 < j * g)) f (s.take e)).map pairD)]) (fun e => [.d (planD f s), .d (.int g), .at l, .d (.int (f + ((s.take e).map (·.2)).sum)), .no, .no]) 0 ⟨rfl, Nat.zero_le _⟩ rfl ⟨Or.inl rfl, Or.inl rfl, Or.inl rfl, Or.inl (by simp), Or.inl rfl, Or.inl rfl, trivial⟩ (fun _ => rfl) (fun i d e hd he B' v σ' H' hB st => ?_) (fun e he σ' H' st => ?_)
    · obtain ⟨rfl, hi⟩ := he
      obtain ⟨m, j, hs, rfl⟩ := step_at hd
      have hi' : e < s.length := (List.getElem?_eq_some_iff.1 hs).1
      have hl : ((spansIf (fun j => decide (0 < j * g)) f (s.take e)).map pairD).length < 100000 := by
        rw [List.length_map]
        have h1 := spansIf_len (fun j => decide (0 < j * g)) f (s.take e)
        rw [List.length_take] at h1
        omega
      refine g_two st fun σ2 st => ?_
      refine q_if st (et_test (ev_gt (ev_mul (ev_sl st.sl rfl) (ev_sl st.sl rfl) (Or.inr ⟨by omega, by omega⟩)) ev_int)) (fun hb H3 st => ?_) (fun hb H3 st => ?_)
      · refine s_app (n := 2) (k := 0) st rfl rfl (ev_tup (ea_cons (ev_add (ev_sl st.sl rfl) (ev_cb (ea_cons (ev_sl st.sl rfl) (ea_cons (ev_add (ev_sl st.sl rfl) (ev_sl st.sl rfl)) ea_nil)) rc_min)) (ea_cons (ev_add (ev_sl st.sl rfl) (ev_cb (ea_cons (ev_sl st.sl rfl) (ea_cons (ev_add (ev_sl st.sl rfl) (ev_sl st.sl rfl)) ea_nil)) rc_max)) ea_nil)) (by simp)) hl fun H4 st => ?_
        refine s_asg st (ev_add (ev_sl st.sl rfl) (ev_sl st.sl rfl)) fun σ5 H5 st => ?_
        refine ⟨e + 1, ⟨rfl, hi'⟩, ?_⟩
        show Sta K B' H S [(l, (spansIf (fun j => decide (0 < j * g)) f (s.take (e + 1))).map pairD)] [.d (planD f s), .d (.int g), .at l, .d (.int (f + ((s.take (e + 1)).map (·.2)).sum)), .no, .no] [] σ5 H5
        rw [sum_take hs, ← Int.add_assoc, take_one hs, spansIf_snoc, if_pos hb, List.map_append]
        exact st.weak ⟨Or.inl rfl, Or.inl rfl, Or.inl rfl, Or.inl rfl, Or.inr rfl, Or.inr rfl, trivial⟩
      · refine s_asg st (ev_add (ev_sl st.sl rfl) (ev_sl st.sl rfl)) fun σ5 H5 st => ?_
        refine ⟨e + 1, ⟨rfl, hi'⟩, ?_⟩
        show Sta K B' H S [(l, (spansIf (fun j => decide (0 < j * g)) f (s.take (e + 1))).map pairD)] [.d (planD f s), .d (.int g), .at l, .d (.int (f + ((s.take (e + 1)).map (·.2)).sum)), .no, .no] [] σ5 H5
        rw [sum_take hs, ← Int.add_assoc, take_one hs, spansIf_snoc, if_neg (by rw [hb]; decide), List.append_nil]
        exact st.weak ⟨Or.inl rfl, Or.inl rfl, Or.inl rfl, Or.inl rfl, Or.inr rfl, Or.inr rfl, trivial⟩
    · obtain ⟨rfl, _⟩ := he
      refine r_retAt st rfl ?_ k
      rw [List.length_map, List.take_length]
abbrev s_l_others : Stmt := top 22
theorem sc_l_others : FnScope ["_law_plan", "_law_first", "_law_steps", "_law_found", "_law_far"] ["_law_plan"] (defScope s_l_others) := ⟨rfl, rfl, rfl, by decide +kernel, rfl, by decide +kernel, by decide +kernel⟩
theorem cal_l_others (T : Tx K mg) : C8.Cal P w K mg base 1 "_law_others" (spF K R_others) [] := by
  obtain ⟨fd, F⟩ := T.d_l_others
  refine ⟨_, fd, ["_law_plan"], [], FunD.ok F sc_l_others (fun vs H Q E h => ?_) (fun cdv A outer s H vs Q E hr h => ?_), T.m_l_others, F.kp, F.bindsN (fun _ _ _ _ _ _ us hl => match us, hl with | [_], _ => rfl), .nil⟩
  · obtain ⟨S, ds, d, _, ra, hR, _⟩ := h
    obtain ⟨f, s, rfl, hlen, rfl⟩ := hR
    exact ra.len
  · obtain ⟨S, ds, d, ok, ra, hR, k⟩ := h
    obtain ⟨f, s, rfl, hlen, rfl⟩ := hR
    have st : Sta K (Hx H S) H S [] [.d (planD f s), .no, .no, .no, .no] [] (L2.start ["_law_plan", "_law_first", "_law_steps", "_law_found", "_law_far"] vs) H := Sta.init ok ra rfl
    refine ⟨_, PSs.nox ((pss_cons (ps_asg (pv 0) (pg_tup rfl (pgs_cons (pg_name (i := 1) sc_l_others.nd rfl (Or.inl rfl)) (pgs_cons (pg_name (i := 2) sc_l_others.nd rfl (Or.inl rfl)) pgs_nil))))
      (pss_cons (ps_set (i := 3) sc_l_others.nd rfl (Or.inl rfl) (pe_lst (pa_cons (pe_tup (pa_cons (pe_op op_add (pv 1) pe_int) (pa_cons (pv 2) pa_nil))) pa_nil)))
      (pss_cons (ps_if (pt_cmpR (op_neD hr.units) (pv 2) (pe_lst pa_nil) (nomark _)) (pss_cons (ps_expr (pe_bm PySem.F.plainAttrs_list PySem.F.slot_list_extend PySem.F.type_list_extend mt_extend (pv 3) (pa_cons (pe_lst (pa_cons (pe_tup (pa_cons (pv 1) (pa_cons (pe_slice sl_list (pv 2) po_none (po_some (pe_un un_neg pe_int))) pa_nil))) (pa_cons (pe_tup (pa_cons (pv 1) (pa_cons (pe_op op_cat (pe_lst (pa_cons (pe_tup (pa_cons (pe_op op_sub (pe_ix ix_tup (pe_ix ix_list (pv 2) pe_int (fun _ _ => rfl)) pe_int (fun _ _ => rfl)) pe_int) (pa_cons (pe_ix ix_tup (pe_ix ix_list (pv 2) pe_int (fun _ _ => rfl)) pe_int (fun _ _ => rfl)) pa_nil))) pa_nil)) (pe_slice sl_list (pv 2) (po_some pe_int) po_none)) pa_nil))) pa_nil))) pa_nil)))
      (pss_cons (ps_expr (pe_bm PySem.F.plainAttrs_list PySem.F.slot_list_append PySem.F.type_list_append mt_append (pv 3) (pa_cons (pe_tup (pa_cons (pv 1) (pa_cons (pe_op op_cat (pe_slice sl_list (pv 2) po_none (po_some (pe_un un_neg pe_int))) (pe_lst (pa_cons (pe_tup (pa_cons (pe_ix ix_tup (pe_ix ix_list (pv 2) (pe_un un_neg pe_int) (fun _ _ => rfl)) pe_int (fun _ _ => rfl)) (pa_cons (pe_ix ix_list (pe_lst (pa_cons pe_int (pa_cons (pe_un un_neg pe_int) pa_nil))) (pe_callTy call_int1 (by rfl) T.f_int (by decide +kernel) (pa_cons (pe_cmpR op_eq (pe_ix ix_tup (pe_ix ix_list (pv 2) (pe_un un_neg pe_int) (fun _ _ => rfl)) pe_int (fun _ _ => rfl)) pe_int (nomark _)) pa_nil)) (fun _ _ => rfl)) pa_nil))) pa_nil))) pa_nil))) pa_nil)))
      (pss_cons (ps_if (pt_cmpR op_eq (pe_ix ix_tup (pe_ix ix_list (pv 2) (pe_un un_neg pe_int) (fun _ _ => rfl)) pe_int (fun _ _ => rfl)) (pe_un un_neg pe_int) (nomark _)) (pss_one (ps_asg (pe_tup (pa_cons (pv 1) (pa_cons (pe_op op_cat (pe_slice sl_list (pv 2) po_none (po_some (pe_un un_neg pe_int))) (pe_lst (pa_cons (pe_tup (pa_cons (pe_ix ix_tup (pe_ix ix_list (pv 2) (pe_un un_neg pe_int) (fun _ _ => rfl)) pe_int (fun _ _ => rfl)) (pa_cons pe_int pa_nil))) pa_nil))) pa_nil))) (pg_sub (pv 3) (pe_un un_neg pe_int) set_list))) pss_nil)
      (pss_cons (ps_set (i := 4) sc_l_others.nd rfl (Or.inl rfl) (pe_tup (pa_cons (pe_op op_add (pe_ix ix_tup (pe_ix ix_list (pv 2) (pe_un un_neg pe_int) (fun _ _ => rfl)) pe_int (fun _ _ => rfl)) pe_int) (pa_cons pe_int pa_nil))))
      (pss_one (ps_expr (pe_bm PySem.F.plainAttrs_list PySem.F.slot_list_append PySem.F.type_list_append mt_append (pv 3) (pa_cons (pe_tup (pa_cons (pv 1) (pa_cons (pe_op op_cat (pv 2) (pe_lst (pa_cons (pv 4) pa_nil))) pa_nil))) pa_nil)))))))) pss_nil)
      (pss_one (ps_ret (pv 3))))))), ?_⟩
    refine q_unp st (ev_sl st.sl rfl) fun σ1 H1 st => ?_
    refine q_asgF st (ef_lst (ea_cons (ev_tup (ea_cons (ev_add (ev_sl (n := 1) st.sl rfl) ev_int) (ea_cons (ev_sl (n := 2) st.sl rfl) ea_nil)) (by simp)) ea_nil) (by simp)) fun l σ2 H2 st => ?_
    cases s with
    | nil =>
      refine q_if (b := false) st (EvT.to (et_test (ev_neD 2 1 (ev_sl (n := 2) st.sl rfl) (EvF.ev (ef_lst ea_nil (by simp))) (good_pairs _) good_nil)) (ne_nil pairD [])) (fun hb => by cases hb) (fun _ H3 st => ?_)
      exact r_retAt st rfl rfl k
    | cons p r =>
      obtain ⟨m0, j0⟩ := p
      obtain ⟨⟨ml, jl⟩, hl⟩ : ∃ q, ((m0, j0) :: r).getLast? = some q := ⟨_, List.getLast?_eq_some_getLast (by simp)⟩
      refine q_if (b := true) st (EvT.to (et_test (ev_neD 2 1 (ev_sl (n := 2) st.sl rfl) (EvF.ev (ef_lst ea_nil (by simp))) (good_pairs _) good_nil)) (ne_nil pairD ((m0, j0) :: r))) (fun _ H3 st => ?_) (fun hb => by cases hb)
      refine q_ext (n := 3) (k := 0) st rfl rfl (ef_lst (ea_cons (ev_tup (ea_cons (ev_sl (n := 1) st.sl rfl) (ea_cons (EvF.ev (ef_sl (ev_sl (n := 2) st.sl rfl) eo_none (eo_some (K := K) (ev_neg ev_int)))) ea_nil)) (by simp)) (ea_cons (ev_tup (ea_cons (ev_sl (n := 1) st.sl rfl) (ea_cons (EvF.ev (ef_cat (EvF.ev (ef_lst (ea_cons (ev_tup (ea_cons (ev_sub (ev_ixT (ev_ixL (d := .tup [.int m0, .int j0]) (ev_sl (n := 2) st.sl rfl) ev_int (atI_zero _ _)) ev_int rfl) ev_int) (ea_cons (ev_ixT (ev_ixL (d := .tup [.int m0, .int j0]) (ev_sl (n := 2) st.sl rfl) ev_int (atI_zero _ _)) ev_int rfl) ea_nil)) (by simp)) ea_nil) (by simp))) (EvF.ev (ef_sl (ev_sl (n := 2) st.sl rfl) (eo_some (K := K) ev_int) eo_none)) (by rw [cut_rest]; simp at hlen ⊢; omega))) ea_nil)) (by simp)) ea_nil)) (by simp)) (by simp) fun H4 st => ?_
      refine q_app (n := 3) (k := 0) st rfl rfl (ev_tup (ea_cons (ev_sl (n := 1) st.sl rfl) (ea_cons (EvF.ev (ef_cat (EvF.ev (ef_sl (ev_sl (n := 2) st.sl rfl) eo_none (eo_some (K := K) (ev_neg ev_int)))) (EvF.ev (ef_lst (ea_cons (ev_tup (ea_cons (ev_ixT (ev_ixL (ev_sl (n := 2) st.sl rfl) (ev_neg ev_int) (atI_last hl)) ev_int rfl) (ea_cons (ev_ixL (d := .int (flip1 jl)) (EvF.ev (ef_lst (ea_cons ev_int (ea_cons (ev_neg ev_int) ea_nil)) (by simp))) (ev_cb (ea_cons (ev_eqI (ev_ixT (ev_ixL (ev_sl (n := 2) st.sl rfl) (ev_neg ev_int) (atI_last hl)) ev_int rfl) ev_int) ea_nil) rc_int1B) (flip_at jl)) ea_nil)) (by simp)) ea_nil) (by simp))) (by rw [cut_init]; simp at hlen ⊢; omega))) ea_nil)) (by simp)) (by simp) fun H5 st => ?_
      have e1 : cut (((m0, j0) :: r).map pairD) none (some (-1)) ++ [.tup [.int ml, .int (flip1 jl)]] = (((m0, j0) :: r).dropLast ++ [(ml, flip1 jl)]).map pairD := by rw [cut_init, List.map_append, List.map_dropLast]; rfl
      have e2 : cut (((m0, j0) :: r).map pairD) none (some (-1)) = ((m0, j0) :: r).dropLast.map pairD := by rw [cut_init, List.map_dropLast]
      have e3 : D.tup [.int (m0 - 1), .int j0] :: cut (((m0, j0) :: r).map pairD) (some 1) none = (shift ((m0, j0) :: r)).map pairD := by rw [cut_rest]; rfl
      have st : Sta K (Hx H S) H S [(l, [planD (f + 1) ((m0, j0) :: r), planD f ((m0, j0) :: r).dropLast, planD f (shift ((m0, j0) :: r))] ++ [planD f (((m0, j0) :: r).dropLast ++ [(ml, flip1 jl)])])] [.d (planD f ((m0, j0) :: r)), .d (.int f), .d (.lst (((m0, j0) :: r).map pairD)), .at l, .no] [] σ2 H5 := by
        unfold planD
        rw [← e1, ← e2, ← e3]
        exact st
      have fin : ∀ H6, Sta K (Hx H S) H S [(l, [planD (f + 1) ((m0, j0) :: r), planD f ((m0, j0) :: r).dropLast, planD f (shift ((m0, j0) :: r))] ++ [planD f (((m0, j0) :: r).dropLast ++ [(ml, flip1 jl)])])] [.d (planD f ((m0, j0) :: r)), .d (.int f), .d (.lst (((m0, j0) :: r).map pairD)), .at l, .no] [] σ2 H6 → tSeq (tAsg (tTup (tCons (tOp (rI0 fun i j => .int (i + j)) (tOp (rIxT K) (tOp (rIxL K) (tVar 2) (tUn (rU fun i => .int (-i)) (tC (.int 1)))) (tC (.int 0))) (tC (.int 2000))) (tCons (tC (.int 7)) tNil))) (gName 4)) (tDrop (tBM K "list" rAppend (tVar 3) (tCons (tTup (tCons (tVar 1) (tCons (tOp rCat (tVar 2) (tLst (tCons (tVar 4) tNil))) tNil))) tNil))) { nx := tRet (tVar 3) { nx := fun _ H' => Q .non H', rt := Q }, rt := Q } σ2 H6 := by
        intro H6 st
        refine q_asg st (ev_tup (ea_cons (ev_add (ev_ixT (ev_ixL (ev_sl (n := 2) st.sl rfl) (ev_neg ev_int) (atI_last hl)) ev_int rfl) ev_int) (ea_cons ev_int ea_nil)) (by simp)) fun σ7 H7 st => ?_
        refine s_app (n := 3) (k := 0) st rfl rfl (ev_tup (ea_cons (ev_sl (n := 1) st.sl rfl) (ea_cons (EvF.ev (ef_cat (ev_sl (n := 2) st.sl rfl) (EvF.ev (ef_lst (ea_cons (ev_sl (n := 4) st.sl rfl) ea_nil) (by simp))) (by simp at hlen ⊢; omega))) ea_nil)) (by simp)) (by simp) fun H8 st => ?_
        refine r_retAt st rfl ?_ k
        unfold othersP
        rw [hl]
        show _ = [planD (f + 1) ((m0, j0) :: r), planD f ((m0, j0) :: r).dropLast, planD f (shift ((m0, j0) :: r)), planD f (((m0, j0) :: r).dropLast ++ [(ml, flip1 jl)]), planD f (((m0, j0) :: r) ++ [(ml + 2000, 7)])]
        simp [planD, pairD]
      refine q_if st (et_test (ev_eqI (ev_ixT (ev_ixL (ev_sl (n := 2) st.sl rfl) (ev_neg ev_int) (atI_last hl)) ev_int rfl) (ev_neg ev_int))) (fun hb H6 st => ?_) (fun hb H6 st => fin H6 st)
      have hb2 : jl = -1 := by simpa using hb
      refine s_setL (n := 3) (k := 0) st rfl rfl (ev_tup (ea_cons (ev_sl (n := 1) st.sl rfl) (ea_cons (EvF.ev (ef_cat (EvF.ev (ef_sl (ev_sl (n := 2) st.sl rfl) eo_none (eo_some (K := K) (ev_neg ev_int)))) (EvF.ev (ef_lst (ea_cons (ev_tup (ea_cons (ev_ixT (ev_ixL (ev_sl (n := 2) st.sl rfl) (ev_neg ev_int) (atI_last hl)) ev_int rfl) (ea_cons ev_int ea_nil)) (by simp)) ea_nil) (by simp))) (by rw [cut_init]; simp at hlen ⊢; omega))) ea_nil)) (by simp)) fun H7 st => ?_
      refine fin H7 ?_
      have e4 : flip1 jl = 1 := by rw [hb2]; rfl
      have e5 : planD f (((m0, j0) :: r).dropLast ++ [(ml, flip1 jl)]) = .tup [.int f, .lst (cut (((m0, j0) :: r).map pairD) none (some (-1)) ++ [.tup [.int ml, .int 1]])] := by
        rw [e4] at e1 ⊢
        rw [e1]; rfl
      rw [e5]
      exact st
end
end K4


set_option Elab.async false
set_option linter.all false
set_option maxRecDepth 100000
set_option maxHeartbeats 4000000
namespace K4
open PySem L2 Z Zn
open Evl (Ex ex_l ex_t sz_of sz_lt fresh_back)

abbrev foldsD (f : Int) (s : Steps) : D := .lst ((spansIf (fun j => decide (j < 0)) f s).map pairD)
abbrev gapsD (f : Int) (s : Steps) : D := .lst ((spansIf (fun j => decide (0 < j)) f s).map pairD)
abbrev jumpsD (s : Steps) : D := .lst ((s.map (·.2)).map D.int)
abbrev chgD (f : Int) (s : Steps) : D := .lst ((offs f s).map pairD)
theorem plan_bd {f : Int} {s : Steps} (h : PlanOk f s) : ∀ p ∈ s, jok p.2 ∧ Bd 2000000000000 p.1 := fun p hp => ⟨jok_all h.ok p hp, by have := h.mom p hp; exact ⟨by omega, by omega⟩⟩
theorem f_bd {f : Int} {s : Steps} (h : PlanOk f s) : Bd 850 f := ⟨h.f1, by have := h.f2; omega⟩
theorem sh_spans {f : Int} {s : Steps} (p : Int → Bool) (h : PlanOk f s) : shows 2 (.lst ((spansIf p f s).map pairD)) :=
  shows_pairs (N := 2000000000000 + 850 + 720 * s.length) (spans_bd (plan_bd h) (f_bd h)) (by have := h.len; omega)
theorem sh_chg {f : Int} {s : Steps} (h : PlanOk f s) : shows 2 (chgD f s) :=
  shows_pairs (N := 3000000000000) (fun q hq => by
    obtain ⟨⟨k1, k2⟩, k3, k4⟩ := offs_bd (plan_bd h) (f_bd h) q hq
    have := h.len
    exact ⟨⟨by omega, by omega⟩, by omega, by omega⟩) (by decide)
theorem sh_jumps {f : Int} {s : Steps} (h : PlanOk f s) : shows 2 (jumpsD s) :=
  shows_ints (N := 720) (fun q hq => by
    obtain ⟨p, hp, rfl⟩ := List.mem_map.1 hq
    obtain ⟨_, h1, h2⟩ := jok_all h.ok p hp
    exact ⟨h1, h2⟩) (by decide)
theorem wt_spans {f : Int} {s : Steps} (p : Int → Bool) (h : PlanOk f s) : wt 2 (.lst ((spansIf p f s).map pairD)) ≤ 80000 := by
  rw [wt_pairs]
  have := spansIf_len p f s
  have := h.len
  omega
theorem wt_chg {f : Int} {s : Steps} (h : PlanOk f s) : wt 2 (chgD f s) ≤ 80000 := by
  rw [wt_pairs, offs_len]
  have := h.len
  omega
theorem wt_jumps {f : Int} {s : Steps} (h : PlanOk f s) : wt 2 (jumpsD s) ≤ 80000 := by
  rw [wt_ints, List.length_map]
  have := h.len
  omega
def freshT (f : Int) (s : Steps) : D := .lst [foldsD f s, gapsD f s, jumpsD s, gapsD f s]
theorem sh_fresh {f : Int} {s : Steps} (h : PlanOk f s) : shows 3 (freshT f s) := by
  unfold freshT shows
  intro x hx
  simp only [List.mem_cons, List.not_mem_nil, or_false] at hx
  rcases hx with rfl | rfl | rfl | rfl
  · exact sh_spans _ h
  · exact sh_spans _ h
  · exact sh_jumps h
  · exact sh_spans _ h
theorem wt_fresh {f : Int} {s : Steps} (h : PlanOk f s) : wt 3 (freshT f s) ≤ 16000000 := by
  unfold freshT wt
  have h1 : wt 2 (foldsD f s) ≤ 80000 := wt_spans (fun j => decide (j < 0)) h
  have h2 : wt 2 (gapsD f s) ≤ 80000 := wt_spans (fun j => decide (0 < j)) h
  have h3 := wt_jumps h
  simp only [List.map_cons, List.map_nil, List.sum_cons, List.sum_nil]
  omega
def toldT (f : Int) (s : Steps) : List D := [.int f, chgD f s, jumpsD s, gapsD f s, foldsD f s]
theorem sh_told {f : Int} {s : Steps} (h : PlanOk f s) : shows 3 (.lst (toldT f s)) := by
  unfold toldT shows
  intro x hx
  simp only [List.mem_cons, List.not_mem_nil, or_false] at hx
  rcases hx with rfl | rfl | rfl | rfl | rfl
  · exact shows_int (f_bd h) (by decide)
  · exact sh_chg h
  · exact sh_jumps h
  · exact sh_spans _ h
  · exact sh_spans _ h
theorem wt_told {f : Int} {s : Steps} (h : PlanOk f s) : wt 3 (.lst (toldT f s)) ≤ 16000000 := by
  unfold toldT wt
  have h1 : wt 2 (foldsD f s) ≤ 80000 := wt_spans (fun j => decide (j < 0)) h
  have h2 : wt 2 (gapsD f s) ≤ 80000 := wt_spans (fun j => decide (0 < j)) h
  have h3 := wt_jumps h
  have h4 := wt_chg h
  simp only [List.map_cons, List.map_nil, List.sum_cons, List.sum_nil, wt_int]
  omega
theorem jumps_eq (s : Steps) : (s.filter (fun _ => true)).map (fun a => D.int a.2) = (s.map (·.2)).map D.int := by
  rw [List.map_map, List.filter_eq_self.2 (fun _ _ => rfl)]
  rfl
def R_fresh : List D → D → Prop := fun ds z => ∃ (f : Int) (s : Steps), ds = [planD f s] ∧ PlanOk f s ∧ z = .bl true
section
variable {P : Program} {w : World} {K : PySem.W.Frag} {mg : Str → Option Value} {base : Heap}
abbrev s_l_fresh_right : Stmt := top 23
theorem sc_l_fresh_right : FnScope ["_law_plan", "_law_second", "_law_third", "_law_told", "_law_due", "_law_moment", "_law_jump"] ["_law_plan"] (defScope s_l_fresh_right) := ⟨rfl, rfl, rfl, by decide +kernel, rfl, by decide +kernel, by decide +kernel⟩
theorem cal_l_fresh_right (T : Tx K mg) : CalG P w K mg base 6 "_law_fresh_right" (spR K R_fresh) [] := by
  obtain ⟨fd, F⟩ := T.d_l_fresh_right
  refine ⟨_, fd, ["_law_plan"], [], fnG F sc_l_fresh_right (fun vs H Q E h => ?_) (fun cdv A outer s H vs Q E hG hr h => ?_), T.m_l_fresh_right, F.kp, F.bindsN (fun _ _ _ _ _ _ us hl => match us, hl with | [_], _ => rfl), .nil⟩
  · obtain ⟨S, ds, d, _, ra, hR, _⟩ := h
    obtain ⟨f, s, rfl, hp, rfl⟩ := hR
    exact ra.len
  · obtain ⟨S, ds, d, ok, ra, hR, k⟩ := h
    obtain ⟨f, s, rfl, hp, rfl⟩ := hR
    have st : Sta K (Hx H S) H S [] [.d (planD f s), .no, .no, .no, .no, .no, .no] [] (L2.start ["_law_plan", "_law_second", "_law_third", "_law_told", "_law_due", "_law_moment", "_law_jump"] vs) H := Sta.init ok ra rfl
    refine ⟨_, PSs.nox ((pss_cons (ps_par (i := 1) (j := 2) (by rfl) sc_l_fresh_right.nd rfl rfl (by decide) rfl rfl (pa_cons (C8.pe_c (cal_l_made T) hr (by decide) (by rfl) (pa_cons (pv 0) pa_nil)) (pa_cons (C8.pe_c (cal_l_made T) hr (by decide) (by rfl) (pa_cons (pv 0) pa_nil)) pa_nil)) (by rfl))
      (pss_cons (ps_set (i := 3) sc_l_fresh_right.nd rfl (Or.inl rfl) (pe_lst (pa_cons (C8.pe_mt0 (cal_Zone_folds T) hr (by decide) (pv 1)) (pa_cons (C8.pe_mt0 (cal_Zone_gaps T) hr (by decide) (pv 1)) (pa_cons (C8.pe_mt0 (cal_Zone_jump_list T) hr (by decide) (pv 2)) (pa_cons (C8.pe_mt0 (cal_Zone_gaps T) hr (by decide) (C8.pe_c (cal_l_made T) hr (by decide) (by rfl) (pa_cons (pv 0) pa_nil))) pa_nil))))))
      (pss_cons (ps_set (i := 4) sc_l_fresh_right.nd rfl (Or.inl rfl) (pe_lst (pa_cons (C8.pe_c (cal_l_spans T) hr (by decide) (by rfl) (pa_cons (pv 0) (pa_cons (pe_un un_neg pe_int) pa_nil))) (pa_cons (C8.pe_c (cal_l_spans T) hr (by decide) (by rfl) (pa_cons (pv 0) (pa_cons pe_int pa_nil))) (pa_cons (pe_lc (own := [("_law_moment", 5), ("_law_jump", 6)]) (tt := tYes) (g := gTup K 2 (gCons (gName 5) (gCons (gName 6) gNil))) (by rfl) sc_l_fresh_right.nd (pi_list (pe_ix ix_tup (pv 0) pe_int (fun _ _ => rfl))) (blkOk_by (own := [("_law_moment", 5), ("_law_jump", 6)]) (N := ["_law_plan", "_law_second", "_law_third", "_law_told", "_law_due", "_law_moment", "_law_jump"]) (sc := defScope s_l_fresh_right) (by decide +kernel)) (fun _ _ _ _ _ => (pg_tup rfl (pgs_cons (pg_name (i := 5) sc_l_fresh_right.nd rfl (Or.inl rfl) (Or.inr rfl)) (pgs_cons (pg_name (i := 6) sc_l_fresh_right.nd rfl (Or.inl rfl) (Or.inr rfl)) pgs_nil)))) (fun _ _ _ _ _ => pts_nil) (fun _ _ _ _ _ => (pv 6))) (pa_cons (C8.pe_c (cal_l_spans T) hr (by decide) (by rfl) (pa_cons (pv 0) (pa_cons pe_int pa_nil))) pa_nil))))))
      (pss_one (ps_ret (pe_cmpR op_eq (pe_callB (call_repr hG hr) (by rfl) T.f_repr (by decide +kernel) (pa_cons (pv 3) pa_nil)) (pe_callB (call_repr hG hr) (by rfl) T.f_repr (by decide +kernel) (pa_cons (pv 4) pa_nil)) (nomark _)))))))), ?_⟩
    have hlen : s.length ≤ 1000 := by have := hp.len; omega
    have hok : okS s := hp.ok
    refine q_par st (ev_call (R := (R_made (He.ga K "Zone"))) (ea_cons (ev_sl (n := 0) st.sl rfl) ea_nil) ⟨_, _, rfl, hlen, hok, rfl⟩) (ev_call (R := (R_made (He.ga K "Zone"))) (ea_cons (ev_sl (n := 0) st.sl rfl) ea_nil) ⟨_, _, rfl, hlen, hok, rfl⟩) fun σ1 H1 st => ?_
    refine q_asg st (Ev.to (EvF.ev (ef_lst (ea_cons (EvF.ev (ef_meth (RF := (R_folds (He.ga K "Zone"))) (ev_sl (n := 1) st.sl rfl) rfl ea_nil ⟨_, _, rfl, hlen, rfl⟩)) (ea_cons (EvF.ev (ef_meth (RF := (R_gaps (He.ga K "Zone"))) (ev_sl (n := 1) st.sl rfl) rfl ea_nil ⟨_, _, rfl, hlen, rfl⟩)) (ea_cons (EvF.ev (ef_meth (RF := (R_jumps (He.ga K "Zone"))) (ev_sl (n := 2) st.sl rfl) rfl ea_nil ⟨_, _, rfl, rfl⟩)) (ea_cons (EvF.ev (ef_meth (RF := (R_gaps (He.ga K "Zone"))) (ev_call (R := (R_made (He.ga K "Zone"))) (ea_cons (ev_sl (n := 0) st.sl rfl) ea_nil) ⟨_, _, rfl, hlen, hok, rfl⟩) rfl ea_nil ⟨_, _, rfl, hlen, rfl⟩)) ea_nil)))) (by simp))) (show _ = freshT f s from rfl)) fun σ2 H2 st => ?_
    refine q_asg st (Ev.to (EvF.ev (ef_lst (ea_cons (EvF.ev (ef_call (RF := R_lspans) (ea_cons (ev_sl (n := 0) st.sl rfl) (ea_cons (ev_neg ev_int) ea_nil)) ⟨_, _, _, rfl, hlen, by decide, by decide, rfl⟩)) (ea_cons (EvF.ev (ef_call (RF := R_lspans) (ea_cons (ev_sl (n := 0) st.sl rfl) (ea_cons ev_int ea_nil)) ⟨_, _, _, rfl, hlen, by decide, by decide, rfl⟩)) (ea_cons (EvF.ev (ef_lc (α := Int × Int) (ps := s) (f := fun p => .tup [.int p.1, .int p.2]) (keep := (fun _ => true)) (val := fun a_ => .int a_.2) (up := _) st.sl ((ei_list (ev_ixT (ev_sl (n := 0) st.sl rfl) ev_int rfl)).to rfl) (by omega) (fun a_ ha_ => (tg_two (by decide) (by decide))) (fun a_ ha_ σ_ G_ S_ sl_ => et_yes) (fun a_ ha_ hk_ σ_ G_ S_ sl_ => (ev_sl (n := 6) sl_ rfl)))) (ea_cons (EvF.ev (ef_call (RF := R_lspans) (ea_cons (ev_sl (n := 0) st.sl rfl) (ea_cons ev_int ea_nil)) ⟨_, _, _, rfl, hlen, by decide, by decide, rfl⟩)) ea_nil)))) (by simp))) (show _ = freshT f s by rw [spans_m1, spans_p1, jumps_eq]; rfl)) fun σ3 H3 st => ?_
    exact r_ret st (ev_eqS (ev_cb (ea_cons (ev_sl (n := 3) st.sl rfl) ea_nil) (rc_repr 3 (sh_fresh hp) (by decide) (wt_fresh hp))) (ev_cb (ea_cons (ev_sl (n := 4) st.sl rfl) ea_nil) (rc_repr 3 (sh_fresh hp) (by decide) (wt_fresh hp)))) (by simp) k
end
end K4


set_option Elab.async false
set_option linter.all false
set_option maxRecDepth 100000
set_option maxHeartbeats 4000000
namespace K4
open PySem L2 Z Zn
open Evl (Ex ex_l ex_t sz_of sz_lt fresh_back)

abbrev rListOf (K : PySem.W.Frag) : List V → Hp → VK → Prop := fun xs H Q => ∃ p ys, xs = [.ref p] ∧ (SqL K H p ys ∨ SqT K H p ys) ∧ ∀ l, H l = none → Q (.ref l) (upd H l (.lst ys))
def spLaw (K : PySem.W.Frag) : Sp := fun vs H Q _ => ∃ (a : Addr) (ns : List Int), vs = [.ref a] ∧ SqL K H a (ns.map V.int) ∧ ∀ H', Q (.bl true) H'
theorem nf_self (K : PySem.W.Frag) (C : Addr) : PySem.W.notFirst K C (.ref C) = true := by unfold PySem.W.notFirst; simp
theorem bag_ok (c : Int) : BagOk 0 [.int (max 0 (c - 10 ^ (18 : Int).toNat)), .int (c % 2147483629), .int 0] :=
  ⟨_, _, _, rfl, by omega, Int.emod_nonneg _ (by decide), Int.emod_lt_of_pos _ (by decide), by omega, by omega⟩
theorem lists_eq (l : List (Int × Int)) : (l.map fun p => [D.int p.1, D.int p.2]).map D.tup = l.map pairD := by
  rw [List.map_map]; rfl
theorem lists_eqL (l : List (Int × Int)) : (l.map fun p => [D.int p.1, D.int p.2]).map D.lst = l.map pairL := by
  rw [List.map_map]; rfl
/-- the state of a lap -/
def LapI (K : PySem.W.Frag) (B F : Hp) (hl : Addr) (Γ : List Sl) (N A : Nat) (σ : L2.St) (H : Hp) : Prop := ∃ (os : Os) (as : List Addr), (hl, as.map D.adr) ∈ os ∧ (∀ a ∈ as, a ∈ os.map (·.1) ∧ a ≠ hl) ∧ (∀ e ∈ os, e.2.length ≤ N) ∧ as.length ≤ A ∧ Sta K B F [] os Γ [] σ H
theorem moms_eq (s : Steps) : (s.filter (fun _ => true)).map (fun a => D.int a.1) = (s.map (·.1)).map D.int := by
  rw [List.map_map, List.filter_eq_self.2 (fun _ _ => rfl)]
  rfl
theorem plus_eq (l : List Int) : (l.filter (fun _ => true)).map (fun a => D.int (a + 1)) = (l.map (· + 1)).map D.int := by
  rw [List.map_map, List.filter_eq_self.2 (fun _ _ => rfl)]
  rfl
def oddsD : List D := [.non, .bl true, .str "0", .lst [.int 0], .tup [.int 0, .int 0], .int (10 ^ (29 : Int).toNat)]
theorem others_len (f : Int) (s : Steps) : (othersP f s).length ≤ 40000 := by
  unfold othersP
  cases s.getLast? with
  | none => exact Nat.le_of_ble_eq_true rfl
  | some p => exact Nat.le_of_ble_eq_true rfl
theorem no_others (f : Int) (s : Steps) : ((othersP f s).filter (fun _ => false)).map (fun q => planD q.1 q.2) = [] := by simp
theorem filter_all {α : Type} (l : List α) : l.filter (fun _ => true) = l := List.filter_eq_self.2 (fun _ _ => rfl)
theorem eqv_int_no {i : Int} {x : D} (h1 : x.isInt = false) (h2 : x.isBool = false) (h3 : x.isObj = false) : (D.int i).eq x = false := by
  cases x with
  | int j => cases h1
  | bl b => cases h2
  | obj _ _ => cases h3
  | adr _ => cases h3
  | non => simp [D.eq, D.py, PyData.eqv]
  | str _ => simp [D.eq, D.py, PyData.eqv]
  | lst _ => simp [D.eq, D.py, PyData.eqv]
  | rls _ => simp [D.eq, D.py, PyData.eqv]
  | tup _ => simp [D.eq, D.py, PyData.eqv]
theorem odd_eq (x : D) (h : x.isObj = false) (l : List Int) : (x.isInt && D.inL x (l.map D.int)) = (!x.isBool && D.inL x (l.map D.int)) := by
  by_cases h1 : x.isInt = true
  · have h2 : x.isBool = false := by cases x <;> first | rfl | cases h1
    rw [h1, h2]; rfl
  · have h1 : x.isInt = false := by simpa using h1
    by_cases h2 : x.isBool = true
    · rw [h1, h2]; rfl
    · have h2 : x.isBool = false := by simpa using h2
      have : D.inL x (l.map D.int) = false := by
        unfold D.inL
        rw [List.any_eq_false]
        intro y hy
        obtain ⟨i, _, rfl⟩ := List.mem_map.1 hy
        rw [eqv_int_no h1 h2 h]
        decide
      rw [this]
      simp
theorem odds_ok {l : List Int} {x : D} (h : x ∈ l.map D.int ++ (l.map (· + 1)).map D.int ++ oddsD) : x.isObj = false ∧ good 1 x := by
  rcases List.mem_append.mp h with h | h
  · rcases List.mem_append.mp h with h | h
    · obtain ⟨i, _, rfl⟩ := List.mem_map.1 h
      exact ⟨rfl, by unfold good; trivial⟩
    · obtain ⟨i, _, rfl⟩ := List.mem_map.1 h
      exact ⟨rfl, by unfold good; trivial⟩
  · simp only [oddsD, List.mem_cons, List.not_mem_nil, or_false] at h
    rcases h with rfl | rfl | rfl | rfl | rfl | rfl
    · exact ⟨rfl, by unfold good; trivial⟩
    · exact ⟨rfl, by unfold good; trivial⟩
    · exact ⟨rfl, by unfold good; decide +kernel⟩
    · exact ⟨rfl, good_ints [0]⟩
    · exact ⟨rfl, good_pair (0, 0)⟩
    · exact ⟨rfl, by unfold good; trivial⟩
section
variable {P : Program} {w : World} {K : PySem.W.Frag} {mg : Str → Option Value} {base : Heap}
abbrev s_law : Stmt := top 24
theorem sc_law : FnScope ["_law_script", "_law_index", "_law_bag_here", "_law_plan", "_law_handed", "_law_zone_here", "_law_lap", "_law_told", "_law_due", "_law_each", "_law_moments", "_law_odd", "_law_change", "_law_moment", "_law_jump", "_law_other"] ["_law_script"] (defScope s_law) := ⟨rfl, rfl, rfl, by decide +kernel, rfl, by decide +kernel, by decide +kernel⟩
theorem cal_l_zone6 (T : Tx K mg) : C8.Cal P w K mg base 2 "_law_zone" (spPlan K 6) [] := cal_l_zone T 6 (by decide) (by decide)
theorem fn_law (T : Tx K mg) {fd : FuncData} (F : FunD K "law" "law" (defArgs s_law) (defBody s_law) (defScope s_law) [] [] (He.ga K "law") fd) : FnG P w K mg base 7 (He.ga K "law") fd ["_law_script"] (spLaw K) := by
  refine fnG F sc_law (fun vs H Q E h => ?_) (fun cdv A outer s H vs Q E hG hr h => ?_)
  · obtain ⟨a, ns, rfl, _⟩ := h
    rfl
  · obtain ⟨a, ns, rfl, hS, k⟩ := h
    refine ⟨_, PSs.nox ((pss_cons (ps_for PassesOwn.never rfl (pi_range1 (by rfl) T.f_range (pa_cons (pe_callB (call_max2 rfl) (by rfl) T.f_max (by decide +kernel) (pa_cons pe_int (pa_cons (pe_callB (call_min2 rfl) (by rfl) T.f_min (by decide +kernel) (pa_cons pe_int (pa_cons (pe_callB call_len_seq (by rfl) T.f_len (by decide +kernel) (pa_cons (pv 0) pa_nil)) pa_nil))) pa_nil))) pa_nil)) (pg_name (i := 1) sc_law.nd rfl (Or.inl rfl))
        (pss_cons (ps_set (i := 2) sc_law.nd rfl (Or.inl rfl) (C8.pe_c (cal_l_bag T) hr (by decide) (by rfl) (pa_cons (C8.pe_c (cal_l_cell T) hr (by decide) (by rfl) (pa_cons (pv 0) (pa_cons (pv 1) pa_nil))) pa_nil)))
      (pss_cons (ps_set (i := 3) sc_law.nd rfl (Or.inl rfl) (C8.pe_c (cal_l_zone6 T) hr (by decide) (by rfl) (pa_cons (pv 2) (pa_cons pe_int pa_nil))))
      (pss_cons (ps_setLc (i := 4) (own := [("_law_change", 12)]) (tt := tYes) (te := (tCB (rListOf K) (tCons (tVar 12) tNil))) (by rfl) sc_law.nd rfl rfl (sw_true rfl rfl rfl (by decide +kernel)) (pi_list (C8.pe_c (cal_l_changes T) hr (by decide) (by rfl) (pa_cons (pv 3) pa_nil))) (blkOk_by (own := [("_law_change", 12)]) (N := ["_law_script", "_law_index", "_law_bag_here", "_law_plan", "_law_handed", "_law_zone_here", "_law_lap", "_law_told", "_law_due", "_law_each", "_law_moments", "_law_odd", "_law_change", "_law_moment", "_law_jump", "_law_other"]) (sc := defScope s_law) (by decide +kernel)) (fun _ _ _ _ _ => (pg_name (i := 12) sc_law.nd rfl (Or.inl rfl) (Or.inr rfl))) (fun _ _ _ _ _ => pts_nil) (fun _ _ _ _ _ => (pe_callTy call_list_of (by rfl) T.f_list (by decide +kernel) (pa_cons (pv 12) pa_nil))))
      (pss_cons (ps_set (i := 5) sc_law.nd rfl (Or.inr rfl) (C8.pe_mk (mak_Zone2 T) hr (by decide) (by rfl) (pa_cons (pe_ix ix_tup (pv 3) pe_int (fun _ _ => rfl)) (pa_cons (pv 4) pa_nil))))
      (pss_cons (ps_for PassesOwn.never rfl (pi_range1 (by rfl) T.f_range (pa_cons pe_int pa_nil)) (pg_name (i := 6) sc_law.nd rfl (Or.inl rfl))
        (pss_cons (ps_set (i := 7) sc_law.nd rfl (Or.inl rfl) (pe_lst (pa_cons (pe_propC (cal_Zone_first T) hr (by decide) (pv 5)) (pa_cons (C8.pe_mt0 (cal_Zone_changes T) hr (by decide) (pv 5)) (pa_cons (C8.pe_mt0 (cal_Zone_jump_list T) hr (by decide) (pv 5)) (pa_cons (C8.pe_mt0 (cal_Zone_gaps T) hr (by decide) (pv 5)) (pa_cons (C8.pe_mt0 (cal_Zone_folds T) hr (by decide) (pv 5)) pa_nil)))))))
      (pss_cons (ps_set (i := 8) sc_law.nd rfl (Or.inl rfl) (pe_lst (pa_cons (pe_ix ix_tup (pv 3) pe_int (fun _ _ => rfl)) (pa_cons (C8.pe_c (cal_l_changes T) hr (by decide) (by rfl) (pa_cons (pv 3) pa_nil)) (pa_cons (pe_lc (own := [("_law_moment", 13), ("_law_jump", 14)]) (tt := tYes) (g := gTup K 2 (gCons (gName 13) (gCons (gName 14) gNil))) (by rfl) sc_law.nd (pi_list (pe_ix ix_tup (pv 3) pe_int (fun _ _ => rfl))) (blkOk_by (own := [("_law_moment", 13), ("_law_jump", 14)]) (N := ["_law_script", "_law_index", "_law_bag_here", "_law_plan", "_law_handed", "_law_zone_here", "_law_lap", "_law_told", "_law_due", "_law_each", "_law_moments", "_law_odd", "_law_change", "_law_moment", "_law_jump", "_law_other"]) (sc := defScope s_law) (by decide +kernel)) (fun _ _ _ _ _ => (pg_tup rfl (pgs_cons (pg_name (i := 13) sc_law.nd rfl (Or.inl rfl) (Or.inr rfl)) (pgs_cons (pg_name (i := 14) sc_law.nd rfl (Or.inl rfl) (Or.inr rfl)) pgs_nil)))) (fun _ _ _ _ _ => pts_nil) (fun _ _ _ _ _ => (pv 14))) pa_nil)))))
      (pss_cons (ps_if (PW.pt (pw_or (pt_cmpR op_ne (pe_callB (call_repr hG hr) (by rfl) T.f_repr (by decide +kernel) (pa_cons (pv 7) pa_nil)) (pe_callB (call_repr hG hr) (by rfl) T.f_repr (by decide +kernel) (pa_cons (pe_op op_cat (pv 8) (pe_lst (pa_cons (C8.pe_c (cal_l_spans T) hr (by decide) (by rfl) (pa_cons (pv 3) (pa_cons pe_int pa_nil))) (pa_cons (C8.pe_c (cal_l_spans T) hr (by decide) (by rfl) (pa_cons (pv 3) (pa_cons (pe_un un_neg pe_int) pa_nil))) pa_nil)))) pa_nil)) (nomark _)) (pw_or1 (pt_cmpR op_ne (pe_callB (call_lenO (own_of (cal_Zone_ddlendd T)) (hr.mono (by decide))) (by rfl) T.f_len (by decide +kernel) (pa_cons (pv 5) pa_nil)) (pe_callB call_len_seq (by rfl) T.f_len (by decide +kernel) (pa_cons (pe_ix ix_tup (pv 3) pe_int (fun _ _ => rfl)) pa_nil)) (nomark _))))) (pss_one (ps_ret pe_bl)) pss_nil)
      (pss_cons (ps_for PassesOwn.never rfl (pi_list (pe_slice sl_list (pv 7) (po_some pe_int) po_none)) (pg_name (i := 9) sc_law.nd rfl (Or.inl rfl))
        (pss_one (ps_expr (pe_bm PySem.F.plainAttrs_list PySem.F.slot_list_append PySem.F.type_list_append mt_append (pv 9) (pa_cons pe_str pa_nil)))))
      (pss_cons (ps_for PassesOwn.never rfl (pi_list (pv 4)) (pg_name (i := 9) sc_law.nd rfl (Or.inl rfl))
        (pss_one (ps_expr (pe_bm PySem.F.plainAttrs_list PySem.F.slot_list_append PySem.F.type_list_append mt_append (pv 9) (pa_cons pe_int pa_nil)))))
      (pss_one (ps_expr (pe_bm PySem.F.plainAttrs_list PySem.F.slot_list_append PySem.F.type_list_append mt_append (pv 4) (pa_cons (pe_lst (pa_cons pe_str pa_nil)) pa_nil))))))))))
      (pss_cons (ps_if (pt_not (pt_val (pe_cG (cal_l_fresh_right T) hG hr (by decide) (by rfl) (pa_cons (pv 3) pa_nil)))) (pss_one (ps_ret pe_bl)) pss_nil)
      (pss_cons (ps_setLc (i := 10) (own := [("_law_moment", 13), ("_law_jump", 14)]) (tt := tYes) (g := gTup K 2 (gCons (gName 13) (gCons (gName 14) gNil))) (by rfl) sc_law.nd rfl rfl (sw_true rfl rfl rfl (by decide +kernel)) (pi_list (pe_ix ix_tup (pv 3) pe_int (fun _ _ => rfl))) (blkOk_by (own := [("_law_moment", 13), ("_law_jump", 14)]) (N := ["_law_script", "_law_index", "_law_bag_here", "_law_plan", "_law_handed", "_law_zone_here", "_law_lap", "_law_told", "_law_due", "_law_each", "_law_moments", "_law_odd", "_law_change", "_law_moment", "_law_jump", "_law_other"]) (sc := defScope s_law) (by decide +kernel)) (fun _ _ _ _ _ => (pg_tup rfl (pgs_cons (pg_name (i := 13) sc_law.nd rfl (Or.inl rfl) (Or.inr rfl)) (pgs_cons (pg_name (i := 14) sc_law.nd rfl (Or.inl rfl) (Or.inr rfl)) pgs_nil)))) (fun _ _ _ _ _ => pts_nil) (fun _ _ _ _ _ => (pv 13)))
      (pss_cons (ps_for PassesOwn.never rfl (pi_list (pe_op op_cat (pe_op op_cat (pv 10) (pe_lc (own := [("_law_moment", 13)]) (tt := tYes) (by rfl) sc_law.nd (pi_list (pv 10)) (blkOk_by (own := [("_law_moment", 13)]) (N := ["_law_script", "_law_index", "_law_bag_here", "_law_plan", "_law_handed", "_law_zone_here", "_law_lap", "_law_told", "_law_due", "_law_each", "_law_moments", "_law_odd", "_law_change", "_law_moment", "_law_jump", "_law_other"]) (sc := defScope s_law) (by decide +kernel)) (fun _ _ _ _ _ => (pg_name (i := 13) sc_law.nd rfl (Or.inl rfl) (Or.inr rfl))) (fun _ _ _ _ _ => pts_nil) (fun _ _ _ _ _ => (pe_op op_add (pv 13) pe_int)))) (pe_lst (pa_cons pe_non (pa_cons pe_bl (pa_cons pe_str (pa_cons (pe_lst (pa_cons pe_int pa_nil)) (pa_cons (pe_tup (pa_cons pe_int (pa_cons pe_int pa_nil))) (pa_cons (pe_op op_pow pe_int pe_int) pa_nil))))))))) (pg_name (i := 11) sc_law.nd rfl (Or.inl rfl))
        (pss_one (ps_if (pt_cmpR op_ne (pe_cmpR (op_inO (own_of (cal_Zone_ddcontainsdd T)) (hr.mono (by decide))) (pv 11) (pv 5) (by rfl)) (pe_and (pe_not (pe_callB call_isi (by rfl) T.f_isinstance (by decide +kernel) (pa_cons (pv 11) (pa_cons (pe_bltn (v := .ty "bool") (by rfl) T.f_bool (by decide +kernel) rfl) pa_nil)))) (pe_one (pe_cmpR (op_inD (hu65 hr)) (pv 11) (pv 10) (by rfl)))) (nomark _)) (pss_one (ps_ret pe_bl)) pss_nil)))
      (pss_cons (ps_if (PW.pt (pw_or (pt_cmpR (op_neO (own_of (cal_Zone_ddeqdd T)) T.ne_Zone T.c_Zone.ob (hr.mono (by decide))) (pv 5) (C8.pe_c (cal_l_made T) hr (by decide) (by rfl) (pa_cons (pv 3) pa_nil)) (nomark _)) (pw_or (pt_cmpR (op_neO (own_of (cal_Zone_ddeqdd T)) T.ne_Zone T.c_Zone.ob (hr.mono (by decide))) (pv 5) (C8.pe_mk (mak_Zone2 T) hr (by decide) (by rfl) (pa_cons (pe_ix ix_tup (pv 3) pe_int (fun _ _ => rfl)) (pa_cons (pe_callTy call_tuple_of (by rfl) T.f_tuple (by decide +kernel) (pa_cons (C8.pe_c (cal_l_changes T) hr (by decide) (by rfl) (pa_cons (pv 3) pa_nil)) pa_nil)) pa_nil))) (nomark _)) (pw_or1 (pt_cmpR (op_eqO (own_of (cal_Zone_ddeqdd T)) (hr.mono (by decide))) (pv 5) (pv 4) (nomark _)))))) (pss_one (ps_ret pe_bl)) pss_nil)
      (pss_cons (ps_if (pt_cmpR (op_neD hr.units) (pe_lc (own := [("_law_other", 15)]) (tt := (tTest (tOp (rEqO K (He.ga K "Zone") (spR K (R_zeq (He.ga K "Zone"))) false) (tCall (spR K (R_made (He.ga K "Zone"))) [] C8.E0 (tCons (tVar 15) tNil)) (tVar 5)))) (by rfl) sc_law.nd (pi_list (C8.pe_c (cal_l_others T) hr (by decide) (by rfl) (pa_cons (pv 3) pa_nil))) (blkOk_by (own := [("_law_other", 15)]) (N := ["_law_script", "_law_index", "_law_bag_here", "_law_plan", "_law_handed", "_law_zone_here", "_law_lap", "_law_told", "_law_due", "_law_each", "_law_moments", "_law_odd", "_law_change", "_law_moment", "_law_jump", "_law_other"]) (sc := defScope s_law) (by decide +kernel)) (fun _ _ _ _ _ => (pg_name (i := 15) sc_law.nd rfl (Or.inl rfl) (Or.inr rfl))) (fun _ _ _ _ _ => (pts_one (pt_cmpR (op_eqO (own_of (cal_Zone_ddeqdd T)) (hr.mono (by decide))) (C8.pe_c (cal_l_made T) hr (by decide) (by rfl) (pa_cons (pv 15) pa_nil)) (pv 5) (nomark _)))) (fun _ _ _ _ _ => (pv 15))) (pe_lst pa_nil) (nomark _)) (pss_one (ps_ret pe_bl)) pss_nil)
      (pss_cons (ps_if (PW.pt (pw_and (pt_cmpR (op_neD hr.units) (pe_ix ix_tup (pv 3) pe_int (fun _ _ => rfl)) (pe_lst pa_nil) (nomark _)) (pw_and (pt_cmpR (op_notInD (hu65 hr)) (pe_ix ix_tup (pe_ix ix_list (pe_ix ix_tup (pv 3) pe_int (fun _ _ => rfl)) pe_int (fun _ _ => rfl)) pe_int (fun _ _ => rfl)) (pe_lst (pa_cons pe_int (pa_cons pe_int pa_nil))) (by rfl)) (pw_and (pt_cmpR op_lt (pe_callB call_abs (by rfl) T.f_abs (by decide +kernel) (pa_cons (pe_ix ix_tup (pe_ix ix_list (pe_ix ix_tup (pv 3) pe_int (fun _ _ => rfl)) pe_int (fun _ _ => rfl)) pe_int (fun _ _ => rfl)) pa_nil)) pe_int (nomark _)) (pw_and1 (pt_cmpR op_eq (pe_callB call_len_seq (by rfl) T.f_len (by decide +kernel) (pa_cons (pe_ix ix_tup (pv 3) pe_int (fun _ _ => rfl)) pa_nil)) pe_int (nomark _))))))) (pss_one (ps_if (pt_cmpR (op_eqO (own_of (cal_Zone_ddeqdd T)) (hr.mono (by decide))) (C8.pe_mk (mak_Zone2 T) hr (by decide) (by rfl) (pa_cons (pe_op op_add (pe_ix ix_tup (pv 3) pe_int (fun _ _ => rfl)) pe_int) (pa_cons (C8.pe_c (cal_l_changes T) hr (by decide) (by rfl) (pa_cons (pv 3) pa_nil)) pa_nil))) (pv 5) (nomark _)) (pss_one (ps_ret pe_bl)) pss_nil)) pss_nil)
      (pss_one (ps_if (PW.pt (pw_or (pt_cmpR (op_neO (own_of (cal_Zone_ddeqdd T)) T.ne_Zone T.c_Zone.ob (hr.mono (by decide))) (C8.pe_mk (mak_Zone1 T) hr (by decide) (by rfl) (pa_cons (pe_ix ix_tup (pv 3) pe_int (fun _ _ => rfl)) pa_nil)) (C8.pe_mk (mak_Zone2 T) hr (by decide) (by rfl) (pa_cons (pe_ix ix_tup (pv 3) pe_int (fun _ _ => rfl)) (pa_cons (pe_lst pa_nil) pa_nil))) (nomark _)) (pw_or1 (pt_cmpR op_ne (pe_callB (call_lenO (own_of (cal_Zone_ddlendd T)) (hr.mono (by decide))) (by rfl) T.f_len (by decide +kernel) (pa_cons (C8.pe_mk (mak_Zone1 T) hr (by decide) (by rfl) (pa_cons (pe_ix ix_tup (pv 3) pe_int (fun _ _ => rfl)) pa_nil)) pa_nil)) pe_int (nomark _))))) (pss_one (ps_ret pe_bl)) pss_nil))))))))))))))
      (pss_one (ps_ret pe_bl)))), ?_⟩
    have st : Sta K (Hx H []) H [] [] [.d (.rls (ns.map D.int)), .no, .no, .no, .no, .no, .no, .no, .no, .no, .no, .no, .no, .no, .no, .no] [] (L2.start ["_law_script", "_law_index", "_law_bag_here", "_law_plan", "_law_handed", "_law_zone_here", "_law_lap", "_law_told", "_law_due", "_law_each", "_law_moments", "_law_odd", "_law_change", "_law_moment", "_law_jump", "_law_other"] [.ref a]) H :=
      Sta.initG Ok.nil (.cons ⟨_, rfl, .rls (ex_l Hx.nil hS) (RpA.of_ints _)⟩ (.cons trivial (.cons trivial (.cons trivial (.cons trivial (.cons trivial (.cons trivial (.cons trivial (.cons trivial (.cons trivial (.cons trivial (.cons trivial (.cons trivial (.cons trivial (.cons trivial (.cons trivial .nil))))))))))))))))
    refine q_rng (c := max 2 (min 8 (ns.length : Int))) st (ea_cons (ev_cb (ea_cons ev_int (ea_cons (ev_cb (ea_cons ev_int (ea_cons (Ev.to (ev_cb (ea_cons (ev_sl (n := 0) st.sl rfl) ea_nil) rc_lenR) (by rw [List.length_map])) ea_nil)) rc_min) ea_nil)) rc_max) ea_nil) (by omega) (by omega) (fun i σ H' => Sta K (Hx H []) H [] [] [.d (.rls (ns.map D.int)), .no, .no, .no, .no, .no, .no, .no, .no, .no, .no, .no, .no, .no, .no, .no] [] σ H') (fun H' st => st) (fun i hi σ1 H1 st => ?_) (fun σ1 H1 st => k _)
    have st := st.set 1 (v := .int (0 + (i : Int))) (d := .int (0 + (i : Int))) (.int _)
    -- the bag, the plan
    refine q_asgF st (ef_call (RF := R_bag) (ea_cons (ev_call (R := R_cell) (ea_cons (ev_sl (n := 0) st.sl rfl) (ea_cons (ev_sl (n := 1) st.sl rfl) ea_nil)) ⟨ns, _, rfl, by omega, by omega, rfl⟩) ea_nil) ⟨_, rfl, rfl⟩) fun bg σ2 H2 st => ?_
    obtain ⟨xs, hbg, rbg⟩ := st.at_ (k := 0) rfl
    refine ⟨_, st.slot (n := 2) rfl, [], bg, _, xs, 0, rfl, Ok.nil, by simp, hbg, rbg, bag_ok _, by omega, fun v f s bag' xs' H3 hp hb' fr h1 h2 rp => ?_⟩
    have st := (st.one fr h1 h2).set 3 (d := planD f s) rp
    have hlen19 : s.length ≤ 19 := hp.len
    have hlen : s.length ≤ 1000 := by omega
    have hok : okS s := hp.ok
    -- handed
    show tSeq _ _ _ (σ2.set 3 (some v)) H3
    refine q_lists (r := rListOf K) (ps := (offs f s).map fun p => [D.int p.1, D.int p.2]) (fun ds => rcf_list (Or.inr rfl)) st (EvI.to (ei_list (EvF.ev (ef_call (RF := R_lchg) (ea_cons (ev_sl (n := 3) st.sl rfl) ea_nil) ⟨_, _, rfl, hlen, rfl⟩))) (lists_eq _).symm) (by rw [List.length_map, offs_len]; omega) (by decide) (fun _ => rfl) fun ents hl σ4 H4 he st => ?_
    -- the zone
    have vw := st.viewO (n := 4) (l := hl) (ds := ents.reverse.map fun e => D.adr e.1) (ds' := (offs f s).map pairL) rfl (by simp) (by
      have h := resA_of (l := ents.reverse) (os := ents ++ (hl, ents.reverse.map fun e => D.adr e.1) :: [(bg, bag')]) (fun e he => by rw [List.mem_reverse] at he; exact List.mem_append_left _ he)
      have e2 : (ents.reverse.map fun e => D.lst e.2) = (offs f s).map pairL := by rw [← lists_eqL, ← he, List.map_map]; rfl
      rw [e2] at h
      exact h)
    refine q_make (R := R_zone) (gs := zoneF f s) (dvs := []) (dds := []) st (ea_cons (ev_ixT (ev_sl (n := 3) vw rfl) ev_int rfl) (ea_cons (ev_sl (n := 4) vw rfl) ea_nil)) (fun _ => .nil) ⟨f, s, pairL, Or.inr rfl, Or.inl rfl, hok, hlen, rfl⟩ fun σ5 H5 st => ?_
    have hentl : ents.length ≤ 19 := by
      have h := congrArg List.length he
      rw [List.length_map, List.length_reverse, List.length_map, offs_len] at h
      omega
    refine q_rng (c := 2) st (ea_cons ev_int ea_nil) (by decide) (by decide) (fun i σ H' => LapI K (Hx H []) H hl [.d (.rls (ns.map D.int)), .no, .no, .d (planD f s), .at hl, .d (zoneD (He.ga K "Zone") f s), .no, .no, .no, .no, .no, .no, .no, .no, .no, .no] (20 + 100 * i) (20 + i) σ H') (fun H' st => ?_) (fun i hi σ6 H6 st => ?_) (fun σ6 H6 st => ?_)
    · refine ⟨_, ents.reverse.map (·.1), ?_, ?_, ?_, ?_, st.weak ⟨Or.inl rfl, Or.inr rfl, Or.inr rfl, Or.inl rfl, Or.inl rfl, Or.inl rfl, Or.inr rfl, Or.inr rfl, Or.inr rfl, Or.inr rfl, Or.inr rfl, Or.inr rfl, Or.inr rfl, Or.inr rfl, Or.inr rfl, Or.inr rfl, trivial⟩⟩
      · rw [List.map_map]; exact List.mem_append_right _ List.mem_cons_self
      · intro a ha
        obtain ⟨e, he2, rfl⟩ := List.mem_map.1 ha
        rw [List.mem_reverse] at he2
        refine ⟨List.mem_map.2 ⟨e, List.mem_append_left _ he2, rfl⟩, fun q => ?_⟩
        have nd := st.nd
        rw [List.map_append, List.map_cons, List.nodup_append] at nd
        exact nd.2.2 e.1 (List.mem_map.2 ⟨e, he2, rfl⟩) hl List.mem_cons_self q
      · intro e he2
        rcases List.mem_append.mp he2 with h | h
        · have hm : e.2 ∈ ents.reverse.map (·.2) := List.mem_map.2 ⟨e, List.mem_reverse.2 h, rfl⟩
          rw [he] at hm
          obtain ⟨p, _, hp2⟩ := List.mem_map.1 hm
          rw [← hp2]
          show 2 ≤ 20
          omega
        · simp only [List.mem_cons, List.not_mem_nil, or_false] at h
          rcases h with rfl | rfl
          · show (ents.reverse.map fun e => D.adr e.1).length ≤ 20
            rw [List.length_map, List.length_reverse]
            omega
          · obtain ⟨b0, b1, b2, rfl, _⟩ := hb'
            show 3 ≤ 20
            omega
      · rw [List.length_map, List.length_reverse]; omega
    · obtain ⟨os, as, hm, has, hN, hasl, st⟩ := st
      have hi2 : i ≤ 1 := by omega
      have st := st.set 6 (v := .int (0 + (i : Int))) (d := .int (0 + (i : Int))) (.int _)
      refine w_int st (ev_prop (R := R_first (He.ga K "Zone")) (ev_sl (n := 5) st.sl rfl) ⟨f, s, rfl, rfl⟩) fun H7 st => ?_
      refine w_F st (ef_meth (RF := R_changes (He.ga K "Zone")) (ev_sl (n := 5) st.sl rfl) rfl ea_nil ⟨f, s, rfl, rfl⟩) fun a1 H8 st => ?_
      refine w_F st (ef_meth (RF := R_jumps (He.ga K "Zone")) (ev_sl (n := 5) st.sl rfl) rfl ea_nil ⟨f, s, rfl, rfl⟩) fun a2 H9 st => ?_
      refine w_F st (ef_meth (RF := R_gaps (He.ga K "Zone")) (ev_sl (n := 5) st.sl rfl) rfl ea_nil ⟨f, s, rfl, hlen, rfl⟩) fun a3 H10 st => ?_
      refine w_F st (ef_meth (RF := R_folds (He.ga K "Zone")) (ev_sl (n := 5) st.sl rfl) rfl ea_nil ⟨f, s, rfl, hlen, rfl⟩) fun a4 H11 st => ?_
      refine ⟨sz_of (by simp), fun tp htp => ?_⟩
      have st := (st.step (Evl.Ex.new (o := .lst [.int f, .ref a1, .ref a2, .ref a3, .ref a4]) htp)).set 7 (v := .ref tp) (d := .lst [.int f, .adr a1, .adr a2, .adr a3, .adr a4]) (.lst (Hx.of upd_same (st.ok.no htp)) (.cons (.int f) (.cons (.adr a1) (.cons (.adr a2) (.cons (.adr a3) (.cons (.adr a4) .nil))))))
      refine q_asg st (Ev.to (EvF.ev (ef_lst (ea_cons (ev_ixT (ev_sl (n := 3) st.sl rfl) ev_int rfl) (ea_cons (EvF.ev (ef_call (RF := R_lchg) (ea_cons (ev_sl (n := 3) st.sl rfl) ea_nil) ⟨_, _, rfl, hlen, rfl⟩)) (ea_cons (EvF.ev (ef_lc (α := Int × Int) (ps := s) (f := fun p => .tup [.int p.1, .int p.2]) (keep := (fun _ => true)) (val := fun a_ => .int a_.2) (up := _) st.sl ((ei_list (ev_ixT (ev_sl (n := 3) st.sl rfl) ev_int rfl)).to rfl) (by omega) (fun a_ ha_ => (tg_two (by decide) (by decide))) (fun a_ ha_ σ_ G_ S_ sl_ => et_yes) (fun a_ ha_ hk_ σ_ G_ S_ sl_ => (ev_sl (n := 14) sl_ rfl)))) ea_nil))) (by simp))) (show _ = D.lst [.int f, chgD f s, jumpsD s] by rw [jumps_eq])) fun σ12 H12 st => ?_
      have vw := st.viewR (n := 7) (ds := [.int f, .adr a1, .adr a2, .adr a3, .adr a4]) (ds' := toldT f s) rfl (.cons (Or.inl rfl) (.cons (Or.inr ⟨a1, _, rfl, by simp, rfl⟩) (.cons (Or.inr ⟨a2, _, rfl, by simp, rfl⟩) (.cons (Or.inr ⟨a3, _, rfl, by simp, rfl⟩) (.cons (Or.inr ⟨a4, _, rfl, by simp, rfl⟩) .nil)))))
      have er : [D.int f, chgD f s, jumpsD s] ++ [D.lst ((spansIf (fun j => decide (0 < j * 1)) f s).map pairD), D.lst ((spansIf (fun j => decide (0 < j * -1)) f s).map pairD)] = toldT f s := by rw [spans_p1, spans_m1]; rfl
      refine q_ifV (b := false) st (EvT.to (et_or (et_test (ev_neS (ev_cb (ea_cons (ev_sl (n := 7) vw rfl) ea_nil) (rc_repr 3 (sh_told hp) (by decide) (wt_told hp))) (ev_cb (ea_cons (Ev.to (EvF.ev (ef_cat (ev_sl (n := 8) vw rfl) (EvF.ev (ef_lst (ea_cons (EvF.ev (ef_call (RF := R_lspans) (ea_cons (ev_sl (n := 3) vw rfl) (ea_cons ev_int ea_nil)) ⟨_, _, _, rfl, hlen, by decide, by decide, rfl⟩)) (ea_cons (EvF.ev (ef_call (RF := R_lspans) (ea_cons (ev_sl (n := 3) vw rfl) (ea_cons (ev_neg ev_int) ea_nil)) ⟨_, _, _, rfl, hlen, by decide, by decide, rfl⟩)) ea_nil)) (by simp))) (by simp <;> omega))) (congrArg D.lst er)) ea_nil) (rc_repr 3 (sh_told hp) (by decide) (wt_told hp))))) (fun _ => et_test (ev_neI (ev_cb (ea_cons (ev_sl (n := 5) vw rfl) ea_nil) (rc_lenO (R := R_zlen (He.ga K "Zone")) (n := s.length) ⟨f, s, rfl, rfl⟩ (by omega) (by omega))) (Ev.to (ev_cb (ea_cons (ev_ixT (ev_sl (n := 3) vw rfl) ev_int rfl) ea_nil) rc_lenL) (by rw [List.length_map])))))  (by simp)) (fun hb => by cases hb) (fun _ H13 st => ?_)
      have nd := st.nd
      have hlm : hl ∈ os.map (·.1) := List.mem_map.2 ⟨_, hm, rfl⟩
      have ne4 : ∀ a ∈ [a4, a3, a2, a1], a ≠ hl := by
        intro a ha q
        subst q
        simp only [List.map_cons, List.nodup_cons, List.mem_cons, not_or] at nd
        simp only [List.mem_cons, List.not_mem_nil, or_false] at ha
        rcases ha with rfl | rfl | rfl | rfl
        · exact nd.1.2.2.2 hlm
        · exact nd.2.1.2.2 hlm
        · exact nd.2.2.1.2 hlm
        · exact nd.2.2.2.1 hlm
      have l19 : ∀ p, ((spansIf p f s).map pairD).length ≤ 20 + 100 * i := fun p => by
        rw [List.length_map]
        have := spansIf_len p f s
        omega
      refine q_for (ε := { o : Os // o.map (·.1) = a4 :: a3 :: a2 :: a1 :: os.map (·.1) }) st (EvI.to (ei_list (EvF.ev (ef_sl (ev_sl (n := 7) st.sl rfl) (eo_some (K := K) ev_int) eo_none))) (cut_tail _ _)) (fun j e => (hl, as.map D.adr) ∈ e.1 ∧ ∀ x ∈ e.1, x.2.length ≤ 20 + 100 * i + j) (fun e => e.1) (fun _ => [.d (.rls (ns.map D.int)), .no, .no, .d (planD f s), .at hl, .d (zoneD (He.ga K "Zone") f s), .no, .d (.lst [.int f, .adr a1, .adr a2, .adr a3, .adr a4]), .no, .no, .no, .no, .no, .no, .no, .no]) ⟨_, rfl⟩ ⟨by simp [hm], fun x hx => ?_⟩ rfl ⟨Or.inl rfl, Or.inl rfl, Or.inl rfl, Or.inl rfl, Or.inl rfl, Or.inl rfl, Or.inr rfl, Or.inl rfl, Or.inr rfl, Or.inl rfl, Or.inl rfl, Or.inl rfl, Or.inl rfl, Or.inl rfl, Or.inl rfl, Or.inl rfl, trivial⟩ (fun e => e.2) (fun j d e hd he B' v σ' H' hB st => ?_) (fun e he σ' H' st => ?_)
      · simp only [List.mem_cons] at hx
        rcases hx with rfl | rfl | rfl | rfl | hx
        · exact l19 _
        · exact l19 _
        · show (((s.map (·.2)).map D.int)).length ≤ _
          rw [List.length_map, List.length_map]
          omega
        · show ((offs f s).map pairD).length ≤ _
          rw [List.length_map, offs_len]
          omega
        · exact hN x hx
      · obtain ⟨a, ha4, rfl⟩ : ∃ a ∈ [a4, a3, a2, a1], d = .adr a := by
          have := List.mem_of_getElem? hd
          simp only [List.mem_cons, List.not_mem_nil, or_false] at this
          rcases this with rfl | rfl | rfl | rfl
          · exact ⟨a1, by simp, rfl⟩
          · exact ⟨a2, by simp, rfl⟩
          · exact ⟨a3, by simp, rfl⟩
          · exact ⟨a4, by simp, rfl⟩
        have hv := st.top.adr_inv
        subst hv
        have hj : j < 4 := (List.getElem?_eq_some_iff.1 hd).1
        have st := st.tl.setAt 9 (l := a)
        refine app_step (n := 9) (a := a) (N := 20 + 100 * i + j) st rfl (by rw [e.2]; simp only [List.mem_cons, List.not_mem_nil, or_false] at ha4 ⊢; rcases ha4 with h | h | h | h <;> simp [h]) he.2 (by omega) ev_str fun os' H2 e1 e2 e3 st => ⟨⟨os', e1.trans e.2⟩, ⟨e3 _ he.1 (fun q => ne4 a ha4 q.symm), e2⟩, st.weak ⟨Or.inl rfl, Or.inl rfl, Or.inl rfl, Or.inl rfl, Or.inl rfl, Or.inl rfl, Or.inl rfl, Or.inl rfl, Or.inl rfl, Or.inr rfl, Or.inl rfl, Or.inl rfl, Or.inl rfl, Or.inl rfl, Or.inl rfl, Or.inl rfl, trivial⟩⟩
      · obtain ⟨o, ho⟩ := e
        obtain ⟨hm2, hN2⟩ := he
        refine q_forO (n := 4) (L := hl) (as := as) st rfl (fun j σ H' => ∃ o : Os, o.map (·.1) = a4 :: a3 :: a2 :: a1 :: os.map (·.1) ∧ (hl, as.map D.adr) ∈ o ∧ (∀ x ∈ o, x.2.length ≤ 20 + 100 * i + 4 + j) ∧ Sta K (Hx H []) H [] o [.d (.rls (ns.map D.int)), .no, .no, .d (planD f s), .at hl, .d (zoneD (He.ga K "Zone") f s), .no, .d (.lst [.int f, .adr a1, .adr a2, .adr a3, .adr a4]), .no, .no, .no, .no, .no, .no, .no, .no] [] σ H') ⟨o, ho, hm2, hN2, st⟩ (fun j σ H' q => ?_) (fun j a ha σ8 H8 q => ?_) (fun σ8 H8 q => ?_)
        · obtain ⟨o, _, h2, _, st⟩ := q
          exact own_adrs st h2
        · obtain ⟨o, h1, h2, h3, st⟩ := q
          have hj : j < as.length := (List.getElem?_eq_some_iff.1 ha).1
          have ham := has a (List.mem_of_getElem? ha)
          have st := st.setAt 9 (l := a)
          refine app_step (n := 9) (a := a) (N := 20 + 100 * i + 4 + j) st rfl (by rw [h1]; simp [ham.1]) h3 (by omega) ev_int fun os' H2 e1 e2 e3 st => ⟨os', e1.trans h1, e3 _ h2 (fun q => ham.2 q.symm), e2, st.weak ⟨Or.inl rfl, Or.inl rfl, Or.inl rfl, Or.inl rfl, Or.inl rfl, Or.inl rfl, Or.inl rfl, Or.inl rfl, Or.inl rfl, Or.inr rfl, Or.inl rfl, Or.inl rfl, Or.inl rfl, Or.inl rfl, Or.inl rfl, Or.inl rfl, trivial⟩⟩
        · obtain ⟨o, h1, h2, h3, st⟩ := q
          refine app_new (n := 4) (L := hl) (as := as) (N := 20 + 100 * i + 4 + as.length) st rfl h2 h3 (by omega) (ef_lst (ea_cons ev_str ea_nil) (by simp)) (by show 1 ≤ _; omega) fun p os' H2 e0 e1 e2 e3 st => ⟨os', as ++ [p], e3, fun a ha => ?_, fun x hx => ?_, ?_, st.weak ⟨Or.inl rfl, Or.inl rfl, Or.inl rfl, Or.inl rfl, Or.inl rfl, Or.inl rfl, Or.inl rfl, Or.inr rfl, Or.inl rfl, Or.inl rfl, Or.inl rfl, Or.inl rfl, Or.inl rfl, Or.inl rfl, Or.inl rfl, Or.inl rfl, trivial⟩⟩
          · rw [e1]
            rcases List.mem_append.mp ha with ha | ha
            · have := has a ha
              exact ⟨by rw [h1]; simp [this.1], this.2⟩
            · simp only [List.mem_cons, List.not_mem_nil, or_false] at ha
              subst ha
              refine ⟨List.mem_cons_self, fun q => e0 ?_⟩
              rw [q]
              exact List.mem_map.2 ⟨_, h2, rfl⟩
          · have := e2 x hx
            omega
          · rw [List.length_append]
            show as.length + 1 ≤ _
            omega
    · obtain ⟨os, as, hm, has, hN, hasl, st⟩ := st
      refine q_if st (et_not (et_B (ev_call (R := R_fresh) (ea_cons (ev_sl (n := 3) st.sl rfl) ea_nil) ⟨f, s, rfl, hp, rfl⟩))) (fun hb => by cases hb) (fun _ H14 st => ?_)
      refine q_asg st (Ev.to (EvF.ev (ef_lc (α := Int × Int) (ps := s) (f := fun p => .tup [.int p.1, .int p.2]) (keep := (fun _ => true)) (val := fun a_ => .int a_.1) (up := _) st.sl ((ei_list (ev_ixT (ev_sl (n := 3) st.sl rfl) ev_int rfl)).to rfl) (by omega) (fun a_ ha_ => (tg_two (by decide) (by decide))) (fun a_ ha_ σ_ G_ S_ sl_ => et_yes) (fun a_ ha_ hk_ σ_ G_ S_ sl_ => (ev_sl (n := 13) sl_ rfl)))) (show _ = D.lst ((s.map (·.1)).map D.int) by rw [moms_eq])) fun σ15 H15 st => ?_
      refine q_for (ε := Unit) st (EvI.to (ei_list (EvF.ev (ef_cat (EvF.ev (ef_cat (ev_sl (n := 10) st.sl rfl) (EvF.ev (ef_lc (α := Int) (ps := s.map (·.1)) (f := D.int) (keep := (fun _ => true)) (val := fun a_ => .int (a_ + 1)) (up := _) st.sl (ei_list (ev_sl (n := 10) st.sl rfl)) (by rw [List.length_map]; omega) (fun a_ ha_ => (tg_name (by decide))) (fun a_ ha_ σ_ G_ S_ sl_ => et_yes) (fun a_ ha_ hk_ σ_ G_ S_ sl_ => (ev_add (ev_sl (n := 13) sl_ rfl) ev_int)))) (by rw [filter_all]; simp; omega))) (EvF.ev (ef_lst (ea_cons ev_non (ea_cons ev_bl (ea_cons ev_str (ea_cons (EvF.ev (ef_lst (ea_cons ev_int ea_nil) (by simp))) (ea_cons (ev_tup (ea_cons ev_int (ea_cons ev_int ea_nil)) (by simp)) (ea_cons (ev_pow ev_int ev_int ⟨by decide, by decide, by decide⟩) ea_nil)))))) (by simp))) (by rw [filter_all]; simp; omega)))) (show _ = (s.map (·.1)).map D.int ++ ((s.map (·.1)).map (· + 1)).map D.int ++ oddsD by rw [plus_eq]; rfl)) (fun _ _ => True) (fun _ => os) (fun _ => [.d (.rls (ns.map D.int)), .no, .no, .d (planD f s), .at hl, .d (zoneD (He.ga K "Zone") f s), .no, .no, .no, .no, .d (.lst ((s.map (·.1)).map D.int)), .no, .no, .no, .no, .no]) () trivial rfl (fits.rfl' _) (fun _ => rfl) (fun j d e hd he B' v σ' H' hB st => ?_) (fun e he σ' H' st => ?_)
      · obtain ⟨hx, hgd⟩ := odds_ok (List.mem_of_getElem? hd)
        obtain ⟨n, ty, k1, k2, -, -⟩ := ty_of K hx
        have st := st.setT 11
        refine s_if (b := false) st (EvT.to (et_test (ev_neB (ev_inO (R := R_has (He.ga K "Zone")) (ev_sl (n := 11) st.sl rfl) (ev_sl (n := 5) st.sl rfl) ⟨f, s, d, rfl, hx, rfl⟩) (ev_andV (ev_notV (ev_isi (ev_sl (n := 11) st.sl rfl) ty k2)) (fun _ => ev_inD 1 1 (ev_sl (n := 11) st.sl rfl) (ev_sl (n := 10) st.sl rfl) hgd (good_ints _))))) (by rw [odd_eq d hx]; simp)) (fun hb => by cases hb) (fun _ H2 st => ⟨(), trivial, st.weak ⟨Or.inl rfl, Or.inl rfl, Or.inl rfl, Or.inl rfl, Or.inl rfl, Or.inl rfl, Or.inl rfl, Or.inl rfl, Or.inl rfl, Or.inl rfl, Or.inl rfl, Or.inr rfl, Or.inl rfl, Or.inl rfl, Or.inl rfl, Or.inl rfl, trivial⟩⟩)
      have vw := st.viewO (n := 4) (l := hl) rfl hm (ResA.refl _ _)
      refine q_ifV (b := false) st (EvT.to (et_or (et_test (ev_eqO (R := (R_zeq (He.ga K "Zone"))) (neg := true) (b := true) (ev_sl (n := 5) vw rfl) (ev_call (R := (R_made (He.ga K "Zone"))) (ea_cons (ev_sl (n := 3) vw rfl) ea_nil) ⟨_, _, rfl, hlen, hok, rfl⟩) (.obj T.c_Zone) (nf_self K (He.ga K "Zone")) ⟨_, _, Or.inl ⟨_, _, rfl, by rw [parts_same]⟩⟩)) (fun _ => et_or (et_test (ev_eqO (R := (R_zeq (He.ga K "Zone"))) (neg := true) (b := true) (ev_sl (n := 5) vw rfl) (ev_make (R := R_zone) (gs := zoneF f s) (ea_cons (ev_ixT (ev_sl (n := 3) vw rfl) ev_int rfl) (ea_cons (ev_cb (ea_cons (EvF.ev (ef_call (RF := R_lchg) (ea_cons (ev_sl (n := 3) vw rfl) ea_nil) ⟨_, _, rfl, hlen, rfl⟩)) ea_nil) (rc_tuple (Or.inl rfl))) ea_nil)) (fun _ => .nil) ⟨f, s, pairD, Or.inl rfl, Or.inr rfl, hok, hlen, rfl⟩) (.obj T.c_Zone) (nf_self K (He.ga K "Zone")) ⟨_, _, Or.inl ⟨_, _, rfl, by rw [parts_same]⟩⟩)) (fun _ => et_test (ev_eqO (R := (R_zeq (He.ga K "Zone"))) (neg := false) (b := false) (ev_sl (n := 5) vw rfl) (ev_sl (n := 4) vw rfl) (.lst _) T.nl_Zone ⟨f, s, Or.inr ⟨_, rfl, rfl⟩⟩)))) rfl) (fun hb => by cases hb) (fun _ H16 st => ?_)
      refine q_if (b := false) st (EvT.to (et_test (ev_neD 1 1 (Ev.to (EvF.ev (ef_lc (α := Int × Steps) (ps := othersP f s) (f := fun q => planD q.1 q.2) (keep := fun _ => false) (val := fun q => planD q.1 q.2) (up := fun q Γ => Γ.set 15 (.d (planD q.1 q.2))) st.sl (ei_list (EvF.ev (ef_call (RF := R_others) (ea_cons (ev_sl (n := 3) st.sl rfl) ea_nil) ⟨_, _, rfl, hlen, rfl⟩))) (others_len f s) (fun a_ ha_ => (tg_name (by decide))) (fun a_ ha_ σ_ G_ S_ sl_ => (EvT.to (et_test (ev_eqO (neg := false) (b := (partsD a_.1 a_.2).eq (partsD f s)) (ev_call (R := (R_made (He.ga K "Zone"))) (ea_cons (ev_sl (n := 15) sl_ rfl) ea_nil) ⟨_, _, rfl, (others_ok hok hlen19 a_ ha_).2.1, (others_ok hok hlen19 a_ ha_).1, rfl⟩) (ev_sl (n := 5) sl_ rfl) (.obj T.c_Zone) (nf_self K (He.ga K "Zone")) ⟨_, _, Or.inl ⟨_, _, rfl, rfl⟩⟩)) (parts_ne (others_ok hok hlen19 a_ ha_).2.2))) (fun a_ ha_ hk_ σ_ G_ S_ sl_ => (absurd hk_ (by decide))))) (congrArg D.lst (no_others f s))) (EvF.ev (ef_lst ea_nil (by simp))) good_nil good_nil)) (by simp [D.eq, D.py, pyL, PyData.eqv, PyData.eqvAll])) (fun hb => by cases hb) (fun _ H17 st => ?_)
      cases s with
      | nil =>
        refine q_if (b := false) st (EvT.to (et_and (c := false) (et_test (ev_neD 2 1 (ev_ixT (ev_sl (n := 3) st.sl rfl) ev_int rfl) (EvF.ev (ef_lst ea_nil (by simp))) (good_pairs []) good_nil)) (fun hb => absurd hb (by rw [ne_nil]; decide))) (by rw [ne_nil]; rfl)) (fun hb => by cases hb) (fun _ H18 st => ?_)
        exact s_if (b := false) st (EvT.to (et_or (et_test (ev_eqO (R := (R_zeq (He.ga K "Zone"))) (neg := true) (b := true) (ev_make (R := R_zone) (gs := zoneF f []) (ea_cons (ev_ixT (ev_sl (n := 3) st.sl rfl) ev_int rfl) ea_nil) (fun _ => .cons (T.nil_Zone _) .nil) ⟨f, [], pairD, Or.inl rfl, Or.inr rfl, trivial, by simp, rfl⟩) (ev_make (R := R_zone) (gs := zoneF f []) (ea_cons (ev_ixT (ev_sl (n := 3) st.sl rfl) ev_int rfl) (ea_cons (EvF.ev (ef_lst ea_nil (by simp))) ea_nil)) (fun _ => .nil) ⟨f, [], pairD, Or.inl rfl, Or.inl rfl, trivial, by simp, rfl⟩) (.obj T.c_Zone) (nf_self K (He.ga K "Zone")) ⟨_, _, Or.inl ⟨_, _, rfl, by rw [parts_same]⟩⟩)) (fun _ => et_test (ev_neI (ev_cb (ea_cons (ev_make (R := R_zone) (gs := zoneF f []) (ea_cons (ev_ixT (ev_sl (n := 3) st.sl rfl) ev_int rfl) ea_nil) (fun _ => .cons (T.nil_Zone _) .nil) ⟨f, [], pairD, Or.inl rfl, Or.inr rfl, trivial, by simp, rfl⟩) ea_nil) (rc_lenO (R := R_zlen (He.ga K "Zone")) (n := 0) ⟨f, [], rfl, rfl⟩ (by decide) (by decide))) ev_int))) rfl) (fun hb => by cases hb) (fun _ H20 st => st.forget.weak ⟨Or.inl rfl, Or.inr rfl, Or.inr rfl, Or.inr rfl, Or.inr rfl, Or.inr rfl, Or.inr rfl, Or.inr rfl, Or.inr rfl, Or.inr rfl, Or.inr rfl, Or.inr rfl, Or.inr rfl, Or.inr rfl, Or.inr rfl, Or.inr rfl, trivial⟩)
      | cons p r =>
        obtain ⟨m0, j0⟩ := p
        refine q_if st (et_and (et_test (ev_neD 2 1 (ev_ixT (ev_sl (n := 3) st.sl rfl) ev_int rfl) (EvF.ev (ef_lst ea_nil (by simp))) (good_pairs _) good_nil)) (fun _ => et_and (et_test (ev_notInD 0 1 (ev_ixT (ev_ixL (d := .tup [.int m0, .int j0]) (ev_ixT (ev_sl (n := 3) st.sl rfl) ev_int rfl) ev_int (atI_zero _ _)) ev_int rfl) (EvF.ev (ef_lst (ea_cons ev_int (ea_cons ev_int ea_nil)) (by simp))) (by unfold good; trivial) (good_ints [1, 720]))) (fun _ => et_and (et_test (ev_lt (ev_cb (ea_cons (ev_ixT (ev_ixL (d := .tup [.int m0, .int j0]) (ev_ixT (ev_sl (n := 3) st.sl rfl) ev_int rfl) ev_int (atI_zero _ _)) ev_int rfl) ea_nil) rc_abs) ev_int)) (fun _ => et_test (ev_eqI (ev_cb (ea_cons (ev_ixT (ev_sl (n := 3) st.sl rfl) ev_int rfl) ea_nil) rc_lenL) ev_int))))) (fun hb H18 st => ?_) (fun _ H18 st => ?_)
        · simp only [Bool.and_eq_true, decide_eq_true_eq, Bool.not_eq_true'] at hb
          obtain ⟨_, hb1, hb2, hb3⟩ := hb
          have hr0 : r = [] := by
            rw [List.length_map, List.length_cons] at hb3
            exact List.eq_nil_of_length_eq_zero (by omega)
          subst hr0
          have hj1 : j0 ≠ 1 := fun q => by
            subst q
            exact absurd hb1 (by decide +kernel)
          have hj : jok (j0 - 1) := by
            unfold jok
            refine ⟨by omega, by omega, by omega⟩
          have eo : (offs f [(m0, j0)]).map pairD = (offs (f + 1) [(m0, j0 - 1)]).map pairD := by
            have e : f + j0 = f + 1 + (j0 - 1) := by omega
            simp [offs, e]
          refine s_if (b := false) st (EvT.to (et_test (ev_eqO (R := (R_zeq (He.ga K "Zone"))) (neg := false) (b := (partsD (f + 1) [(m0, j0 - 1)]).eq (partsD f [(m0, j0)])) (ev_make (R := R_zone) (gs := zoneF (f + 1) [(m0, j0 - 1)]) (ea_cons (ev_add (ev_ixT (ev_sl (n := 3) st.sl rfl) ev_int rfl) ev_int) (ea_cons (EvF.ev (ef_call (RF := R_lchg) (ea_cons (ev_sl (n := 3) st.sl rfl) ea_nil) ⟨_, _, rfl, hlen, rfl⟩)) ea_nil)) (fun _ => .nil) ⟨f + 1, [(m0, j0 - 1)], pairD, Or.inl rfl, Or.inl (by rw [eo]; rfl), hj, by simp, rfl⟩) (ev_sl (n := 5) st.sl rfl) (.obj T.c_Zone) (nf_self K (He.ga K "Zone")) ⟨_, _, Or.inl ⟨_, _, rfl, rfl⟩⟩)) (parts_ne (fun q => by have := q.1; omega))) (fun hb => by cases hb) (fun _ H19 st => ?_)
          exact s_if (b := false) st (EvT.to (et_or (et_test (ev_eqO (R := (R_zeq (He.ga K "Zone"))) (neg := true) (b := true) (ev_make (R := R_zone) (gs := zoneF f []) (ea_cons (ev_ixT (ev_sl (n := 3) st.sl rfl) ev_int rfl) ea_nil) (fun _ => .cons (T.nil_Zone _) .nil) ⟨f, [], pairD, Or.inl rfl, Or.inr rfl, trivial, by simp, rfl⟩) (ev_make (R := R_zone) (gs := zoneF f []) (ea_cons (ev_ixT (ev_sl (n := 3) st.sl rfl) ev_int rfl) (ea_cons (EvF.ev (ef_lst ea_nil (by simp))) ea_nil)) (fun _ => .nil) ⟨f, [], pairD, Or.inl rfl, Or.inl rfl, trivial, by simp, rfl⟩) (.obj T.c_Zone) (nf_self K (He.ga K "Zone")) ⟨_, _, Or.inl ⟨_, _, rfl, by rw [parts_same]⟩⟩)) (fun _ => et_test (ev_neI (ev_cb (ea_cons (ev_make (R := R_zone) (gs := zoneF f []) (ea_cons (ev_ixT (ev_sl (n := 3) st.sl rfl) ev_int rfl) ea_nil) (fun _ => .cons (T.nil_Zone _) .nil) ⟨f, [], pairD, Or.inl rfl, Or.inr rfl, trivial, by simp, rfl⟩) ea_nil) (rc_lenO (R := R_zlen (He.ga K "Zone")) (n := 0) ⟨f, [], rfl, rfl⟩ (by decide) (by decide))) ev_int))) rfl) (fun hb => by cases hb) (fun _ H20 st => st.forget.weak ⟨Or.inl rfl, Or.inr rfl, Or.inr rfl, Or.inr rfl, Or.inr rfl, Or.inr rfl, Or.inr rfl, Or.inr rfl, Or.inr rfl, Or.inr rfl, Or.inr rfl, Or.inr rfl, Or.inr rfl, Or.inr rfl, Or.inr rfl, Or.inr rfl, trivial⟩)
        · exact s_if (b := false) st (EvT.to (et_or (et_test (ev_eqO (R := (R_zeq (He.ga K "Zone"))) (neg := true) (b := true) (ev_make (R := R_zone) (gs := zoneF f []) (ea_cons (ev_ixT (ev_sl (n := 3) st.sl rfl) ev_int rfl) ea_nil) (fun _ => .cons (T.nil_Zone _) .nil) ⟨f, [], pairD, Or.inl rfl, Or.inr rfl, trivial, by simp, rfl⟩) (ev_make (R := R_zone) (gs := zoneF f []) (ea_cons (ev_ixT (ev_sl (n := 3) st.sl rfl) ev_int rfl) (ea_cons (EvF.ev (ef_lst ea_nil (by simp))) ea_nil)) (fun _ => .nil) ⟨f, [], pairD, Or.inl rfl, Or.inl rfl, trivial, by simp, rfl⟩) (.obj T.c_Zone) (nf_self K (He.ga K "Zone")) ⟨_, _, Or.inl ⟨_, _, rfl, by rw [parts_same]⟩⟩)) (fun _ => et_test (ev_neI (ev_cb (ea_cons (ev_make (R := R_zone) (gs := zoneF f []) (ea_cons (ev_ixT (ev_sl (n := 3) st.sl rfl) ev_int rfl) ea_nil) (fun _ => .cons (T.nil_Zone _) .nil) ⟨f, [], pairD, Or.inl rfl, Or.inr rfl, trivial, by simp, rfl⟩) ea_nil) (rc_lenO (R := R_zlen (He.ga K "Zone")) (n := 0) ⟨f, [], rfl, rfl⟩ (by decide) (by decide))) ev_int))) rfl) (fun hb => by cases hb) (fun _ H20 st => st.forget.weak ⟨Or.inl rfl, Or.inr rfl, Or.inr rfl, Or.inr rfl, Or.inr rfl, Or.inr rfl, Or.inr rfl, Or.inr rfl, Or.inr rfl, Or.inr rfl, Or.inr rfl, Or.inr rfl, Or.inr rfl, Or.inr rfl, Or.inr rfl, Or.inr rfl, trivial⟩)
end
end K4


set_option Elab.async false
set_option linter.all false
set_option maxRecDepth 100000
set_option maxHeartbeats 0
namespace K4
open PySem PySem.Spec PyProof.Rows L2 Z Zn
def hdFa : List He.Fa := [.free "abs", .free "bool", .free "int", .free "isinstance", .free "len", .free "list", .free "max", .free "min", .free "range", .free "repr", .free "sum", .free "tuple", .free "zip", .int "GREATEST_JUMP" 720, .cls "Zone", .glo "Zone", .mkr "Zone", .noat "Zone" "own_first", .noat "Zone" "own_jumps", .noat "Zone" "own_moments", .noat "Zone" "own_offsets", .glo "is_whole", .glo "is_list", .glo "need_integer", .glo "is_pair", .meth "Zone" "takes", .meth "Zone" "changes", .meth "Zone" "jump_list", .meth "Zone" "__len__", .meth "Zone" "__contains__", .meth "Zone" "parts", .meth "Zone" "__eq__", .meth "Zone" "spans", .meth "Zone" "gaps", .meth "Zone" "folds", .glo "_law_cell", .glo "_law_bag", .glo "_law_take", .glo "_law_zone", .glo "_law_changes", .glo "_law_made", .glo "_law_spans", .glo "_law_others", .glo "_law_fresh_right", .glo "law"]
def D0 : DefX := ⟨fun K => He.ga K "is_whole", "is_whole", "is_whole", defArgs (top 7), defBody (top 7), defScope (top 7), []⟩
def D1 : DefX := ⟨fun K => He.ga K "is_list", "is_list", "is_list", defArgs (top 8), defBody (top 8), defScope (top 8), []⟩
def D2 : DefX := ⟨fun K => He.ga K "need_integer", "need_integer", "need_integer", defArgs (top 9), defBody (top 9), defScope (top 9), []⟩
def D3 : DefX := ⟨fun K => He.ga K "is_pair", "is_pair", "is_pair", defArgs (top 12), defBody (top 12), defScope (top 12), []⟩
def D4 : DefX := ⟨fun K => He.ma K (He.ga K "Zone") "takes", "takes", "Zone.takes", defArgs (inClass (top 13) 1), defBody (inClass (top 13) 1), defScope (inClass (top 13) 1), []⟩
def D5 : DefX := ⟨fun K => He.ma K (He.ga K "Zone") "__init__", "__init__", "Zone.__init__", defArgs (inClass (top 13) 0), defBody (inClass (top 13) 0), defScope (inClass (top 13) 0), [.adr (He.dflAt ("Zone", some "__init__") 0)]⟩
def D6 : DefX := ⟨fun K => getA K "Zone" "first", "first", "Zone.first", defArgs (inClass (top 13) 2), defBody (inClass (top 13) 2), defScope (inClass (top 13) 2), []⟩
def D7 : DefX := ⟨fun K => He.ma K (He.ga K "Zone") "changes", "changes", "Zone.changes", defArgs (inClass (top 13) 3), defBody (inClass (top 13) 3), defScope (inClass (top 13) 3), []⟩
def D8 : DefX := ⟨fun K => He.ma K (He.ga K "Zone") "jump_list", "jump_list", "Zone.jump_list", defArgs (inClass (top 13) 4), defBody (inClass (top 13) 4), defScope (inClass (top 13) 4), []⟩
def D9 : DefX := ⟨fun K => He.ma K (He.ga K "Zone") "__len__", "__len__", "Zone.__len__", defArgs (inClass (top 13) 5), defBody (inClass (top 13) 5), defScope (inClass (top 13) 5), []⟩
def D10 : DefX := ⟨fun K => He.ma K (He.ga K "Zone") "__contains__", "__contains__", "Zone.__contains__", defArgs (inClass (top 13) 6), defBody (inClass (top 13) 6), defScope (inClass (top 13) 6), []⟩
def D11 : DefX := ⟨fun K => He.ma K (He.ga K "Zone") "parts", "parts", "Zone.parts", defArgs (inClass (top 13) 8), defBody (inClass (top 13) 8), defScope (inClass (top 13) 8), []⟩
def D12 : DefX := ⟨fun K => He.ma K (He.ga K "Zone") "__eq__", "__eq__", "Zone.__eq__", defArgs (inClass (top 13) 7), defBody (inClass (top 13) 7), defScope (inClass (top 13) 7), []⟩
def D13 : DefX := ⟨fun K => He.ma K (He.ga K "Zone") "spans", "spans", "Zone.spans", defArgs (inClass (top 13) 12), defBody (inClass (top 13) 12), defScope (inClass (top 13) 12), []⟩
def D14 : DefX := ⟨fun K => He.ma K (He.ga K "Zone") "gaps", "gaps", "Zone.gaps", defArgs (inClass (top 13) 17), defBody (inClass (top 13) 17), defScope (inClass (top 13) 17), []⟩
def D15 : DefX := ⟨fun K => He.ma K (He.ga K "Zone") "folds", "folds", "Zone.folds", defArgs (inClass (top 13) 18), defBody (inClass (top 13) 18), defScope (inClass (top 13) 18), []⟩
def D16 : DefX := ⟨fun K => He.ga K "_law_cell", "_law_cell", "_law_cell", defArgs (top 15), defBody (top 15), defScope (top 15), []⟩
def D17 : DefX := ⟨fun K => He.ga K "_law_bag", "_law_bag", "_law_bag", defArgs (top 16), defBody (top 16), defScope (top 16), []⟩
def D18 : DefX := ⟨fun K => He.ga K "_law_take", "_law_take", "_law_take", defArgs (top 17), defBody (top 17), defScope (top 17), []⟩
def D19 : DefX := ⟨fun K => He.ga K "_law_zone", "_law_zone", "_law_zone", defArgs (top 18), defBody (top 18), defScope (top 18), []⟩
def D20 : DefX := ⟨fun K => He.ga K "_law_changes", "_law_changes", "_law_changes", defArgs (top 19), defBody (top 19), defScope (top 19), []⟩
def D21 : DefX := ⟨fun K => He.ga K "_law_made", "_law_made", "_law_made", defArgs (top 20), defBody (top 20), defScope (top 20), []⟩
def D22 : DefX := ⟨fun K => He.ga K "_law_spans", "_law_spans", "_law_spans", defArgs (top 21), defBody (top 21), defScope (top 21), []⟩
def D23 : DefX := ⟨fun K => He.ga K "_law_others", "_law_others", "_law_others", defArgs (top 22), defBody (top 22), defScope (top 22), []⟩
def D24 : DefX := ⟨fun K => He.ga K "_law_fresh_right", "_law_fresh_right", "_law_fresh_right", defArgs (top 23), defBody (top 23), defScope (top 23), []⟩
def D25 : DefX := ⟨fun K => He.ga K "law", "law", "law", defArgs (top 24), defBody (top 24), defScope (top 24), []⟩
def hdFn : List DefX := [D0, D1, D2, D3, D4, D5, D6, D7, D8, D9, D10, D11, D12, D13, D14, D15, D16, D17, D18, D19, D20, D21, D22, D23, D24, D25]
def hdEx (K : PySem.W.Frag) : Bool := (oclB K (He.ga K "Zone")) && ((He.eqO (PySem.W.findIn K (.ref (He.ga K "Zone")) "__ne__") (some (some (.builtin "object.__ne__")))) && ((propB K "Zone" "first") && ((nilTB K (He.dflAt ("Zone", some "__init__") 0 K)) && ((decide (PySem.W.kitOne K (.type "list") (.ref (He.ga K "Zone")) = some false)) && (PySem.W.notFirst K (He.ga K "Zone") (.type "list"))))))
abbrev R : PySem.W.OpenRow := PySem.W.OpenLaw.row PySem.Challenge.rw_everyzone_k04_zones_made
abbrev hk : PySem.W.Hook := hookX 5 hdFa hdFn hdEx
def ob (s : PySem.W.SharedT) : AlX := obsXG 5 hdFa hdFn hdEx (HandSHeadRun.getT s)
theorem ob_eq (s : PySem.W.SharedT) : ob s = hk.obs s.abs := obsXG_eq (HandSHeadRun.getT_eq s)
theorem run (w : World) : HandSHeadRun.RunEq R (PySem.W.view R.prog [24]) hk ob 4000 ["_wall", "TimeError", "InvalidPart", "InvalidInteger", "InvalidChange", "is_whole", "is_list", "need_integer", "GREATEST_JUMP", "is_pair", "Zone", "_law_cell", "_law_bag", "_law_take", "_law_zone", "_law_changes", "_law_made", "_law_spans", "_law_others", "_law_fresh_right"] w := by
  intro os
  kernel_rfl
theorem tx_of {K : PySem.W.Frag} {h : Heap} {mg : Str → Option Value} (X : K.In h) (G : h.Ns mainGlobals mg) (c : SaysX hdFa hdFn hdEx K) : Tx K mg := by
  have hx := c.all.1
  unfold hdEx at hx
  simp only [Bool.and_eq_true] at hx
  obtain ⟨e0, e1, e2, e3, e4, e5⟩ := hx
  exact ⟨He.free_ok X G (c.fact 0 (f := .free "abs") rfl),
    He.free_ok X G (c.fact 1 (f := .free "bool") rfl),
    He.free_ok X G (c.fact 2 (f := .free "int") rfl),
    He.free_ok X G (c.fact 3 (f := .free "isinstance") rfl),
    He.free_ok X G (c.fact 4 (f := .free "len") rfl),
    He.free_ok X G (c.fact 5 (f := .free "list") rfl),
    He.free_ok X G (c.fact 6 (f := .free "max") rfl),
    He.free_ok X G (c.fact 7 (f := .free "min") rfl),
    He.free_ok X G (c.fact 8 (f := .free "range") rfl),
    He.free_ok X G (c.fact 9 (f := .free "repr") rfl),
    He.free_ok X G (c.fact 10 (f := .free "sum") rfl),
    He.free_ok X G (c.fact 11 (f := .free "tuple") rfl),
    He.free_ok X G (c.fact 12 (f := .free "zip") rfl),
    He.int_ok X G (c.fact 13 (f := .int "GREATEST_JUMP" 720) rfl),
    oclB_ok (He.cls_ok (c.fact 14 (f := .cls "Zone") rfl)) e0,
    He.glo_ok X G (c.fact 15 (f := .glo "Zone") rfl),
    He.mkr_ok (c.fact 16 (f := .mkr "Zone") rfl),
    He.eqO_ok e1,
    He.noat_ok (c.fact 17 (f := .noat "Zone" "own_first") rfl),
    He.noat_ok (c.fact 18 (f := .noat "Zone" "own_jumps") rfl),
    He.noat_ok (c.fact 19 (f := .noat "Zone" "own_moments") rfl),
    He.noat_ok (c.fact 20 (f := .noat "Zone" "own_offsets") rfl),
    propB_ok e2,
    c.def_ 0 (d := D0) rfl,
    He.glo_ok X G (c.fact 21 (f := .glo "is_whole") rfl),
    c.def_ 1 (d := D1) rfl,
    He.glo_ok X G (c.fact 22 (f := .glo "is_list") rfl),
    c.def_ 2 (d := D2) rfl,
    He.glo_ok X G (c.fact 23 (f := .glo "need_integer") rfl),
    c.def_ 3 (d := D3) rfl,
    He.glo_ok X G (c.fact 24 (f := .glo "is_pair") rfl),
    c.def_ 4 (d := D4) rfl,
    He.meth_ok (c.fact 25 (f := .meth "Zone" "takes") rfl),
    c.def_ 5 (d := D5) rfl,
    c.def_ 6 (d := D6) rfl,
    c.def_ 7 (d := D7) rfl,
    He.meth_ok (c.fact 26 (f := .meth "Zone" "changes") rfl),
    c.def_ 8 (d := D8) rfl,
    He.meth_ok (c.fact 27 (f := .meth "Zone" "jump_list") rfl),
    c.def_ 9 (d := D9) rfl,
    He.meth_ok (c.fact 28 (f := .meth "Zone" "__len__") rfl),
    c.def_ 10 (d := D10) rfl,
    He.meth_ok (c.fact 29 (f := .meth "Zone" "__contains__") rfl),
    c.def_ 11 (d := D11) rfl,
    He.meth_ok (c.fact 30 (f := .meth "Zone" "parts") rfl),
    c.def_ 12 (d := D12) rfl,
    He.meth_ok (c.fact 31 (f := .meth "Zone" "__eq__") rfl),
    c.def_ 13 (d := D13) rfl,
    He.meth_ok (c.fact 32 (f := .meth "Zone" "spans") rfl),
    c.def_ 14 (d := D14) rfl,
    He.meth_ok (c.fact 33 (f := .meth "Zone" "gaps") rfl),
    c.def_ 15 (d := D15) rfl,
    He.meth_ok (c.fact 34 (f := .meth "Zone" "folds") rfl),
    c.def_ 16 (d := D16) rfl,
    He.glo_ok X G (c.fact 35 (f := .glo "_law_cell") rfl),
    c.def_ 17 (d := D17) rfl,
    He.glo_ok X G (c.fact 36 (f := .glo "_law_bag") rfl),
    c.def_ 18 (d := D18) rfl,
    He.glo_ok X G (c.fact 37 (f := .glo "_law_take") rfl),
    c.def_ 19 (d := D19) rfl,
    He.glo_ok X G (c.fact 38 (f := .glo "_law_zone") rfl),
    c.def_ 20 (d := D20) rfl,
    He.glo_ok X G (c.fact 39 (f := .glo "_law_changes") rfl),
    c.def_ 21 (d := D21) rfl,
    He.glo_ok X G (c.fact 40 (f := .glo "_law_made") rfl),
    c.def_ 22 (d := D22) rfl,
    He.glo_ok X G (c.fact 41 (f := .glo "_law_spans") rfl),
    c.def_ 23 (d := D23) rfl,
    He.glo_ok X G (c.fact 42 (f := .glo "_law_others") rfl),
    c.def_ 24 (d := D24) rfl,
    He.glo_ok X G (c.fact 43 (f := .glo "_law_fresh_right") rfl),
    c.def_ 25 (d := D25) rfl,
    He.glo_ok X G (c.fact 44 (f := .glo "law") rfl),
    fun H => nilTB_ok e3 H,
    of_decide_eq_true e4,
    e5⟩
end K4
open PySem PySem.W PySem.Calls PyProof.Rows
theorem PySem.Challenge.cw_everyzone_k04_zones_made_holds : PySem.Challenge.rw_everyzone_k04_zones_made.Holds := by
  w_on; o_law
  refine HandSHeadRun.head_any (r := OpenLaw.row PySem.Challenge.rw_everyzone_k04_zones_made) (q := view (OpenLaw.row PySem.Challenge.rw_everyzone_k04_zones_made).prog [24]) (H := K4.hk) (ob := K4.ob) (M := 4000) (loose := ["_wall", "TimeError", "InvalidPart", "InvalidInteger", "InvalidChange", "is_whole", "is_list", "need_integer", "GREATEST_JUMP", "is_pair", "Zone", "_law_cell", "_law_bag", "_law_take", "_law_zone", "_law_changes", "_law_made", "_law_spans", "_law_others", "_law_fresh_right"]) (d := HandSHeadRun.topDef (OpenLaw.row PySem.Challenge.rw_everyzone_k04_zones_made).prog 24) (kwd := []) K4.ob_eq
    (by kernel_rfl) (fun s => by kernel_rfl) K4.run (by kernel_rfl) (by kernel_rfl) (by kernel_rfl) (by rfl) (by first | assumption | decide +kernel) (by decide +kernel) ⟨rfl, rfl, rfl, rfl, rfl, by decide +kernel⟩ ?hw ?hc
  case hw => w_witness2
  case hc =>
    refine Z.walkG (l := PySem.Challenge.rw_everyzone_k04_zones_made) (n := 63) (k := 7) (x := "_law_script") rfl (by decide) (by kernel_rfl) ⟨rfl, by decide, by decide⟩ ?F
    intro w mg fa h Y G hmg0
    obtain ⟨K, KX, c⟩ := Y
    have T := K4.tx_of KX G c
    have hmg : mg ("law" : PySem.Str) = some (.ref fa) := by
      have e : (HandSHeadRun.topDef (OpenLaw.row PySem.Challenge.rw_everyzone_k04_zones_made).prog 24).name = ("law" : PySem.Str) := by kernel_rfl
      rw [← e]
      exact hmg0
    have e := hmg.symm.trans T.m_law
    cases e
    obtain ⟨fd, F⟩ := T.d_law
    have b := L2.FunD.bindsA (ps := ["_law_script"]) F fun _ _ _ _ _ _ us hl => match us, hl with | [_], _ => rfl
    exact ⟨K, fd, K4.spLaw K, KX, fun s v => b s [v] rfl, fun H a ns hl _ hS => ⟨a, ns, rfl, hS, fun _ => rfl⟩, fun base _ _ => K4.fn_law T F⟩


