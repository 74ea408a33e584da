import PyProof.Rows.All
import Wide.All
import OpenK.AllK
import Wide.FinOn
import KE.KStateDown
import HandS.ForMost
import HandS.Wide
import HandS.Gcd
import HandS.Style
import HandS.Zip
import HandS.IsInst
import HandS.NoneIn
import HandS.Defaults
import HandS.Head0
import HandS.Head1
import HandS.Head2
import HandS.Head3
import HandS.HeadEnd
import HandS.HeadHook1
import HandS.HeadHook2
import HandS.HeadHook3
import HandS.HeadHook4
import PySem.PyData
import KE.GoesMore
import KE.GoesEnum
import PyProof.Draws
import HandS.TupSets
import PySem.Challenge.RW_hullrests_k81_whole_least_and_greatest_b
set_option Elab.async false
set_option linter.all false
set_option maxRecDepth 100000
set_option maxHeartbeats 4000000
namespace Hull
open PySem PySem.Spec PyProof.Rows L2

/-! what a value stands for -/
abbrev Frag := PySem.W.Frag
abbrev Ap := Addr → Prop
def Sub (H H' : Hp) : Prop := ∀ a o, H a = some o → H' a = some o
theorem Sub.refl (H : Hp) : Sub H H := fun _ _ h => h
theorem Sub.trans {H H1 H2 : Hp} (p : Sub H H1) (q : Sub H1 H2) : Sub H H2 := fun a o h => q a o (p a o h)
theorem Sub.new {H : Hp} {p : Addr} {o : HO} (h : H p = none) : Sub H (upd H p o) := fun a u e => by
  rw [upd_ne (ne_of_none e h)]
  exact e
open Classical in
noncomputable def hide (X : Ap) (H : Hp) : Hp := fun a => if X a then none else H a
theorem hide_sub {X : Ap} {H : Hp} : Sub (hide X H) H := fun a o h => by
  unfold hide at h
  split at h
  · cases h
  · exact h
theorem hide_mono {X : Ap} {H H' : Hp} (k : ∀ a o, ¬ X a → H a = some o → H' a = some o) : Sub (hide X H) (hide X H') := fun a o h => by
  unfold hide at h ⊢
  split at h
  · cases h
  · rename_i hx
    rw [if_neg hx]
    exact k a o hx h
theorem hide_less {X Y : Ap} {H : Hp} (k : ∀ a, Y a → X a) : Sub (hide X H) (hide Y H) := fun a o h => by
  unfold hide at h ⊢
  split at h
  · cases h
  · rename_i hx
    rw [if_neg fun y => hx (k a y)]
    exact h
theorem hide_at {X : Ap} {H : Hp} {a : Addr} {o : HO} (hx : ¬ X a) (h : H a = some o) : hide X H a = some o := by
  unfold hide
  rw [if_neg hx]
  exact h
theorem Sub.sqL {K : Frag} {H H' : Hp} {a : Addr} {xs : List V} (s : Sub H H') (h : SqL K H a xs) : SqL K H' a xs := by
  rcases h with (h | ⟨o, h⟩) | h
  · exact .inl (.inl (s _ _ h))
  · exact .inl (.inr ⟨o, s _ _ h⟩)
  · exact .inr h
theorem Sub.sqT {K : Frag} {H H' : Hp} {a : Addr} {xs : List V} (s : Sub H H') (h : SqT K H a xs) : SqT K H' a xs := by
  rcases h with (h | ⟨o, h⟩) | h
  · exact .inl (.inl (s _ _ h))
  · exact .inl (.inr ⟨o, s _ _ h⟩)
  · exact .inr h
mutual
inductive Rp (K : Frag) (H : Hp) : V → PyData → Prop
  | non : Rp K H .non .none
  | bl (b : Bool) : Rp K H (.bl b) (.bool b)
  | int (i : Int) : Rp K H (.int i) (.int i)
  | str (x : Str) : Rp K H (.str x) (.str x)
  | lst {a : Addr} {xs : List V} {ds : List PyData} : H a = some (.lst xs) → RpA K H xs ds → Rp K H (.ref a) (.list ds)
  | tup {a : Addr} {xs : List V} {ds : List PyData} : SqT K H a xs → RpA K H xs ds → Rp K H (.ref a) (.tuple ds)
inductive RpA (K : Frag) (H : Hp) : List V → List PyData → Prop
  | nil : RpA K H [] []
  | cons {v : V} {vs : List V} {d : PyData} {ds : List PyData} : Rp K H v d → RpA K H vs ds → RpA K H (v :: vs) (d :: ds)
end
section
variable {K : Frag} {H H' : Hp}
mutual
theorem Rp.mono (s : Sub H H') : ∀ (d : PyData) (v : V), Rp K H v d → Rp K H' v d
  | .none, _, h => by cases h; exact .non
  | .bool b, _, h => by cases h; exact .bl b
  | .int i, _, h => by cases h; exact .int i
  | .str x, _, h => by cases h; exact .str x
  | .list ds, _, h => by
    cases h with
    | lst h1 h2 => exact .lst (s _ _ h1) (RpA.mono s ds _ h2)
  | .tuple ds, _, h => by
    cases h with
    | tup h1 h2 => exact .tup (s.sqT h1) (RpA.mono s ds _ h2)
  | .dict _, _, h => by cases h
theorem RpA.mono (s : Sub H H') : ∀ (ds : List PyData) (vs : List V), RpA K H vs ds → RpA K H' vs ds
  | [], _, h => by cases h; exact .nil
  | d :: ds, _, h => by
    cases h with
    | cons h1 h2 => exact .cons (Rp.mono s d _ h1) (RpA.mono s ds _ h2)
end
mutual
theorem Rp.dp : ∀ (d : PyData) (v : V), Rp K H v d → Dp K H v d
  | .none, _, h => by cases h; exact .non
  | .bool b, _, h => by cases h; exact .bl b
  | .int i, _, h => by cases h; exact .int i
  | .str x, _, h => by cases h; exact .str x
  | .list ds, _, h => by
    cases h with
    | lst h1 h2 => exact .lst (SqL.of h1) (RpA.dp ds _ h2)
  | .tuple ds, _, h => by
    cases h with
    | tup h1 h2 => exact .tup h1 (RpA.dp ds _ h2)
  | .dict _, _, h => by cases h
theorem RpA.dp : ∀ (ds : List PyData) (vs : List V), RpA K H vs ds → DpAll K H vs ds
  | [], _, h => by cases h; exact .nil
  | d :: ds, _, h => by
    cases h with
    | cons h1 h2 => exact .cons (Rp.dp d _ h1) (RpA.dp ds _ h2)
end
theorem RpA.len : ∀ {ds : List PyData} {vs : List V}, RpA K H vs ds → vs.length = ds.length
  | [], _, h => by cases h; rfl
  | d :: ds, _, h => by
    cases h with
    | cons _ h2 => simp only [List.length_cons, RpA.len h2]
theorem RpA.get : ∀ {ds : List PyData} {vs : List V} {i : Nat} {d : PyData}, RpA K H vs ds → ds[i]? = some d → ∃ v, vs[i]? = some v ∧ Rp K H v d
  | [], _, _, _, _, e => by simp at e
  | d :: ds, _, i, d', h, e => by
    cases h with
    | cons h1 h2 =>
      cases i with
      | zero => simp at e; subst e; exact ⟨_, rfl, h1⟩
      | succ i =>
        obtain ⟨v, a, b⟩ := RpA.get h2 (i := i) (by simpa using e)
        exact ⟨v, by simpa using a, b⟩
theorem RpA.getV : ∀ {ds : List PyData} {vs : List V} {i : Nat} {v : V}, RpA K H vs ds → vs[i]? = some v → ∃ d, ds[i]? = some d ∧ Rp K H v d
  | [], _, _, _, h, e => by cases h; simp at e
  | d :: ds, _, i, v', h, e => by
    cases h with
    | cons h1 h2 =>
      cases i with
      | zero => simp at e; subst e; exact ⟨_, rfl, h1⟩
      | succ i =>
        obtain ⟨v, a, b⟩ := RpA.getV h2 (i := i) (by simpa using e)
        exact ⟨v, by simpa using a, b⟩
theorem RpA.app : ∀ {ds ds' : List PyData} {vs vs' : List V}, RpA K H vs ds → RpA K H vs' ds' → RpA K H (vs ++ vs') (ds ++ ds')
  | [], _, _, _, h, h' => by cases h; exact h'
  | d :: ds, _, _, _, h, h' => by
    cases h with
    | cons h1 h2 => exact .cons h1 (RpA.app h2 h')
theorem RpA.take : ∀ {ds : List PyData} {vs : List V} (n : Nat), RpA K H vs ds → RpA K H (vs.take n) (ds.take n)
  | _, _, 0, _ => by rw [List.take_zero, List.take_zero]; exact .nil
  | [], _, n + 1, h => by cases h; exact .nil
  | d :: ds, _, n + 1, h => by
    cases h with
    | cons h1 h2 => exact .cons h1 (RpA.take n h2)
theorem RpA.drop : ∀ {ds : List PyData} {vs : List V} (n : Nat), RpA K H vs ds → RpA K H (vs.drop n) (ds.drop n)
  | _, _, 0, h => h
  | [], _, n + 1, h => by cases h; exact .nil
  | d :: ds, _, n + 1, h => by
    cases h with
    | cons h1 h2 => exact RpA.drop n h2
theorem RpA.rev : ∀ {ds : List PyData} {vs : List V}, RpA K H vs ds → RpA K H vs.reverse ds.reverse
  | [], _, h => by cases h; exact .nil
  | d :: ds, _, h => by
    cases h with
    | cons h1 h2 =>
      rw [List.reverse_cons, List.reverse_cons]
      exact (RpA.rev h2).app (.cons h1 .nil)
theorem RpA.dropLast {ds : List PyData} {vs : List V} (h : RpA K H vs ds) : RpA K H vs.dropLast ds.dropLast := by
  rw [List.dropLast_eq_take, List.dropLast_eq_take, h.len]
  exact h.take _
theorem RpA.ints : ∀ {ns : List Int} {vs : List V}, RpA K H vs (ns.map .int) → vs = ns.map V.int
  | [], _, h => by cases h; rfl
  | n :: ns, _, h => by
    cases h with
    | cons h1 h2 => cases h1; rw [RpA.ints h2]; rfl
theorem RpA.bls : ∀ {ns : List Bool} {vs : List V}, RpA K H vs (ns.map .bool) → vs = ns.map V.bl
  | [], _, h => by cases h; rfl
  | n :: ns, _, h => by
    cases h with
    | cons h1 h2 => cases h1; rw [RpA.bls h2]; rfl
theorem RpA.zip : ∀ {ds : List PyData} {vs : List V}, vs.length = ds.length → (∀ p ∈ vs.zip ds, Rp K H p.1 p.2) → RpA K H vs ds
  | [], [], _, _ => .nil
  | [], _ :: _, h, _ => by simp at h
  | _ :: _, [], h, _ => by simp at h
  | d :: ds, v :: vs, h, k => .cons (k (v, d) (by simp)) (RpA.zip (by simpa using h) fun p hp => k p (by simp [hp]))
theorem RpA.mem : ∀ {ds : List PyData} {vs : List V}, RpA K H vs ds → ∀ p ∈ vs.zip ds, Rp K H p.1 p.2
  | [], _, h, p, hp => by cases h; simp at hp
  | d :: ds, _, h, p, hp => by
    cases h with
    | cons h1 h2 =>
      rw [List.zip_cons_cons, List.mem_cons] at hp
      rcases hp with rfl | hp
      · exact h1
      · exact RpA.mem h2 p hp
end

/-! the state: names, temporaries, what may change -/
inductive EK where
  | any
  | imm (d : PyData)
  | lis (ds : List PyData)
  | tub (a b c : Int)
  | scr (ns : List Int)
def EK.isLis : EK → Bool
  | .lis _ => true
  | _ => false
def EK.isTub : EK → Bool
  | .tub _ _ _ => true
  | _ => false
def tubL (a b c : Int) : HO := .lst [.int a, .int b, .int c]
def SlotOk (K : Frag) (M X0 X : Ap) (H : Hp) (o : Option (Option V)) : EK → Prop
  | .any => True
  | .imm d => ∃ v, o = some (some v) ∧ Rp K (hide X H) v d
  | .lis ds => ∃ l xs, o = some (some (.ref l)) ∧ X l ∧ ¬ X0 l ∧ ¬ M l ∧ H l = some (.lst xs) ∧ RpA K (hide X H) xs ds
  | .tub a b c => ∃ T, o = some (some (.ref T)) ∧ M T ∧ (∀ x, M x → x = T) ∧ H T = some (tubL a b c)
  | .scr ns => ∃ a, o = some (some (.ref a)) ∧ SqL K (hide X H) a (ns.map V.int)
structure Gd (K : Frag) (H0 : Hp) (M X0 X : Ap) (ps : List (V × PyData)) (e : List EK) (σ : L2.St) (H : Hp) : Prop where
  x0 : ∀ a, X0 a → X a
  xm : ∀ a, M a → X0 a
  xn : ∀ a, X a → X0 a ∨ H0 a = none
  xa : ∀ a, X a → H a ≠ none
  kp : ∀ a o, ¬ M a → H0 a = some o → H a = some o
  len : σ.length = e.length
  slot : ∀ (i : Nat) k, e[i]? = some k → SlotOk K M X0 X H σ[i]? k
  tmp : ∀ p ∈ ps, Rp K (hide X H) p.1 p.2
def Sk (K : Frag) (H0 : Hp) (M X0 : Ap) (ps : List (V × PyData)) (e : List EK) (σ : L2.St) (H : Hp) : Prop := ∃ X, Gd K H0 M X0 X ps e σ H
section
variable {K : Frag} {H0 H H' : Hp} {M X0 X : Ap} {ps ps' : List (V × PyData)} {e e' : List EK} {σ : L2.St} {v : V} {d : PyData}
theorem SlotOk.mono {o : Option (Option V)} {k : EK} (s : Sub H H') (h : SlotOk K M X0 X H o k) : SlotOk K M X0 X H' o k := by
  cases k with
  | any => trivial
  | imm d =>
    obtain ⟨v, e, r⟩ := h
    exact ⟨v, e, Rp.mono (hide_mono fun a o _ q => s a o q) _ _ r⟩
  | lis ds =>
    obtain ⟨l, xs, e, h1, h2, h3, h4, r⟩ := h
    exact ⟨l, xs, e, h1, h2, h3, s _ _ h4, RpA.mono (hide_mono fun a o _ q => s a o q) _ _ r⟩
  | tub a b c =>
    obtain ⟨T, e, h1, h2, h3⟩ := h
    exact ⟨T, e, h1, h2, s _ _ h3⟩
  | scr ns =>
    obtain ⟨a, e, r⟩ := h
    exact ⟨a, e, Sub.sqL (hide_mono fun a o _ q => s a o q) r⟩
theorem Gd.ext (g : Gd K H0 M X0 X ps e σ H) (s : Sub H H') : Gd K H0 M X0 X ps e σ H' where
  x0 := g.x0
  xm := g.xm
  xn := g.xn
  xa := fun a h => by
    cases q : H a with
    | none => exact absurd q (g.xa a h)
    | some o => rw [s a o q]; exact Option.some_ne_none o
  kp := fun a o h q => s a o (g.kp a o h q)
  len := g.len
  slot := fun i k h => (g.slot i k h).mono s
  tmp := fun p hp => Rp.mono (hide_mono fun a o _ q => s a o q) _ _ (g.tmp p hp)
theorem Gd.push (g : Gd K H0 M X0 X ps e σ H) (h : Rp K (hide X H) v d) : Gd K H0 M X0 X ((v, d) :: ps) e σ H :=
  { g with tmp := fun p hp => (List.mem_cons.mp hp).elim (fun q => q ▸ h) (fun q => g.tmp p q) }
theorem Gd.sub (g : Gd K H0 M X0 X ps e σ H) (h : ∀ p ∈ ps', p ∈ ps) : Gd K H0 M X0 X ps' e σ H := { g with tmp := fun p hp => g.tmp p (h p hp) }
theorem Gd.at_ (g : Gd K H0 M X0 X ps e σ H) (h : (v, d) ∈ ps) : Rp K H v d := Rp.mono hide_sub _ _ (g.tmp _ h)
theorem Gd.fresh (g : Gd K H0 M X0 X ps e σ H) {p : Addr} (h : H p = none) : ¬ X p := fun x => g.xa p x h
theorem Sk.sub (g : Sk K H0 M X0 ps e σ H) (h : ∀ p ∈ ps', p ∈ ps) : Sk K H0 M X0 ps' e σ H := let ⟨X, g⟩ := g; ⟨X, g.sub h⟩
theorem Sk.pop (g : Sk K H0 M X0 ((v, d) :: ps) e σ H) : Sk K H0 M X0 ps e σ H := g.sub fun p hp => List.mem_cons_of_mem _ hp
theorem Sk.under {w : V} {c : PyData} (g : Sk K H0 M X0 ((w, c) :: (v, d) :: ps) e σ H) : Sk K H0 M X0 ((w, c) :: ps) e σ H := g.sub fun p hp => by
  rcases List.mem_cons.mp hp with h | h
  · rw [h]; exact List.mem_cons_self
  · exact List.mem_cons_of_mem _ (List.mem_cons_of_mem _ h)
theorem Sk.at_ (g : Sk K H0 M X0 ps e σ H) (h : (v, d) ∈ ps) : Rp K H v d := let ⟨_, g⟩ := g; g.at_ h
theorem Sk.top (g : Sk K H0 M X0 ((v, d) :: ps) e σ H) : Rp K H v d := g.at_ List.mem_cons_self
theorem Sk.top2 {w : V} {c : PyData} (g : Sk K H0 M X0 ((w, c) :: (v, d) :: ps) e σ H) : Rp K H v d := g.at_ (List.mem_cons_of_mem _ List.mem_cons_self)
theorem Sk.ext (g : Sk K H0 M X0 ps e σ H) (s : Sub H H') : Sk K H0 M X0 ps e σ H' := let ⟨X, g⟩ := g; ⟨X, g.ext s⟩
theorem Sk.int (g : Sk K H0 M X0 ps e σ H) (i : Int) : Sk K H0 M X0 ((.int i, .int i) :: ps) e σ H := let ⟨X, g⟩ := g; ⟨X, g.push (.int i)⟩
theorem Sk.bl (g : Sk K H0 M X0 ps e σ H) (i : Bool) : Sk K H0 M X0 ((.bl i, .bool i) :: ps) e σ H := let ⟨X, g⟩ := g; ⟨X, g.push (.bl i)⟩
theorem Sk.non (g : Sk K H0 M X0 ps e σ H) : Sk K H0 M X0 ((.non, .none) :: ps) e σ H := let ⟨X, g⟩ := g; ⟨X, g.push .non⟩
theorem Sk.str (g : Sk K H0 M X0 ps e σ H) (z : Str) : Sk K H0 M X0 ((.str z, .str z) :: ps) e σ H := let ⟨X, g⟩ := g; ⟨X, g.push (.str z)⟩
theorem Gd.args {vs : List V} {ds : List PyData} (g : Gd K H0 M X0 X (vs.zip ds ++ ps) e σ H) (hl : vs.length = ds.length) : RpA K (hide X H) vs ds :=
  RpA.zip hl fun p hp => g.tmp p (List.mem_append_left _ hp)
theorem Sk.args {vs : List V} {ds : List PyData} (g : Sk K H0 M X0 (vs.zip ds ++ ps) e σ H) (hl : vs.length = ds.length) : RpA K H vs ds := let ⟨_, g⟩ := g; RpA.mono hide_sub _ _ (g.args hl)
theorem Sk.noargs {q : List (V × PyData)} (g : Sk K H0 M X0 (q ++ ps) e σ H) : Sk K H0 M X0 ps e σ H := g.sub fun p hp => List.mem_append_right _ hp
/-- a new tuple, a new list -/
theorem Sk.newTup {vs : List V} {ds : List PyData} {p : Addr} (g : Sk K H0 M X0 (vs.zip ds ++ ps) e σ H) (hl : vs.length = ds.length) (hp : H p = none) : Sk K H0 M X0 ((.ref p, .tuple ds) :: ps) e σ (upd H p (.tup vs)) := by
  obtain ⟨X, g⟩ := g
  have g2 := g.ext (Sub.new (o := .tup vs) hp)
  refine ⟨X, (g2.sub fun p hp => List.mem_append_right _ hp).push (.tup (.inl (.inl (hide_at (g.fresh hp) upd_same))) (g2.args hl))⟩
theorem Sk.newLst {vs : List V} {ds : List PyData} {p : Addr} (g : Sk K H0 M X0 (vs.zip ds ++ ps) e σ H) (hl : vs.length = ds.length) (hp : H p = none) : Sk K H0 M X0 ((.ref p, .list ds) :: ps) e σ (upd H p (.lst vs)) := by
  obtain ⟨X, g⟩ := g
  have g2 := g.ext (Sub.new (o := .lst vs) hp)
  refine ⟨X, (g2.sub fun p hp => List.mem_append_right _ hp).push (.lst (hide_at (g.fresh hp) upd_same) (g2.args hl))⟩
end
end Hull
namespace Hull
open PySem PySem.Spec PyProof.Rows L2

/-! judgements over what is known of the state -/
def ED (K : Frag) (te : TE) (e : List EK) (d : PyData) (e' : List EK) : Prop :=
  ∀ (H0 : Hp) (M X0 : Ap) (ps : List (V × PyData)) (σ : L2.St) (H : Hp), Sk K H0 M X0 ps e σ H → ∀ Q : VK, (∀ v H2, Sk K H0 M X0 ((v, d) :: ps) e' σ H2 → Q v H2) → te σ H Q
def TD (K : Frag) (tt : TT) (e : List EK) (b : Bool) (e' : List EK) : Prop :=
  ∀ (H0 : Hp) (M X0 : Ap) (ps : List (V × PyData)) (σ : L2.St) (H : Hp), Sk K H0 M X0 ps e σ H → ∀ Q : Bool → Hp → Prop, (∀ H2, Sk K H0 M X0 ps e' σ H2 → Q b H2) → tt σ H Q
def AD (K : Frag) (ta : TA) (e : List EK) (ds : List PyData) (e' : List EK) : Prop :=
  ∀ (H0 : Hp) (M X0 : Ap) (ps : List (V × PyData)) (σ : L2.St) (H : Hp), Sk K H0 M X0 ps e σ H → ∀ Q : List V → Hp → Prop, (∀ vs H2, vs.length = ds.length → Sk K H0 M X0 (vs.zip ds ++ ps) e' σ H2 → Q vs H2) → ta σ H Q

section
variable {K : Frag} {te ta tb tc : TE} {t u : TT} {e e1 e2 e3 e' : List EK} {d d1 d2 : PyData} {ds : List PyData} {b c : Bool}
theorem ed_var {i : Nat} (h : e[i]? = some (.imm d)) : ED K (tVar i) e d e := fun H0 M X0 ps σ H g Q k => by
  obtain ⟨X, g⟩ := g
  obtain ⟨v, a, r⟩ := g.slot i _ h
  exact ⟨v, a, k v H ⟨X, g.push r⟩⟩
theorem ed_int {i : Int} : ED K (tC (.int i)) e (.int i) e := fun _ _ _ _ _ H g _ k => k _ H (g.int i)
theorem ed_bl {i : Bool} : ED K (tC (.bl i)) e (.bool i) e := fun _ _ _ _ _ H g _ k => k _ H (g.bl i)
theorem ed_non : ED K (tC .non) e .none e := fun _ _ _ _ _ H g _ k => k _ H g.non
theorem ed_str {z : Str} : ED K (tC (.str z)) e (.str z) e := fun _ _ _ _ _ H g _ k => k _ H (g.str z)
theorem ed_is (h : ED K te e d1 e') (q : d1 = d) : ED K te e d e' := q ▸ h
theorem td_is (h : TD K t e b e') (q : b = c) : TD K t e c e' := q ▸ h
/-- a written tuple of the module -/
theorem ed_tupK {a : Addr} {xs : List V} (h : ∀ H, SqT K H a xs) (hd : ∀ H, RpA K H xs ds) : ED K (tC (.ref a)) e (.tuple ds) e := fun _ _ _ _ _ H g _ k => by
  obtain ⟨X, g⟩ := g
  exact k _ H ⟨X, g.push (.tup (h _) (hd _))⟩
theorem ed_bin {r : R2} (ha : ED K ta e d1 e1) (hb : ED K tb e1 d2 e2)
    (hr : ∀ (H0 : Hp) (M X0 : Ap) (ps : List (V × PyData)) (σ : L2.St) (H : Hp) (x y : V), Sk K H0 M X0 ((y, d2) :: (x, d1) :: ps) e2 σ H → ∀ Q : VK, (∀ v H2, Sk K H0 M X0 ((v, d) :: ps) e2 σ H2 → Q v H2) → r x y H Q) : ED K (tOp r ta tb) e d e2 :=
  fun H0 M X0 ps σ H g Q k => ha H0 M X0 ps σ H g _ fun x H1 g1 => hb H0 M X0 _ σ H1 g1 _ fun y H2 g2 => hr H0 M X0 ps σ H2 x y g2 Q k
theorem ed_un {r : V → Hp → VK → Prop} (ha : ED K ta e d1 e1)
    (hr : ∀ (H0 : Hp) (M X0 : Ap) (ps : List (V × PyData)) (σ : L2.St) (H : Hp) (x : V), Sk K H0 M X0 ((x, d1) :: ps) e1 σ H → ∀ Q : VK, (∀ v H2, Sk K H0 M X0 ((v, d) :: ps) e1 σ H2 → Q v H2) → r x H Q) : ED K (tUn r ta) e d e1 :=
  fun H0 M X0 ps σ H g Q k => ha H0 M X0 ps σ H g _ fun x H1 g1 => hr H0 M X0 ps σ H1 x g1 Q k
theorem rp_int {H : Hp} {v : V} {i : Int} (h : Rp K H v (.int i)) : v = .int i := by cases h; rfl
theorem rp_bl {H : Hp} {v : V} {i : Bool} (h : Rp K H v (.bool i)) : v = .bl i := by cases h; rfl
theorem rp_str {H : Hp} {v : V} {i : Str} (h : Rp K H v (.str i)) : v = .str i := by cases h; rfl
section
variable {i j : Int}
theorem ed_iB {g : Int → Int → Bool} (ha : ED K ta e (.int i) e1) (hb : ED K tb e1 (.int j) e2) : ED K (tOp (rI0 fun i j => .bl (g i j)) ta tb) e (.bool (g i j)) e2 :=
  ed_bin ha hb fun H0 M X0 ps σ H x y g2 Q k => ⟨i, j, rp_int g2.top2, rp_int g2.top, k _ H (g2.pop.pop.bl _)⟩
theorem ed_iI {g : Int → Int → Int} (ha : ED K ta e (.int i) e1) (hb : ED K tb e1 (.int j) e2) : ED K (tOp (rI0 fun i j => .int (g i j)) ta tb) e (.int (g i j)) e2 :=
  ed_bin ha hb fun H0 M X0 ps σ H x y g2 Q k => ⟨i, j, rp_int g2.top2, rp_int g2.top, k _ H (g2.pop.pop.int _)⟩
theorem ed_iC {C : Int → Int → Prop} {g : Int → Int → Int} (ha : ED K ta e (.int i) e1) (hb : ED K tb e1 (.int j) e2) (hc : C i j) : ED K (tOp (rI C fun i j => .int (g i j)) ta tb) e (.int (g i j)) e2 :=
  ed_bin ha hb fun H0 M X0 ps σ H x y g2 Q k => ⟨i, j, rp_int g2.top2, rp_int g2.top, hc, k _ H (g2.pop.pop.int _)⟩
theorem ed_add (ha : ED K ta e (.int i) e1) (hb : ED K tb e1 (.int j) e2) : ED K (tOp (rI0 fun i j => .int (i + j)) ta tb) e (.int (i + j)) e2 := ed_iI (g := fun i j => i + j) ha hb
theorem ed_sub (ha : ED K ta e (.int i) e1) (hb : ED K tb e1 (.int j) e2) : ED K (tOp (rI0 fun i j => .int (i - j)) ta tb) e (.int (i - j)) e2 := ed_iI (g := fun i j => i - j) ha hb
theorem ed_mul (ha : ED K ta e (.int i) e1) (hb : ED K tb e1 (.int j) e2) (hc : CMulW i j) : ED K (tOp (rI CMulW fun i j => .int (i * j)) ta tb) e (.int (i * j)) e2 := ed_iC (g := fun i j => i * j) ha hb hc
theorem ed_lt (ha : ED K ta e (.int i) e1) (hb : ED K tb e1 (.int j) e2) : ED K (tOp (rI0 fun i j => .bl (decide (i < j))) ta tb) e (.bool (decide (i < j))) e2 := ed_iB (g := fun i j => decide (i < j)) ha hb
theorem ed_le (ha : ED K ta e (.int i) e1) (hb : ED K tb e1 (.int j) e2) : ED K (tOp (rI0 fun i j => .bl (decide (i ≤ j))) ta tb) e (.bool (decide (i ≤ j))) e2 := ed_iB (g := fun i j => decide (i ≤ j)) ha hb
theorem ed_gt (ha : ED K ta e (.int i) e1) (hb : ED K tb e1 (.int j) e2) : ED K (tOp (rI0 fun i j => .bl (decide (j < i))) ta tb) e (.bool (decide (j < i))) e2 := ed_iB (g := fun i j => decide (j < i)) ha hb
theorem ed_ge (ha : ED K ta e (.int i) e1) (hb : ED K tb e1 (.int j) e2) : ED K (tOp (rI0 fun i j => .bl (decide (j ≤ i))) ta tb) e (.bool (decide (j ≤ i))) e2 := ed_iB (g := fun i j => decide (j ≤ i)) ha hb
theorem ed_mod (ha : ED K ta e (.int i) e1) (hb : ED K tb e1 (.int j) e2) (hc : 0 < j) : ED K (tOp (rI (fun _ j => 0 < j) fun i j => .int (i % j)) ta tb) e (.int (i % j)) e2 := ed_iC (g := fun i j => i % j) ha hb hc
theorem ed_eqI (ha : ED K ta e (.int i) e1) (hb : ED K tb e1 (.int j) e2) : ED K (tOp rEq ta tb) e (.bool (decide (i = j))) e2 :=
  ed_bin ha hb fun H0 M X0 ps σ H x y g2 Q k => by
    have h1 := rp_int g2.top2
    have h2 := rp_int g2.top
    subst h1 h2
    refine ⟨rfl, ?_⟩
    rw [show decide (V.int i = V.int j) = decide (i = j) from decide_eq_decide.mpr ⟨V.int.inj, fun h => by rw [h]⟩]
    exact k _ H (g2.pop.pop.bl _)
theorem ed_neI (ha : ED K ta e (.int i) e1) (hb : ED K tb e1 (.int j) e2) : ED K (tOp rNe ta tb) e (.bool (!decide (i = j))) e2 :=
  ed_bin ha hb fun H0 M X0 ps σ H x y g2 Q k => by
    have h1 := rp_int g2.top2
    have h2 := rp_int g2.top
    subst h1 h2
    refine ⟨rfl, ?_⟩
    rw [show decide (V.int i = V.int j) = decide (i = j) from decide_eq_decide.mpr ⟨V.int.inj, fun h => by rw [h]⟩]
    exact k _ H (g2.pop.pop.bl _)
end
theorem ed_eqB (ha : ED K ta e (.bool b) e1) (hb : ED K tb e1 (.bool c) e2) : ED K (tOp rEq ta tb) e (.bool (b == c)) e2 :=
  ed_bin ha hb fun H0 M X0 ps σ H x y g2 Q k => by
    have h1 := rp_bl g2.top2
    have h2 := rp_bl g2.top
    subst h1 h2
    refine ⟨rfl, ?_⟩
    rw [dec_bl]
    exact k _ H (g2.pop.pop.bl _)
theorem ed_neS {x y : Str} (ha : ED K ta e (.str x) e1) (hb : ED K tb e1 (.str y) e2) : ED K (tOp rNe ta tb) e (.bool (!(x == y))) e2 :=
  ed_bin ha hb fun H0 M X0 ps σ H v w g2 Q k => by
    have h1 := rp_str g2.top2
    have h2 := rp_str g2.top
    subst h1 h2
    refine ⟨rfl, ?_⟩
    rw [dec_str]
    exact k _ H (g2.pop.pop.bl _)
theorem ed_eqD (ha : ED K ta e d1 e1) (hb : ED K tb e1 d2 e2) (h1 : SeqAt.shaped d1 = true) (h2 : SeqAt.shaped d2 = true) : ED K (tOp (rEqD K) ta tb) e (.bool (PyData.eqv d1 d2)) e2 :=
  ed_bin ha hb fun H0 M X0 ps σ H x y g2 Q k => ⟨d1, d2, Rp.dp _ _ g2.top2, Rp.dp _ _ g2.top, h1, h2, k _ H (g2.pop.pop.bl _)⟩
theorem ed_neD (ha : ED K ta e d1 e1) (hb : ED K tb e1 d2 e2) (h1 : SeqAt.shaped d1 = true) (h2 : SeqAt.shaped d2 = true) : ED K (tOp (rNeD K) ta tb) e (.bool (!PyData.eqv d1 d2)) e2 :=
  ed_bin ha hb fun H0 M X0 ps σ H x y g2 Q k => ⟨d1, d2, Rp.dp _ _ g2.top2, Rp.dp _ _ g2.top, h1, h2, k _ H (g2.pop.pop.bl _)⟩
def isNone : PyData → Bool
  | .none => true
  | _ => false
theorem rp_isNone {H : Hp} {v : V} (h : Rp K H v d) : decide (v = .non) = isNone d := by
  cases h <;> rfl
abbrev rIsN : R2 := fun x y H Q => y = .non ∧ Q (.bl (decide (x = .non))) H
abbrev rIsNN : R2 := fun x y H Q => y = .non ∧ Q (.bl (!decide (x = .non))) H
theorem ed_isN (ha : ED K ta e d e1) : ED K (tOp rIsN ta (tC .non)) e (.bool (isNone d)) e1 :=
  ed_bin ha ed_non fun H0 M X0 ps σ H x y g2 Q k => ⟨by cases g2.top; rfl, by rw [rp_isNone g2.top2]; exact k _ H (g2.pop.pop.bl _)⟩
theorem ed_isNN (ha : ED K ta e d e1) : ED K (tOp rIsNN ta (tC .non)) e (.bool (!isNone d)) e1 :=
  ed_bin ha ed_non fun H0 M X0 ps σ H x y g2 Q k => ⟨by cases g2.top; rfl, by rw [rp_isNone g2.top2]; exact k _ H (g2.pop.pop.bl _)⟩
theorem ed_neg {i : Int} (ha : ED K ta e (.int i) e1) : ED K (tUn (rU fun i => .int (-i)) ta) e (.int (-i)) e1 :=
  ed_un ha fun H0 M X0 ps σ H x g1 Q k => ⟨i, rp_int g1.top, k _ H (g1.pop.int _)⟩
/-! items -/
theorem atI_rp {H : Hp} {xs : List V} {k : Int} (h : RpA K H xs ds) (a : atI ds k = some d) : ∃ v, atI xs k = some v ∧ Rp K H v d := by
  unfold atI at a ⊢
  rw [h.len]
  cases q : ixN ds.length k with
  | none => rw [q] at a; cases a
  | some j =>
    rw [q] at a
    exact h.get a
theorem ed_ixT {k : Int} (ha : ED K ta e (.tuple ds) e1) (hb : ED K tb e1 (.int k) e2) (h : atI ds k = some d) : ED K (tOp (rIx K) ta tb) e d e2 :=
  ed_bin ha hb fun H0 M X0 ps σ H x y g2 Q q => by
    obtain ⟨X, g⟩ := g2
    have h2 := rp_int (g.at_ List.mem_cons_self)
    have h1 := g.tmp (x, .tuple ds) (List.mem_cons_of_mem _ List.mem_cons_self)
    cases h1 with
    | tup s r =>
      obtain ⟨v, a, rv⟩ := atI_rp r h
      exact .inr (.inl ⟨_, _, k, v, rfl, h2, hide_sub.sqT s, a, q v H ⟨X, (g.sub fun p hp => List.mem_cons_of_mem _ (List.mem_cons_of_mem _ hp)).push rv⟩⟩)
theorem ed_ixL {k : Int} (ha : ED K ta e (.list ds) e1) (hb : ED K tb e1 (.int k) e2) (h : atI ds k = some d) : ED K (tOp (rIx K) ta tb) e d e2 :=
  ed_bin ha hb fun H0 M X0 ps σ H x y g2 Q q => by
    obtain ⟨X, g⟩ := g2
    have h2 := rp_int (g.at_ List.mem_cons_self)
    have h1 := g.tmp (x, .list ds) (List.mem_cons_of_mem _ List.mem_cons_self)
    cases h1 with
    | lst s r =>
      obtain ⟨v, a, rv⟩ := atI_rp r h
      exact .inl ⟨_, _, k, v, rfl, h2, SqL.of (hide_sub _ _ s), a, q v H ⟨X, (g.sub fun p hp => List.mem_cons_of_mem _ (List.mem_cons_of_mem _ hp)).push rv⟩⟩
/-- of a list that is still being filled -/
theorem ed_ixM {i : Nat} {k : Int} (hv : e[i]? = some (.lis ds)) (hb : ED K tb e (.int k) e) (h : atI ds k = some d) : ED K (tOp (rIx K) (tVar i) tb) e d e := fun H0 M X0 ps σ H g Q q => by
  obtain ⟨X, g0⟩ := g
  obtain ⟨l, xs, a, h1, h2, h3, h4, r⟩ := g0.slot i _ hv
  refine ⟨.ref l, a, hb H0 M X0 ps σ H ⟨X, g0⟩ _ fun y H1 g1 => ?_⟩
  obtain ⟨X1, g1⟩ := g1
  have hy := rp_int (g1.at_ List.mem_cons_self)
  obtain ⟨l', xs', a', _, _, _, h4', r'⟩ := g1.slot i _ hv
  rw [a] at a'
  cases a'
  obtain ⟨v, c, rv⟩ := atI_rp r' h
  exact .inl ⟨l, xs', k, v, rfl, hy, SqL.of h4', c, q v H1 ⟨X1, (g1.sub fun p hp => List.mem_cons_of_mem _ hp).push rv⟩⟩
/-! arguments, displays -/
theorem ad_nil : AD K tNil e [] e := fun _ _ _ _ _ H g _ k => k [] H rfl g
theorem zip_cons_sub {v : V} {vs : List V} {ps : List (V × PyData)} : ∀ p ∈ (v :: vs).zip (d :: ds) ++ ps, p ∈ vs.zip ds ++ (v, d) :: ps := fun p hp => by
  rw [List.zip_cons_cons] at hp
  rcases List.mem_append.mp hp with h | h
  · rcases List.mem_cons.mp h with h | h
    · rw [h]; exact List.mem_append_right _ List.mem_cons_self
    · exact List.mem_append_left _ h
  · exact List.mem_append_right _ (List.mem_cons_of_mem _ h)
theorem ad_cons {tr : TA} (ha : ED K ta e d e1) (hr : AD K tr e1 ds e2) : AD K (tCons ta tr) e (d :: ds) e2 := fun H0 M X0 ps σ H g Q k =>
  ha H0 M X0 ps σ H g _ fun x H1 g1 => hr H0 M X0 _ σ H1 g1 _ fun vs H2 hl g2 => k (x :: vs) H2 (by simp [hl]) (g2.sub zip_cons_sub)
theorem ed_tup {tr : TA} (h : AD K tr e ds e1) (hl : Nat.ble ds.length 1000 = true := by rfl) : ED K (tTup tr) e (.tuple ds) e1 := fun H0 M X0 ps σ H g Q k =>
  h H0 M X0 ps σ H g _ fun vs H1 hv g1 => ⟨by rw [hv]; exact Nat.le_of_lt (small1000 (Nat.le_of_ble_eq_true hl)), fun p hp => k _ _ (g1.newTup hv hp)⟩
theorem ed_lst {tr : TA} (h : AD K tr e ds e1) (hl : Nat.ble ds.length 1000 = true := by rfl) : ED K (tLst tr) e (.list ds) e1 := fun H0 M X0 ps σ H g Q k =>
  h H0 M X0 ps σ H g _ fun vs H1 hv g1 => ⟨by rw [hv]; exact Nat.le_of_lt (small1000 (Nat.le_of_ble_eq_true hl)), fun p hp => k _ _ (g1.newLst hv hp)⟩
/-! tests -/
theorem td_test (h : ED K te e (.bool b) e1) : TD K (tTest te) e b e1 := fun H0 M X0 ps σ H g Q k =>
  h H0 M X0 ps σ H g _ fun v H1 g1 => ⟨b, rp_bl g1.top, k H1 g1.pop⟩
theorem td_B (h : ED K te e (.bool b) e1) : TD K (tB te) e b e1 := fun H0 M X0 ps σ H g Q k =>
  h H0 M X0 ps σ H g _ fun v H1 g1 => ⟨b, rp_bl g1.top, k H1 g1.pop⟩
theorem td_and (h : TD K t e b e1) (h2 : b = true → TD K u e1 c e1) : TD K (tAnd t u) e (b && c) e1 := fun H0 M X0 ps σ H g Q k =>
  h H0 M X0 ps σ H g _ fun H1 g1 => by
    cases b with
    | true => exact h2 rfl H0 M X0 ps σ H1 g1 _ k
    | false => exact k H1 g1
theorem td_or (h : TD K t e b e1) (h2 : b = false → TD K u e1 c e1) : TD K (tOr t u) e (b || c) e1 := fun H0 M X0 ps σ H g Q k =>
  h H0 M X0 ps σ H g _ fun H1 g1 => by
    cases b with
    | false => exact h2 rfl H0 M X0 ps σ H1 g1 _ k
    | true => exact k H1 g1
theorem td_not (h : TD K t e b e1) : TD K (tNot t) e (!b) e1 := fun H0 M X0 ps σ H g Q k => h H0 M X0 ps σ H g _ fun H1 g1 => k H1 g1
theorem ed_and (h : ED K ta e (.bool b) e1) (h2 : b = true → ED K tb e1 (.bool c) e1) : ED K (tAndV ta tb) e (.bool (b && c)) e1 := fun H0 M X0 ps σ H g Q k =>
  h H0 M X0 ps σ H g _ fun v H1 g1 => ⟨b, rp_bl g1.top, by
    cases b with
    | true => exact h2 rfl H0 M X0 ps σ H1 g1.pop _ k
    | false => exact k _ H1 (g1.pop.bl false)⟩
theorem ed_or (h : ED K ta e (.bool b) e1) (h2 : b = false → ED K tb e1 (.bool c) e1) : ED K (tOrV ta tb) e (.bool (b || c)) e1 := fun H0 M X0 ps σ H g Q k =>
  h H0 M X0 ps σ H g _ fun v H1 g1 => ⟨b, rp_bl g1.top, by
    cases b with
    | false => exact h2 rfl H0 M X0 ps σ H1 g1.pop _ k
    | true => exact k _ H1 (g1.pop.bl true)⟩
theorem ed_not (h : ED K ta e (.bool b) e1) : ED K (tNotV ta) e (.bool (!b)) e1 := fun H0 M X0 ps σ H g Q k =>
  h H0 M X0 ps σ H g _ fun v H1 g1 => ⟨b, rp_bl g1.top, k _ H1 (g1.pop.bl _)⟩
theorem ed_if (h : TD K t e b e1) (h1 : b = true → ED K ta e1 d e2) (h2 : b = false → ED K tb e1 d e2) : ED K (tIf t ta tb) e d e2 := fun H0 M X0 ps σ H g Q k =>
  h H0 M X0 ps σ H g _ fun H1 g1 => by
    cases b with
    | true => exact h1 rfl H0 M X0 ps σ H1 g1 Q k
    | false => exact h2 rfl H0 M X0 ps σ H1 g1 Q k
/-- x op y op' z, of ints -/
theorem ed_chainI {g g' : Int → Int → Bool} {i j l : Int} (ha : ED K ta e (.int i) e1) (hb : ED K tb e1 (.int j) e1) (hc : g i j = true → ED K tc e1 (.int l) e1) :
    ED K (tChain (rI0 fun i j => .bl (g i j)) (rI0 fun i j => .bl (g' i j)) ta tb tc) e (.bool (g i j && g' j l)) e1 := fun H0 M X0 ps σ H s Q k =>
  ha H0 M X0 ps σ H s _ fun x H1 g1 => hb H0 M X0 _ σ H1 g1 _ fun y H2 g2 => ⟨i, j, rp_int g2.top2, rp_int g2.top, g i j, rfl, by
    cases q : g i j with
    | true =>
      rw [q] at k
      refine hc q H0 M X0 _ σ H2 g2.under _ fun z H3 g3 => ⟨j, l, rp_int g3.top2, rp_int g3.top, k _ H3 (g3.pop.pop.bl _)⟩
    | false =>
      rw [q] at k
      exact k _ H2 (g2.pop.pop.bl false)⟩
/-! calls of built-ins -/
theorem ed_len1 {tr : TE} (h : ED K tr e d e1) (hd : d = .tuple ds ∨ d = .list ds) :
    ED K (tCB (fun xs H Q => ∃ p ys, xs = [.ref p] ∧ (SqL K H p ys ∨ SqT K H p ys) ∧ Q (.int ys.length) H) (tCons tr tNil)) e (.int ds.length) e1 := fun H0 M X0 ps σ H g Q k =>
  h H0 M X0 ps σ H g _ fun v H1 g1 => by
    have r := g1.top
    rcases hd with rfl | rfl
    · cases r with
      | tup s r => exact ⟨_, _, rfl, .inr s, by rw [r.len]; exact k _ H1 (g1.pop.int _)⟩
    · cases r with
      | lst s r => exact ⟨_, _, rfl, .inl (SqL.of s), by rw [r.len]; exact k _ H1 (g1.pop.int _)⟩
theorem ed_lenT {tr : TE} (h : ED K tr e (.tuple ds) e1) : ED K (tCB (fun xs H Q => ∃ p ys, xs = [.ref p] ∧ (SqL K H p ys ∨ SqT K H p ys) ∧ Q (.int ys.length) H) (tCons tr tNil)) e (.int ds.length) e1 := ed_len1 h (.inl rfl)
theorem ed_lenL {tr : TE} (h : ED K tr e (.list ds) e1) : ED K (tCB (fun xs H Q => ∃ p ys, xs = [.ref p] ∧ (SqL K H p ys ∨ SqT K H p ys) ∧ Q (.int ys.length) H) (tCons tr tNil)) e (.int ds.length) e1 := ed_len1 h (.inr rfl)
theorem ed_lenM {i : Nat} (hv : e[i]? = some (.lis ds)) :
    ED K (tCB (fun xs H Q => ∃ p ys, xs = [.ref p] ∧ (SqL K H p ys ∨ SqT K H p ys) ∧ Q (.int ys.length) H) (tCons (tVar i) tNil)) e (.int ds.length) e := fun H0 M X0 ps σ H g Q k => by
  obtain ⟨X, g0⟩ := g
  obtain ⟨l, xs, a, h1, h2, h3, h4, r⟩ := g0.slot i _ hv
  exact ⟨.ref l, a, l, xs, rfl, .inl (SqL.of h4), by rw [r.len]; exact k _ H (Sk.int ⟨X, g0⟩ _)⟩
theorem ed_abs {i : Int} (h : ED K ta e (.int i) e1) : ED K (tCB (fun xs H Q => ∃ i, xs = [.int i] ∧ Q (.int (if i < 0 then -i else i)) H) (tCons ta tNil)) e (.int (if i < 0 then -i else i)) e1 := fun H0 M X0 ps σ H g Q k =>
  h H0 M X0 ps σ H g _ fun v H1 g1 => ⟨i, by rw [rp_int g1.top], k _ H1 (g1.pop.int _)⟩
theorem ed_intC {i : Int} (h : ED K ta e (.int i) e1) : ED K (tCB (fun xs H Q => (∃ i, xs = [.int i] ∧ Q (.int i) H) ∨ ∃ k, xs = [.bl k] ∧ Q (.int (if k then 1 else 0)) H) (tCons ta tNil)) e (.int i) e1 := fun H0 M X0 ps σ H g Q k =>
  h H0 M X0 ps σ H g _ fun v H1 g1 => .inl ⟨i, by rw [rp_int g1.top], k _ H1 (g1.pop.int _)⟩
theorem ed_sum {ns : List Int} (h : ED K ta e (.list (ns.map .int)) e1) : ED K (tCB (rSum K) (tCons ta tNil)) e (.int ns.sum) e1 := fun H0 M X0 ps σ H g Q k =>
  h H0 M X0 ps σ H g _ fun v H1 g1 => by
    have r := g1.top
    cases r with
    | lst s r => exact ⟨_, ns, rfl, SqL.of (by rw [s, r.ints]), k _ H1 (g1.pop.int _)⟩
theorem ed_gcd {i j : Int} (ha : ED K ta e (.int i) e1) (hb : ED K tb e1 (.int j) e2) : ED K (tCB rGcd (tCons ta (tCons tb tNil))) e (.int ((Nat.gcd i.natAbs j.natAbs : Nat) : Int)) e2 := fun H0 M X0 ps σ H g Q k =>
  ha H0 M X0 ps σ H g _ fun v H1 g1 => hb H0 M X0 _ σ H1 g1 _ fun y H2 g2 => ⟨i, j, by rw [rp_int g2.top2, rp_int g2.top], k _ H2 (g2.pop.pop.int _)⟩
theorem ed_tupOfT (h : ED K ta e (.tuple ds) e1) : ED K (tCB (fun xs H Q => ∃ a ys, xs = [.ref a] ∧ SqT K H a ys ∧ Q (.ref a) H) (tCons ta tNil)) e (.tuple ds) e1 := fun H0 M X0 ps σ H g Q k =>
  h H0 M X0 ps σ H g _ fun v H1 g1 => by
    have r := g1.top
    cases r with
    | tup s r => exact ⟨_, _, rfl, s, k _ H1 g1⟩
end
end Hull
namespace Hull
open PySem PySem.Spec PyProof.Rows L2

/-! promises -/
def spP (K : Frag) (R : List PyData → PyData → Prop) : Sp := fun vs H Q _ => ∃ (X : Ap) (ds : List PyData) (d : PyData),
  (∀ a, X a → H a ≠ none) ∧ RpA K (hide X H) vs ds ∧ R ds d ∧ ∀ v H', Sub H H' → Rp K (hide X H') v d → Q v H'
/-- the same; what comes back is a new list -/
def spF (K : Frag) (R : List PyData → List PyData → Prop) : Sp := fun vs H Q _ => ∃ (X : Ap) (ds : List PyData) (rs : List PyData),
  (∀ a, X a → H a ≠ none) ∧ RpA K (hide X H) vs ds ∧ R ds rs ∧ ∀ p xs H', Sub H H' → H p = none → H' p = some (.lst xs) → RpA K (hide (fun a => X a ∨ a = p) H') xs rs → Q (.ref p) H'
abbrev Tb := Int × Int × Int
/-- a def that takes the tub (a list of three ints) and turns it -/
def spT (K : Frag) (R : Tb → List PyData → PyData → Tb → Prop) : Sp := fun vs H Q _ => ∃ (X : Ap) (T : Addr) (t t' : Tb) (ws : List V) (ds : List PyData) (d : PyData),
  vs = .ref T :: ws ∧ X T ∧ H T = some (tubL t.1 t.2.1 t.2.2) ∧ (∀ a, X a → H a ≠ none) ∧ RpA K (hide X H) ws ds ∧ R t ds d t' ∧
  ∀ v H', (∀ a o, a ≠ T → H a = some o → H' a = some o) → H' T = some (tubL t'.1 t'.2.1 t'.2.2) → Rp K (hide X H') v d → Q v H'
def noTub (e : List EK) : Bool := e.all fun k => !k.isTub
def noLis (e : List EK) : Bool := e.all fun k => !k.isLis
theorem noTub_at {e : List EK} (h : noTub e = true) {i : Nat} {k : EK} (q : e[i]? = some k) : k.isTub = false := by
  have := List.all_eq_true.mp h k (List.mem_of_getElem? q)
  simpa using this
theorem noLis_at {e : List EK} (h : noLis e = true) {i : Nat} {k : EK} (q : e[i]? = some k) : k.isLis = false := by
  have := List.all_eq_true.mp h k (List.mem_of_getElem? q)
  simpa using this
theorem set_ne {α : Type} {l : List α} {i j : Nat} {x y : α} (h : j ≠ i) (q : l[j]? = some y) : (l.set i x)[j]? = some y := by
  rw [List.getElem?_set_ne (Ne.symm h)]; exact q
theorem set_at {α : Type} {l : List α} {i : Nat} {x y : α} (h : (l.set i x)[i]? = some y) : x = y := by
  rw [List.getElem?_set] at h
  split at h
  · split at h
    · exact Option.some.inj h
    · cases h
  · rename_i q; exact absurd rfl q

section
variable {K : Frag} {te ta tb tc : TE} {t u : TT} {e e1 e2 e3 e' : List EK} {d d1 d2 : PyData} {ds rs : List PyData} {b c : Bool} {tr : TA}
theorem ed_call {R : List PyData → PyData → Prop} (h : AD K tr e ds e1) (r : R ds d) : ED K (tCall (spP K R) [] E0 tr) e d e1 := fun H0 M X0 ps σ H g Q k =>
  h H0 M X0 ps σ H g _ fun vs H1 hl g1 => by
    obtain ⟨X, g1⟩ := g1
    refine ⟨X, ds, d, g1.xa, by rw [List.append_nil]; exact g1.args hl, r, fun v H' s rv => k v H' ⟨X, ((g1.ext s).sub fun p hp => List.mem_append_right _ hp).push rv⟩⟩
theorem ed_callF {R : List PyData → List PyData → Prop} (h : AD K tr e ds e1) (r : R ds rs) : ED K (tCall (spF K R) [] E0 tr) e (.list rs) e1 := fun H0 M X0 ps σ H g Q k =>
  h H0 M X0 ps σ H g _ fun vs H1 hl g1 => by
    obtain ⟨X, g1⟩ := g1
    refine ⟨X, ds, rs, g1.xa, by rw [List.append_nil]; exact g1.args hl, r, fun p xs H' s hp hx rv => k _ H' ⟨X, ((g1.ext s).sub fun p hp => List.mem_append_right _ hp).push ?_⟩⟩
    exact .lst (hide_at (g1.fresh hp) hx) (RpA.mono (hide_less fun a h => .inl h) _ _ rv)
theorem ed_callT {R : Tb → List PyData → PyData → Tb → Prop} {i : Nat} {a b c a1 b1 c1 : Int} {t' : Tb} (hv : e[i]? = some (.tub a b c)) (h : AD K tr e ds e1) (hv1 : e1[i]? = some (.tub a1 b1 c1)) (r : R (a1, b1, c1) ds d t') (hn : noTub (e1.set i .any) = true := by rfl) :
    ED K (tCall (spT K R) [] E0 (tCons (tVar i) tr)) e d (e1.set i (.tub t'.1 t'.2.1 t'.2.2)) := fun H0 M X0 ps σ H g Q k => by
  obtain ⟨X, g⟩ := g
  obtain ⟨T, q, hM, hu, hT⟩ := g.slot i _ hv
  refine ⟨.ref T, q, h H0 M X0 ps σ H ⟨X, g⟩ _ fun vs H1 hl g1 => ?_⟩
  obtain ⟨X1, g1⟩ := g1
  obtain ⟨T', q', hM', hu', hT'⟩ := g1.slot i _ hv1
  rw [q] at q'
  cases q'
  have hX : X1 T := g1.x0 _ (g1.xm _ hM)
  refine ⟨X1, T, (a1, b1, c1), t', vs, ds, d, by rw [List.append_nil], hX, hT', g1.xa, g1.args hl, r, fun v H' s hT2 rv => k v H' ⟨X1, ?_⟩⟩
  have hs : Sub (hide X1 H1) (hide X1 H') := hide_mono fun x o hx q => s x o (fun z => hx (z ▸ hX)) q
  refine ⟨g1.x0, g1.xm, g1.xn, fun x hx => ?_, fun x o hx q => s x o (fun z => hx (z ▸ hM)) (g1.kp x o hx q), by rw [List.length_set]; exact g1.len, fun j k hj => ?_, fun p hp => ?_⟩
  · by_cases z : x = T
    · rw [z, hT2]; exact Option.some_ne_none _
    · cases q3 : H1 x with
      | none => exact absurd q3 (g1.xa x hx)
      | some o => rw [s x o z q3]; exact Option.some_ne_none _
  · by_cases z : j = i
    · subst z
      have := set_at hj
      subst this
      exact ⟨T, q, hM, hu, hT2⟩
    · have hj1 : e1[j]? = some k := by rw [List.getElem?_set_ne (Ne.symm z)] at hj; exact hj
      have hk := noTub_at hn (set_ne z hj1)
      have so := g1.slot j k hj1
      cases k with
      | any => trivial
      | imm d =>
        obtain ⟨v, q, r⟩ := so
        exact ⟨v, q, Rp.mono hs _ _ r⟩
      | lis ds =>
        obtain ⟨l, xs, q, h1, h2, h3, h4, r⟩ := so
        exact ⟨l, xs, q, h1, h2, h3, s _ _ (fun z => h3 (z ▸ hM)) h4, RpA.mono hs _ _ r⟩
      | tub a b c => cases hk
      | scr ns =>
        obtain ⟨a, q, r⟩ := so
        exact ⟨a, q, hs.sqL r⟩
  · rcases List.mem_cons.mp hp with rfl | hp
    · exact rv
    · exact Rp.mono hs _ _ (g1.tmp p (List.mem_append_right _ hp))

/-! a new list that may change -/
def SkM (K : Frag) (H0 : Hp) (M X0 : Ap) (ps : List (V × PyData)) (e : List EK) (σ : L2.St) (H : Hp) (p : Addr) (ds : List PyData) : Prop :=
  ∃ X, Gd K H0 M X0 X ps e σ H ∧ X p ∧ ¬ X0 p ∧ ¬ M p ∧ (∃ xs, H p = some (.lst xs) ∧ RpA K (hide X H) xs ds) ∧ ∀ (i : Nat) ds l, e[i]? = some (.lis ds) → σ[i]? = some (some (.ref l)) → l ≠ p
def EDM (K : Frag) (te : TE) (e : List EK) (ds : List PyData) (e' : List EK) : Prop :=
  ∀ (H0 : Hp) (M X0 : Ap) (ps : List (V × PyData)) (σ : L2.St) (H : Hp), Sk K H0 M X0 ps e σ H → ∀ Q : VK, (∀ p H2, SkM K H0 M X0 ps e' σ H2 p ds → Q (.ref p) H2) → te σ H Q
section
variable {H0 H : Hp} {M X0 X : Ap} {ps : List (V × PyData)} {σ : L2.St} {p : Addr} {o : HO}
theorem hide_new (hn : H p = none) : Sub (hide X H) (hide (fun a => X a ∨ a = p) (upd H p o)) := fun a u q => by
  have q0 := hide_sub _ _ q
  have hX : ¬ X a := fun z => by
    unfold hide at q
    rw [if_pos z] at q
    cases q
  have ha : a ≠ p := ne_of_none q0 hn
  exact hide_at (fun z => z.elim hX ha) (by rw [upd_ne ha]; exact q0)
theorem lis_apart (g : Gd K H0 M X0 X ps e σ H) (hn : H p = none) (i : Nat) (ds : List PyData) (l : Addr) (h : e[i]? = some (.lis ds)) (q : σ[i]? = some (some (.ref l))) : l ≠ p := fun z => by
  obtain ⟨l', xs, q', _, _, _, h4, _⟩ := g.slot i _ h
  rw [q] at q'
  cases q'
  rw [z, hn] at h4
  cases h4
theorem Gd.newM (g : Gd K H0 M X0 X ps e σ H) (hn : H p = none) : Gd K H0 M X0 (fun a => X a ∨ a = p) ps e σ (upd H p o) := by
  have hs := hide_new (X := X) (o := o) hn
  have hp0 : ¬ M p := fun z => g.xa p (g.x0 _ (g.xm _ z)) hn
  refine ⟨fun a h => .inl (g.x0 a h), g.xm, fun a h => ?_, fun a h => ?_, fun a u hm q => ?_, g.len, fun i k h => ?_, fun q hq => Rp.mono hs _ _ (g.tmp q hq)⟩
  · rcases h with h | h
    · exact g.xn a h
    · refine .inr ?_
      cases q : H0 a with
      | none => rfl
      | some u =>
        have := g.kp a u (by rw [h]; exact hp0) q
        rw [h, hn] at this
        cases this
  · by_cases z : a = p
    · rw [z, upd_same]; exact Option.some_ne_none _
    · rw [upd_ne z]
      exact g.xa a (h.resolve_right z)
  · have := g.kp a u hm q
    rw [upd_ne (ne_of_none this hn)]
    exact this
  · have so := g.slot i k h
    cases k with
    | any => trivial
    | imm d =>
      obtain ⟨v, q, r⟩ := so
      exact ⟨v, q, Rp.mono hs _ _ r⟩
    | lis ds =>
      obtain ⟨l, xs, q, h1, h2, h3, h4, r⟩ := so
      exact ⟨l, xs, q, .inl h1, h2, h3, by rw [upd_ne (ne_of_none h4 hn)]; exact h4, RpA.mono hs _ _ r⟩
    | tub a b c =>
      obtain ⟨T, q, h1, h2, h3⟩ := so
      exact ⟨T, q, h1, h2, by rw [upd_ne (ne_of_none h3 hn)]; exact h3⟩
    | scr ns =>
      obtain ⟨a, q, r⟩ := so
      exact ⟨a, q, hs.sqL r⟩
theorem hide_upd (hX : X p) : hide X (upd H p o) = hide X H := by
  funext a
  unfold hide
  split
  · rfl
  · rename_i h
    exact upd_ne fun z => h (z ▸ hX)
theorem Gd.updM (g : Gd K H0 M X0 X ps e σ H) (hX : X p) (h0 : ¬ X0 p) (hM : ¬ M p) (ha : ∀ (i : Nat) ds l, e[i]? = some (.lis ds) → σ[i]? = some (some (.ref l)) → l ≠ p) : Gd K H0 M X0 X ps e σ (upd H p o) := by
  have hn : H0 p = none := (g.xn p hX).resolve_left h0
  refine ⟨g.x0, g.xm, g.xn, fun a h => ?_, fun a u hm q => ?_, g.len, fun i k h => ?_, fun q hq => by rw [hide_upd hX]; exact g.tmp q hq⟩
  · by_cases z : a = p
    · rw [z, upd_same]; exact Option.some_ne_none _
    · rw [upd_ne z]; exact g.xa a h
  · rw [upd_ne (ne_of_none q hn)]
    exact g.kp a u hm q
  · have so := g.slot i k h
    cases k with
    | any => trivial
    | imm d =>
      obtain ⟨v, q, r⟩ := so
      exact ⟨v, q, by rw [hide_upd hX]; exact r⟩
    | lis ds =>
      obtain ⟨l, xs, q, h1, h2, h3, h4, r⟩ := so
      exact ⟨l, xs, q, h1, h2, h3, by rw [upd_ne (ha i ds l h q)]; exact h4, by rw [hide_upd hX]; exact r⟩
    | tub a b c =>
      obtain ⟨T, q, h1, h2, h3⟩ := so
      exact ⟨T, q, h1, h2, by rw [upd_ne (fun (z : T = p) => hM (z ▸ h1))]; exact h3⟩
    | scr ns =>
      obtain ⟨a, q, r⟩ := so
      exact ⟨a, q, by rw [hide_upd hX]; exact r⟩
/-- nothing will change it any more -/
theorem Gd.freeze {xs : List V} (g : Gd K H0 M X0 X ps e σ H) (hX : X p) (h0 : ¬ X0 p) (hp : H p = some (.lst xs)) (r : RpA K (hide X H) xs ds) (ha : ∀ (i : Nat) ds l, e[i]? = some (.lis ds) → σ[i]? = some (some (.ref l)) → l ≠ p) :
    Gd K H0 M X0 (fun a => X a ∧ a ≠ p) ((.ref p, .list ds) :: ps) e σ H := by
  have hs : Sub (hide X H) (hide (fun a => X a ∧ a ≠ p) H) := hide_less fun a h => h.1
  refine ⟨fun a h => ⟨g.x0 a h, fun z => h0 (z ▸ h)⟩, g.xm, fun a h => g.xn a h.1, fun a h => g.xa a h.1, g.kp, g.len, fun i k h => ?_, fun q hq => ?_⟩
  · have so := g.slot i k h
    cases k with
    | any => trivial
    | imm d =>
      obtain ⟨v, q, r⟩ := so
      exact ⟨v, q, Rp.mono hs _ _ r⟩
    | lis ds =>
      obtain ⟨l, xs, q, h1, h2, h3, h4, r⟩ := so
      exact ⟨l, xs, q, ⟨h1, ha i ds l h q⟩, h2, h3, h4, RpA.mono hs _ _ r⟩
    | tub a b c => exact so
    | scr ns =>
      obtain ⟨a, q, r⟩ := so
      exact ⟨a, q, hs.sqL r⟩
  · rcases List.mem_cons.mp hq with rfl | hq
    · exact .lst (hide_at (fun z => z.2 rfl) hp) (RpA.mono hs _ _ r)
    · exact Rp.mono hs _ _ (g.tmp q hq)
end
theorem edm_lst (h : AD K tr e ds e1) (hl : Nat.ble ds.length 1000 = true := by rfl) : EDM K (tLst tr) e ds e1 := fun H0 M X0 ps σ H g Q k =>
  h H0 M X0 ps σ H g _ fun vs H1 hv g1 => ⟨by rw [hv]; exact Nat.le_of_lt (small1000 (Nat.le_of_ble_eq_true hl)), fun p hp => k p _ (by
    obtain ⟨X, g1⟩ := g1
    have hx0 : ¬ X0 p := fun z => g1.xa p (g1.x0 _ z) hp
    exact ⟨_, (g1.newM hp).sub fun p hp => List.mem_append_right _ hp, .inr rfl, hx0, fun z => hx0 (g1.xm _ z), ⟨vs, upd_same, RpA.mono (hide_new hp) _ _ (g1.args hv)⟩, lis_apart g1 hp⟩)⟩
theorem edm_callF {R : List PyData → List PyData → Prop} (h : AD K tr e ds e1) (r : R ds rs) : EDM K (tCall (spF K R) [] E0 tr) e rs e1 := fun H0 M X0 ps σ H g Q k =>
  h H0 M X0 ps σ H g _ fun vs H1 hl g1 => by
    obtain ⟨X, g1⟩ := g1
    refine ⟨X, ds, rs, g1.xa, by rw [List.append_nil]; exact g1.args hl, r, fun p xs H' s hp hx rv => k _ H' ?_⟩
    have hx0 : ¬ X0 p := fun z => g1.xa p (g1.x0 _ z) hp
    have hM : ¬ M p := fun z => hx0 (g1.xm _ z)
    have hap := lis_apart g1 hp
    have hs : Sub (hide X H1) (hide (fun a => X a ∨ a = p) H') := fun a u q => by
      have q0 := hide_sub _ _ q
      have hX : ¬ X a := fun z => by
        unfold hide at q
        rw [if_pos z] at q
        cases q
      exact hide_at (fun z => z.elim hX (ne_of_none q0 hp)) (s _ _ q0)
    have g2 := (g1.ext s).sub (ps' := ps) fun p hp => List.mem_append_right _ hp
    refine ⟨fun a => X a ∨ a = p, ⟨fun a h => .inl (g1.x0 a h), g1.xm, fun a h => ?_, fun a h => ?_, g2.kp, g2.len, fun i k h => ?_, fun q hq => Rp.mono hs _ _ (g1.tmp q (List.mem_append_right _ hq))⟩, .inr rfl, hx0, hM, ⟨xs, hx, rv⟩, hap⟩
    · rcases h with h | h
      · exact g1.xn a h
      · refine .inr ?_
        cases q : H0 a with
        | none => rfl
        | some u =>
          have := g1.kp a u (by rw [h]; exact hM) q
          rw [h, hp] at this
          cases this
    · rcases h with h | h
      · exact g2.xa a h
      · rw [h, hx]; exact Option.some_ne_none _
    · have so := g1.slot i k h
      cases k with
      | any => trivial
      | imm d =>
        obtain ⟨v, q, r⟩ := so
        exact ⟨v, q, Rp.mono hs _ _ r⟩
      | lis ds =>
        obtain ⟨l, xs, q, h1, h2, h3, h4, r⟩ := so
        exact ⟨l, xs, q, .inl h1, h2, h3, s _ _ h4, RpA.mono hs _ _ r⟩
      | tub a b c =>
        obtain ⟨T, q, h1, h2, h3⟩ := so
        exact ⟨T, q, h1, h2, s _ _ h3⟩
      | scr ns =>
        obtain ⟨a, q, r⟩ := so
        exact ⟨a, q, hs.sqL r⟩
/-- a list that was being filled, read as a value -/
theorem ed_varM {i : Nat} (h : e[i]? = some (.lis ds)) (hn : noLis (e.set i .any) = true := by rfl) : ED K (tVar i) e (.list ds) (e.set i (.imm (.list ds))) := fun H0 M X0 ps σ H g Q k => by
  obtain ⟨X, g⟩ := g
  obtain ⟨l, xs, q, h1, h2, h3, h4, r⟩ := g.slot i _ h
  have g1 : Gd K H0 M X0 X ps (e.set i .any) σ H := { g with
    len := by rw [List.length_set]; exact g.len
    slot := fun j k hj => by
      by_cases z : j = i
      · subst z
        rw [← set_at hj]
        trivial
      · exact g.slot j k (by rw [List.getElem?_set_ne (Ne.symm z)] at hj; exact hj) }
  have g2 := g1.freeze h1 h2 h4 r fun j ds l hj _ => nomatch noLis_at hn hj
  refine ⟨.ref l, q, k _ H ⟨_, { g2 with len := by rw [List.length_set]; exact g.len, slot := fun j k hj => ?_ }⟩⟩
  by_cases z : j = i
  · subst z
    rw [← set_at hj]
    exact ⟨.ref l, q, g2.tmp _ List.mem_cons_self⟩
  · exact g2.slot j k (set_ne z (by rw [List.getElem?_set_ne (Ne.symm z)] at hj; exact hj))

/-! targets -/
structure GD (K : Frag) (g : TG) (js : List Nat) (e : List EK) (d : PyData) (e' : List EK) : Prop where
  run : ∀ (H0 : Hp) (M X0 : Ap) (ps : List (V × PyData)) (σ : L2.St) (H : Hp) (v : V), Sk K H0 M X0 ((v, d) :: ps) e σ H → ∀ Q : L2.St → Hp → Prop,
    (∀ σ' H', Sk K H0 M X0 ps e' σ' H' → σ'.length = σ.length → (∀ i, i ∉ js → σ'[i]? = σ[i]?) → Q σ' H') → g v σ H Q
  out : ∀ i, i ∉ js → e'[i]? = e[i]?
structure GDs (K : Frag) (g : TGs) (js : List Nat) (e : List EK) (ds : List PyData) (e' : List EK) : Prop where
  run : ∀ (H0 : Hp) (M X0 : Ap) (ps : List (V × PyData)) (σ : L2.St) (H : Hp) (vs : List V), vs.length = ds.length → Sk K H0 M X0 (vs.zip ds ++ ps) e σ H → ∀ Q : L2.St → Hp → Prop,
    (∀ σ' H', Sk K H0 M X0 ps e' σ' H' → σ'.length = σ.length → (∀ i, i ∉ js → σ'[i]? = σ[i]?) → Q σ' H') → g vs σ H Q
  out : ∀ i, i ∉ js → e'[i]? = e[i]?
theorem set_sk {H0 H : Hp} {M X0 : Ap} {ps : List (V × PyData)} {σ : L2.St} {v : V} {j : Nat} (hj : j < e.length) (g : Sk K H0 M X0 ((v, d) :: ps) e σ H) : Sk K H0 M X0 ps (e.set j (.imm d)) (σ.set j (some v)) H := by
  obtain ⟨X, g⟩ := g
  refine ⟨X, g.x0, g.xm, g.xn, g.xa, g.kp, by rw [List.length_set, List.length_set]; exact g.len, fun i k h => ?_, fun p hp => g.tmp p (List.mem_cons_of_mem _ hp)⟩
  by_cases z : i = j
  · subst z
    rw [← set_at h]
    exact ⟨v, by rw [List.getElem?_set_self (by rw [g.len]; exact hj)], g.tmp _ List.mem_cons_self⟩
  · rw [List.getElem?_set_ne (Ne.symm z)] at h ⊢
    exact g.slot i k h
theorem gd_name {j : Nat} (hj : Nat.blt j e.length = true := by rfl) : GD K (gName j) [j] e d (e.set j (.imm d)) where
  run := fun H0 M X0 ps σ H v g Q k => k _ H (set_sk (Nat.le_of_ble_eq_true hj) g) (by rw [List.length_set]) fun i hi => List.getElem?_set_ne fun z => hi (by simp [z])
  out := fun i hi => List.getElem?_set_ne fun z => hi (by simp [z])
theorem gds_nil : GDs K gNil [] e [] e where
  run := fun H0 M X0 ps σ H vs hl g Q k => ⟨by simpa using hl, k σ H (g.sub fun p hp => List.mem_append_right _ hp) rfl fun _ _ => rfl⟩
  out := fun _ _ => rfl
theorem gds_cons {g : TG} {us : TGs} {js js' : List Nat} (h : GD K g js e d e1) (h2 : GDs K us js' e1 ds e2) : GDs K (gCons g us) (js ++ js') e (d :: ds) e2 where
  run := fun H0 M X0 ps σ H vs hl s Q k => by
    cases vs with
    | nil => simp at hl
    | cons v vs =>
      refine ⟨v, vs, rfl, h.run H0 M X0 (vs.zip ds ++ ps) σ H v (s.sub fun p hp => ?_) _ fun σ' H' s' l' o' => h2.run H0 M X0 ps σ' H' vs (by simpa using hl) s' _ fun σ2 H2 s2 l2 o2 => k σ2 H2 s2 (l2.trans l') fun i hi => ?_⟩
      · rw [List.zip_cons_cons]; exact hp
      · rw [List.mem_append, not_or] at hi
        rw [o2 i hi.2, o' i hi.1]
  out := fun i hi => by
    rw [List.mem_append, not_or] at hi
    rw [h2.out i hi.2, h.out i hi.1]
theorem gd_tup {us : TGs} {js : List Nat} {n : Nat} (h : GDs K us js e ds e1) (hn : ds.length = n := by rfl) : GD K (gTup K n us) js e (.tuple ds) e1 where
  run := fun H0 M X0 ps σ H v s Q k => by
    obtain ⟨X, g⟩ := s
    have r := g.tmp (v, .tuple ds) List.mem_cons_self
    cases r with
    | tup q r =>
      refine ⟨_, _, rfl, hide_sub.sqT q, by rw [r.len]; exact hn, h.run H0 M X0 ps σ H _ r.len ⟨X, { g with tmp := fun p hp => ?_ }⟩ Q k⟩
      rcases List.mem_append.mp hp with hp | hp
      · exact r.mem p hp
      · exact g.tmp p (List.mem_cons_of_mem _ hp)
  out := h.out
theorem gd_lst {us : TGs} {js : List Nat} {n : Nat} (h : GDs K us js e ds e1) (hn : ds.length = n := by rfl) : GD K (gUnl K n us) js e (.list ds) e1 where
  run := fun H0 M X0 ps σ H v s Q k => by
    obtain ⟨X, g⟩ := s
    have r := g.tmp (v, .list ds) List.mem_cons_self
    cases r with
    | lst q r =>
      refine ⟨_, _, rfl, SqL.of (hide_sub _ _ q), by rw [r.len]; exact hn, h.run H0 M X0 ps σ H _ r.len ⟨X, { g with tmp := fun p hp => ?_ }⟩ Q k⟩
      rcases List.mem_append.mp hp with hp | hp
      · exact r.mem p hp
      · exact g.tmp p (List.mem_cons_of_mem _ hp)
  out := h.out

/-! statements -/
def SD (K : Frag) (ts : TS) (e : List EK) (N : List EK → Prop) (Rt : PyData → List EK → Prop) (B C : List EK → Prop) : Prop :=
  ∀ (H0 : Hp) (M X0 : Ap) (ps : List (V × PyData)) (σ : L2.St) (H : Hp), Sk K H0 M X0 ps e σ H → ∀ D : Ends, (∀ e' σ' H', N e' → Sk K H0 M X0 ps e' σ' H' → D.nx σ' H') →
    (∀ v d e' σ' H', Rt d e' → Sk K H0 M X0 ((v, d) :: ps) e' σ' H' → D.rt v H') → (∀ e' σ' H', B e' → Sk K H0 M X0 ps e' σ' H' → D.bk σ' H') → (∀ e' σ' H', C e' → Sk K H0 M X0 ps e' σ' H' → D.ct σ' H') → ts D σ H
variable {N N' B B' C C' : List EK → Prop} {Rt : PyData → List EK → Prop} {ts us : TS}
theorem sd_imp (h : SD K ts e N Rt B C) (hN : ∀ e', N e' → N' e') : SD K ts e N' Rt B C := fun H0 M X0 ps σ H g D n r b c =>
  h H0 M X0 ps σ H g D (fun e' σ' H' x => n e' σ' H' (hN e' x)) r b c
theorem sd_seq (h : SD K ts e N Rt B C) (h2 : ∀ e', N e' → SD K us e' N' Rt B C) : SD K (tSeq ts us) e N' Rt B C := fun H0 M X0 ps σ H g D n r b c =>
  h H0 M X0 ps σ H g _ (fun e' σ' H' x s => h2 e' x H0 M X0 ps σ' H' s D n r b c) r b c
theorem sd_then (h : SD K ts e (fun z => z = e1) Rt B C) (h2 : SD K us e1 N' Rt B C) : SD K (tSeq ts us) e N' Rt B C := sd_seq h fun e' z => z ▸ h2
theorem sd_ret (h : ED K te e d e1) (r : Rt d e1) : SD K (tRet te) e N Rt B C := fun H0 M X0 ps σ H g D n rt b c => h H0 M X0 ps σ H g _ fun v H1 g1 => rt v d e1 σ H1 r g1
theorem sd_asg {g : TG} {js : List Nat} (h : ED K te e d e1) (hg : GD K g js e1 d e2) : SD K (tAsg te g) e (fun z => z = e2) Rt B C := fun H0 M X0 ps σ H s D n rt b c =>
  h H0 M X0 ps σ H s _ fun v H1 g1 => hg.run H0 M X0 ps σ H1 v g1 _ fun σ' H' s' _ _ => n e2 σ' H' rfl s'
/-- x = e -/
theorem sd_set {j : Nat} (h : ED K te e d e1) (hj : Nat.blt j e1.length = true := by rfl) : SD K (tAsg te (gName j)) e (fun z => z = e1.set j (.imm d)) Rt B C := sd_asg h (gd_name hj)
/-- x = a new list, that may change -/
theorem sd_setM {j : Nat} (h : EDM K te e ds e1) (hj : Nat.blt j e1.length = true := by rfl) : SD K (tAsg te (gName j)) e (fun z => z = e1.set j (.lis ds)) Rt B C := fun H0 M X0 ps σ H s D n rt b c =>
  h H0 M X0 ps σ H s _ fun p H1 s1 => by
    obtain ⟨X, g, hX, h0, hM, ⟨xs, hp, r⟩, ha⟩ := s1
    refine n _ _ H1 rfl ⟨X, { g with len := by rw [List.length_set, List.length_set]; exact g.len, slot := fun i k h => ?_ }⟩
    by_cases z : i = j
    · subst z
      rw [← set_at h]
      exact ⟨p, xs, by rw [List.getElem?_set_self (by rw [g.len]; exact Nat.le_of_ble_eq_true hj)], hX, h0, hM, hp, r⟩
    · rw [List.getElem?_set_ne (Ne.symm z)] at h ⊢
      exact g.slot i k h
theorem sd_if {t : TT} (h : TD K t e b e1) (h1 : b = true → SD K ts e1 N Rt B C) (h2 : b = false → SD K us e1 N Rt B C) : SD K (tIfS t ts us) e N Rt B C := fun H0 M X0 ps σ H g D n r bk ct =>
  h H0 M X0 ps σ H g _ fun H1 g1 => by
    cases b with
    | true => exact h1 rfl H0 M X0 ps σ H1 g1 D n r bk ct
    | false => exact h2 rfl H0 M X0 ps σ H1 g1 D n r bk ct
theorem sd_next (h : N e) : SD K tNext e N Rt B C := fun H0 M X0 ps σ H g D n r b c => n e σ H h g
theorem sd_break (h : B e) : SD K tBreak e N Rt B C := fun H0 M X0 ps σ H g D n r b c => b e σ H h g
theorem sd_never (h : False) : SD K tNever e N Rt B C := h.elim
theorem sd_drop (h : ED K te e d e1) : SD K (tDrop te) e (fun z => z = e1) Rt B C := fun H0 M X0 ps σ H g D n r b c => h H0 M X0 ps σ H g _ fun v H1 g1 => n e1 σ H1 rfl g1.pop
/-- a, b = x, y -/
theorem sd_par {i j : Nat} (h : AD K tr e [d1, d2] e1) (hi : Nat.blt i e1.length = true := by rfl) (hj : Nat.blt j e1.length = true := by rfl) : SD K (tPar i j tr) e (fun z => z = (e1.set i (.imm d1)).set j (.imm d2)) Rt B C := fun H0 M X0 ps σ H g D n r b c =>
  h H0 M X0 ps σ H g _ fun vs H1 hl g1 => by
    match vs, hl with
    | [v, w], _ =>
      refine ⟨v, w, rfl, n _ _ H1 rfl (set_sk (by rw [List.length_set]; exact Nat.le_of_ble_eq_true hj) (set_sk (Nat.le_of_ble_eq_true hi) (g1.sub fun p hp => ?_)))⟩
      simp only [List.zip_cons_cons, List.zip_nil_left, List.cons_append, List.nil_append] at hp ⊢
      exact hp
/-- what is known of a name is forgotten -/
theorem sd_weak (h : SD K ts e1 N Rt B C) (hl : e1.length = e.length) (hw : ∀ (i : Nat) k, e1[i]? = some k → k = .any ∨ e[i]? = some k) : SD K ts e N Rt B C := fun H0 M X0 ps σ H g D n r b c =>
  h H0 M X0 ps σ H (let ⟨X, g⟩ := g; ⟨X, { g with len := g.len.trans hl.symm, slot := fun i k q => (hw i k q).elim (fun z => z ▸ True.intro) (fun z => g.slot i k z) }⟩) D n r b c
/-- xs.append(e) -/
theorem sd_app {i : Nat} (hv : e[i]? = some (.lis rs)) (h : ED K te e d e1) (hv1 : e1[i]? = some (.lis ds)) (hz : ds.length < 1000) (hn : noLis (e1.set i .any) = true := by rfl) :
    SD K (tDrop (tBM K "list" rAppend (tVar i) (tCons te tNil))) e (fun z => z = e1.set i (.lis (ds ++ [d]))) Rt B C := fun H0 M X0 ps σ H g D n r b c => by
  obtain ⟨X, g⟩ := g
  obtain ⟨l, xs, q, h1, h2, h3, h4, rx⟩ := g.slot i _ hv
  refine ⟨.ref l, q, .inl ⟨rfl, xs, SqL.of h4⟩, h H0 M X0 ps σ H ⟨X, g⟩ _ fun v H1 g1 => ?_⟩
  obtain ⟨X1, g1⟩ := g1
  obtain ⟨l', xs', q', k1, k2, k3, k4, rx'⟩ := g1.slot i _ hv1
  rw [q] at q'
  cases q'
  refine ⟨l, xs', v, rfl, rfl, k4, by rw [rx'.len]; exact small1000 (Nat.le_of_lt hz), n _ σ _ rfl ?_⟩
  have g2 : Gd K H0 M X0 X1 ps (e1.set i .any) σ H1 := { g1 with
    len := by rw [List.length_set]; exact g1.len
    slot := fun j k hj => by
      by_cases z : j = i
      · subst z
        rw [← set_at hj]
        trivial
      · exact g1.slot j k (by rw [List.getElem?_set_ne (Ne.symm z)] at hj; exact hj)
    tmp := fun p hp => g1.tmp p (List.mem_cons_of_mem _ hp) }
  have g3 := g2.updM (o := .lst (xs' ++ [v])) k1 k2 k3 fun j ds l hj _ => nomatch noLis_at hn hj
  refine ⟨X1, { g3 with len := by rw [List.length_set]; exact g1.len, slot := fun j k hj => ?_ }⟩
  by_cases z : j = i
  · subst z
    rw [← set_at hj]
    refine ⟨l, _, q, k1, k2, k3, upd_same, ?_⟩
    rw [hide_upd k1]
    exact rx'.app (.cons (g1.tmp _ List.mem_cons_self) .nil)
  · exact g3.slot j k (set_ne z (by rw [List.getElem?_set_ne (Ne.symm z)] at hj; exact hj))
/-- xs.pop() -/
theorem sd_pop {i : Nat} (hv : e[i]? = some (.lis ds)) (hz : ds ≠ []) (hn : noLis (e.set i .any) = true := by rfl) :
    SD K (tDrop (tBM0 K "list" rPop (tVar i))) e (fun z => z = e.set i (.lis ds.dropLast)) Rt B C := fun H0 M X0 ps σ H g D n r b c => by
  obtain ⟨X, g1⟩ := g
  obtain ⟨l, xs, q, k1, k2, k3, k4, rx⟩ := g1.slot i _ hv
  have hlen := rx.len
  have hpos : 0 < ds.length := List.length_pos_iff.mpr hz
  have hlt : xs.length - 1 < xs.length := by omega
  refine ⟨.ref l, q, .inl ⟨rfl, xs, SqL.of k4⟩, l, xs, xs[xs.length - 1], rfl, rfl, k4, List.getElem?_eq_getElem hlt, n _ σ _ rfl ?_⟩
  have g2 : Gd K H0 M X0 X ps (e.set i .any) σ H := { g1 with
    len := by rw [List.length_set]; exact g1.len
    slot := fun j k hj => by
      by_cases z : j = i
      · subst z
        rw [← set_at hj]
        trivial
      · exact g1.slot j k (by rw [List.getElem?_set_ne (Ne.symm z)] at hj; exact hj) }
  have g3 := g2.updM (o := .lst xs.dropLast) k1 k2 k3 fun j ds l hj _ => nomatch noLis_at hn hj
  refine ⟨X, { g3 with len := by rw [List.length_set]; exact g1.len, slot := fun j k hj => ?_ }⟩
  by_cases z : j = i
  · subst z
    rw [← set_at hj]
    refine ⟨l, _, q, k1, k2, k3, upd_same, ?_⟩
    rw [hide_upd k1]
    exact rx.dropLast
  · exact g3.slot j k (set_ne z (by rw [List.getElem?_set_ne (Ne.symm z)] at hj; exact hj))
/-- while: Inv by a measure -/
theorem sd_while {t : TT} (Inv : Nat → List EK → Prop) (m0 : Nat) (h0 : Inv m0 e)
    (hs : ∀ m e', Inv m e' → ∃ b e1, TD K t e' b e1 ∧ (b = true → SD K ts e1 (fun e2 => ∃ m', m' < m ∧ Inv m' e2) Rt N (fun e2 => ∃ m', m' < m ∧ Inv m' e2)) ∧ (b = false → N e1)) : SD K (tWhile t ts) e N Rt B C := fun H0 M X0 ps σ H g D n r b c => by
  refine ⟨fun m σ H => ∃ e', Inv m e' ∧ Sk K H0 M X0 ps e' σ H, ⟨m0, e, h0, g⟩, fun m σ H ⟨e', hI, g'⟩ => ?_⟩
  obtain ⟨b, e1, ht, h1, h2⟩ := hs m e' hI
  refine ht H0 M X0 ps σ H g' _ fun H1 g1 => ?_
  cases b with
  | false => exact iteF (n e1 σ H1 (h2 rfl) g1)
  | true =>
    refine iteT ⟨fun σ' H' => ∃ e2 m', m' < m ∧ Inv m' e2 ∧ Sk K H0 M X0 ps e2 σ' H', fun σ' H' ⟨e2, m', lt, hI', g2⟩ => ⟨m', lt, e2, hI', g2⟩, ?_⟩
    exact h1 rfl H0 M X0 ps σ H1 g1 _ (fun e' σ' H' ⟨m', lt, hI'⟩ g2 => ⟨e', m', lt, hI', g2⟩) r (fun e' σ' H' hb g2 => n e' σ' H' hb g2) fun e' σ' H' ⟨m', lt, hI'⟩ g2 => ⟨e', m', lt, hI', g2⟩

/-! what a loop walks -/
structure WalkD (K : Frag) (J : It) (qs : List (V × PyData)) (ds : List PyData) : Prop where
  go : ∀ (H0 : Hp) (M X0 : Ap) (ps : List (V × PyData)) (e : List EK) (σ : L2.St) (H : Hp) (i : Nat) (d : PyData), ds[i]? = some d → Sk K H0 M X0 (qs ++ ps) e σ H → J.go i H ∧ ∀ x H', J.yld i H x H' → Sub H H' ∧ Sk K H0 M X0 ((x, d) :: (qs ++ ps)) e σ H'
  stop : ∀ (H0 : Hp) (M X0 : Ap) (ps : List (V × PyData)) (e : List EK) (σ : L2.St) (H : Hp), Sk K H0 M X0 (qs ++ ps) e σ H → J.stop ds.length H
def ID (K : Frag) (wi : TI) (e : List EK) (ds : List PyData) (e' : List EK) : Prop :=
  ∀ (H0 : Hp) (M X0 : Ap) (ps : List (V × PyData)) (σ : L2.St) (H : Hp), Sk K H0 M X0 ps e σ H → ∀ R : It → Hp → Prop, (∀ J qs H2, WalkD K J qs ds → Sk K H0 M X0 (qs ++ ps) e' σ H2 → R J H2) → wi σ H R
theorem id_tup (h : ED K te e (.tuple ds) e1) : ID K (iTup K te) e ds e1 := fun H0 M X0 ps σ H g R k => h H0 M X0 ps σ H g _ fun v H1 g1 => by
  have r := g1.top
  cases r with
  | tup s r =>
    rename_i a xs
    refine ⟨a, rfl, ⟨xs, s⟩, k _ [(.ref a, .tuple ds)] H1 ⟨fun H0 M X0 ps e σ H i d hi g => ?_, fun H0 M X0 ps e σ H g => ?_⟩ g1⟩
    · obtain ⟨X, g⟩ := g
      have r := g.tmp _ List.mem_cons_self
      cases r with
      | tup s r =>
        obtain ⟨v, hv, rv⟩ := r.get hi
        refine ⟨⟨_, v, hide_sub.sqT s, hv⟩, fun x H' ⟨q1, q2⟩ => ?_⟩
        subst q1
        have hx := q2 _ (hide_sub.sqT s)
        rw [hv] at hx
        cases hx
        exact ⟨Sub.refl _, X, g.push rv⟩
    · have r := g.top
      cases r with
      | tup s r => exact ⟨_, s, by rw [r.len]; exact Nat.le_refl _⟩
theorem id_lst (h : ED K te e (.list ds) e1) : ID K (iList K te) e ds e1 := fun H0 M X0 ps σ H g R k => h H0 M X0 ps σ H g _ fun v H1 g1 => by
  have r := g1.top
  cases r with
  | lst s r =>
    rename_i a xs
    refine ⟨a, rfl, ⟨xs, SqL.of s⟩, k _ [(.ref a, .list ds)] H1 ⟨fun H0 M X0 ps e σ H i d hi g => ?_, fun H0 M X0 ps e σ H g => ?_⟩ g1⟩
    · obtain ⟨X, g⟩ := g
      have r := g.tmp _ List.mem_cons_self
      cases r with
      | lst s r =>
        obtain ⟨v, hv, rv⟩ := r.get hi
        refine ⟨⟨_, v, SqL.of (hide_sub _ _ s), hv⟩, fun x H' ⟨q1, q2⟩ => ?_⟩
        subst q1
        have hx := q2 _ (SqL.of (hide_sub _ _ s))
        rw [hv] at hx
        cases hx
        exact ⟨Sub.refl _, X, g.push rv⟩
    · have r := g.top
      cases r with
      | lst s r => exact ⟨_, SqL.of s, by rw [r.len]; exact Nat.le_refl _⟩
def iSeq (K : Frag) (tl : TE) : TI := fun σ H R => iList K tl σ H R ∨ iTup K tl σ H R
theorem pi_seq {X : Cx} {tg l : Expr} {tl : TE} (hl : PE X l tl) : PI X tg l (iSeq X.K tl) := ⟨fun pins s σ H R I h => h.elim (fun q => (pi_list hl).run pins s σ H R I q) fun q => (pi_tup hl).run pins s σ H R I q⟩
theorem id_seqL (h : ED K te e (.list ds) e1) : ID K (iSeq K te) e ds e1 := fun H0 M X0 ps σ H g R k => .inl (id_lst h H0 M X0 ps σ H g R k)
theorem id_seqT (h : ED K te e (.tuple ds) e1) : ID K (iSeq K te) e ds e1 := fun H0 M X0 ps σ H g R k => .inr (id_tup h H0 M X0 ps σ H g R k)
def rngD (lo : Int) (n : Nat) : List PyData := (List.range n).map fun (i : Nat) => .int (lo + (i : Int))
theorem rngD_len {lo : Int} {n : Nat} : (rngD lo n).length = n := by unfold rngD; rw [List.length_map, List.length_range]
theorem rngD_at {lo : Int} {n i : Nat} {d : PyData} (h : (rngD lo n)[i]? = some d) : i < n ∧ d = .int (lo + (i : Int)) := by
  unfold rngD at h
  rw [List.getElem?_map] at h
  by_cases q : i < n
  · rw [List.getElem?_range q] at h
    exact ⟨q, (Option.some.inj h).symm⟩
  · rw [List.getElem?_eq_none (by simpa using q)] at h
    cases h
theorem walk_rng {lo : Int} {n : Nat} : WalkD K (Itr lo n) [] (rngD lo n) where
  go := fun H0 M X0 ps e σ H i d hi g => by
    obtain ⟨h1, h2⟩ := rngD_at hi
    refine ⟨h1, fun x H' ⟨q1, q2⟩ => ?_⟩
    subst q1 q2 h2
    exact ⟨Sub.refl _, g.int _⟩
  stop := fun H0 M X0 ps e σ H g => by rw [rngD_len]; exact Nat.le_refl n
theorem id_rng1 {n : Int} (h : AD K tr e [.int n] e1) (hn : 0 ≤ n ∧ n ≤ 100000) : ID K (iRng1 tr) e (rngD 0 n.toNat) e1 := fun H0 M X0 ps σ H g R k => h H0 M X0 ps σ H g _ fun vs H1 hl g1 => by
  match vs, hl with
  | [v], _ =>
    have hv : v = .int n := rp_int (g1.at_ (d := .int n) (by simp))
    subst hv
    exact ⟨n, rfl, by omega, by omega, k _ [] H1 walk_rng (g1.sub fun p hp => by simp at hp ⊢; exact .inr hp)⟩
theorem id_rng2 {lo n : Int} (h : AD K tr e [.int lo, .int n] e1) (hn : 0 ≤ lo ∧ lo ≤ 100000 ∧ -100000 ≤ n ∧ n ≤ 100000) : ID K (iRng2 tr) e (rngD lo (n - lo).toNat) e1 := fun H0 M X0 ps σ H g R k => h H0 M X0 ps σ H g _ fun vs H1 hl g1 => by
  match vs, hl with
  | [v, w], _ =>
    have hv : v = .int lo := rp_int (g1.at_ (d := .int lo) (by simp))
    have hw : w = .int n := rp_int (g1.at_ (d := .int n) (by simp))
    subst hv hw
    exact ⟨lo, n, rfl, by omega, k _ [] H1 walk_rng (g1.sub fun p hp => by simp at hp ⊢; exact .inr (.inr hp))⟩
/-- a new pair at each turn -/
theorem pair_sk {H0 H : Hp} {M X0 : Ap} {ps : List (V × PyData)} {σ : L2.St} {T : Addr} {x y : V} (g : Sk K H0 M X0 ((x, d1) :: (y, d2) :: ps) e σ H) (hT : H T = none) : Sk K H0 M X0 ((.ref T, .tuple [d1, d2]) :: ps) e σ (upd H T (.tup [x, y])) :=
  Sk.newTup (vs := [x, y]) (ds := [d1, d2]) (g.sub fun p hp => by simpa using hp) rfl hT
def enumD (ds : List PyData) : List PyData := (List.range ds.length).zipWith (fun (i : Nat) d => .tuple [.int (i : Int), d]) ds
theorem enumD_len : (enumD ds).length = ds.length := by unfold enumD; rw [List.length_zipWith, List.length_range, Nat.min_self]
theorem enumD_at {i : Nat} (h : (enumD ds)[i]? = some d) : ∃ d0, ds[i]? = some d0 ∧ d = .tuple [.int (i : Int), d0] := by
  unfold enumD at h
  rw [List.getElem?_zipWith] at h
  by_cases q : i < ds.length
  · rw [List.getElem?_range q, List.getElem?_eq_getElem q] at h
    exact ⟨ds[i], List.getElem?_eq_getElem q, (Option.some.inj h).symm⟩
  · rw [List.getElem?_eq_none (l := ds) (by simpa using q)] at h
    split at h <;> simp_all
theorem id_enumL (h : ED K te e (.list ds) e1) : ID K (iEnum K (tCons te tNil)) e (enumD ds) e1 := fun H0 M X0 ps σ H g R k => h H0 M X0 ps σ H g _ fun v H1 g1 => by
  have r := g1.top
  cases r with
  | lst s r =>
    rename_i a xs
    refine ⟨a, xs, rfl, SqL.of s, k _ [(.ref a, .list ds)] H1 ⟨fun H0 M X0 ps e σ H i d hi g => ?_, fun H0 M X0 ps e σ H g => ?_⟩ g1⟩
    · obtain ⟨d0, hd, rfl⟩ := enumD_at hi
      obtain ⟨X, g⟩ := g
      have r := g.tmp _ List.mem_cons_self
      cases r with
      | lst s r =>
        obtain ⟨v, hv, rv⟩ := r.get hd
        refine ⟨⟨_, v, SqL.of (hide_sub _ _ s), hv⟩, fun x H' ⟨T, y, q1, q2, q3, q4⟩ => ?_⟩
        subst q1 q3
        have hx := q4 _ (SqL.of (hide_sub _ _ s))
        rw [hv] at hx
        cases hx
        exact ⟨Sub.new q2, pair_sk ((Sk.int ⟨X, g.push rv⟩ _)) q2⟩
    · have r := g.top
      cases r with
      | lst s r => exact ⟨_, SqL.of s, by rw [r.len, enumD_len]; exact Nat.le_refl _⟩
def zipD (ds ds' : List PyData) : List PyData := ds.zipWith (fun d d' => .tuple [d, d']) ds'
theorem id_zip {ds' : List PyData} (h : ED K ta e (.list ds) e1) (h2 : ED K tb e1 (.list ds') e2) (hl : ds.length = ds'.length) : ID K (iZip K (tCons ta (tCons tb tNil))) e (zipD ds ds') e2 := fun H0 M X0 ps σ H g R k => h H0 M X0 ps σ H g _ fun v H1 g1 => h2 H0 M X0 _ σ H1 g1 _ fun w H2 g2 => by
  have r := g2.top2
  have r' := g2.top
  cases r with
  | lst s r =>
    rename_i a xs
    cases r' with
    | lst s' r' =>
      rename_i b ys
      refine ⟨a, b, xs, ys, rfl, SqL.of s, SqL.of s', k _ [(.ref b, .list ds'), (.ref a, .list ds)] H2 ⟨fun H0 M X0 ps e σ H i d hi g => ?_, fun H0 M X0 ps e σ H g => ?_⟩ g2⟩
      · unfold zipD at hi
        rw [List.getElem?_zipWith] at hi
        cases hd : ds[i]? with
        | none => rw [hd] at hi; split at hi <;> simp_all
        | some x0 =>
          cases hd' : ds'[i]? with
          | none => rw [hd'] at hi; split at hi <;> simp_all
          | some y0 =>
            rw [hd, hd'] at hi
            have hi : d = .tuple [x0, y0] := (Option.some.inj hi).symm
            subst hi
            obtain ⟨X, g⟩ := g
            have r := g.tmp (.ref a, .list ds) (by simp)
            have r' := g.tmp (.ref b, .list ds') (by simp)
            cases r with
            | lst s r =>
              cases r' with
              | lst s' r' =>
                obtain ⟨v, hv, rv⟩ := r.get hd
                obtain ⟨w, hw, rw'⟩ := r'.get hd'
                refine ⟨⟨_, _, v, w, SqL.of (hide_sub _ _ s), SqL.of (hide_sub _ _ s'), hv, hw⟩, fun x H' ⟨T, y, z, q1, q2, q3, q4, q5⟩ => ?_⟩
                subst q1 q3
                have hx := q4 _ (SqL.of (hide_sub _ _ s))
                rw [hv] at hx
                cases hx
                have hy := q5 _ (SqL.of (hide_sub _ _ s'))
                rw [hw] at hy
                cases hy
                exact ⟨Sub.new q2, pair_sk ⟨X, (g.push rw').push rv⟩ q2⟩
      · have r := g.at_ (v := .ref a) (d := .list ds) (by simp)
        have r' := g.at_ (v := .ref b) (d := .list ds') (by simp)
        cases r with
        | lst s r =>
          cases r' with
          | lst s' r' => exact ⟨_, _, SqL.of s, SqL.of s', .inl (by unfold zipD; rw [List.length_zipWith, hl, Nat.min_self, r.len, hl]; exact Nat.le_refl _)⟩
/-- for -/
theorem sd_for {wi : TI} {g : TG} (Inv : Nat → List EK → Prop) (h : ID K wi e ds e1) (h0 : Inv 0 e1)
    (hs : ∀ i d e', ds[i]? = some d → Inv i e' → ∃ e2 js, GD K g js e' d e2 ∧ SD K ts e2 (Inv (i + 1)) Rt N (Inv (i + 1))) (hd : ∀ e', Inv ds.length e' → N e') : SD K (tFor wi g ts) e N Rt B C := fun H0 M X0 ps σ H s D n r b c =>
  h H0 M X0 ps σ H s _ fun J qs H1 w g1 => by
    refine ⟨fun i m σ H => m = ds.length - i ∧ i ≤ ds.length ∧ ∃ e', Inv i e' ∧ Sk K H0 M X0 (qs ++ ps) e' σ H, ⟨_, rfl, Nat.zero_le _, e1, h0, g1⟩, fun i m σ H ⟨hm, hi, e', hI, g'⟩ => ?_⟩
    by_cases q : i < ds.length
    · obtain ⟨hgo, hy⟩ := w.go H0 M X0 ps e' σ H i ds[i] (List.getElem?_eq_getElem q) g'
      obtain ⟨e2, js, hg, hb⟩ := hs i ds[i] e' (List.getElem?_eq_getElem q) hI
      refine .inr ⟨hgo, fun σ' H' => ∃ e2, Inv (i + 1) e2 ∧ Sk K H0 M X0 (qs ++ ps) e2 σ' H', fun σ' H' ⟨e2, a, b⟩ => ⟨ds.length - (i + 1), by omega, rfl, q, e2, a, b⟩, fun x H' y => ?_⟩
      obtain ⟨_, g2⟩ := hy x H' y
      refine hg.run H0 M X0 (qs ++ ps) σ H' x g2 _ fun σ2 H2 s2 _ _ => ?_
      refine hb H0 M X0 (qs ++ ps) σ2 H2 s2 _ (fun e3 σ3 H3 a b => ⟨e3, a, b⟩) (fun v d e3 σ3 H3 a b => r v d e3 σ3 H3 a (b.sub fun p hp => ?_)) (fun e3 σ3 H3 a b => n e3 σ3 H3 a (b.sub fun p hp => List.mem_append_right _ hp)) fun e3 σ3 H3 a b => ⟨e3, a, b⟩
      rcases List.mem_cons.mp hp with hp | hp
      · rw [hp]; exact List.mem_cons_self
      · exact List.mem_cons_of_mem _ (List.mem_append_right _ hp)
    · have hie : i = ds.length := by omega
      subst hie
      exact .inl ⟨w.stop H0 M X0 ps e' σ H g', n e' σ H (hd e' hI) (g'.sub fun p hp => List.mem_append_right _ hp)⟩
end
end Hull
namespace Hull
open PySem PySem.Spec PyProof.Rows L2

section
variable {K : Frag} {te ta tb tc tl : TE} {t u : TT} {e e1 e2 e3 e' : List EK} {d d1 d2 : PyData} {ds rs : List PyData} {b c : Bool} {tr : TA}
/-! a part that changes nothing, run within another state -/
def EK.strip : EK → EK
  | .imm d => .imm d
  | _ => .any
def strip (e : List EK) : List EK := e.map EK.strip
theorem Gd.inner {H0 H : Hp} {M X0 X Y : Ap} {ps : List (V × PyData)} {σ : L2.St} (g : Gd K H0 M X0 X ps e σ H) (hY : ∀ a, X a → Y a) (hA : ∀ a, Y a → H a ≠ none) (hs : ∀ (i : Nat) (d : PyData), e[i]? = some (EK.imm d) → ∃ v, σ[i]? = some (some v) ∧ Rp K (hide Y H) v d) :
    Gd K H (fun _ => False) Y Y [] (strip e) σ H where
  x0 := fun _ h => h
  xm := fun _ h => h.elim
  xn := fun _ h => .inl h
  xa := hA
  kp := fun _ _ _ h => h
  len := by unfold strip; rw [List.length_map]; exact g.len
  slot := fun i k h => by
    unfold strip at h
    rw [List.getElem?_map] at h
    cases q : e[i]? with
    | none => rw [q] at h; cases h
    | some k' =>
      rw [q] at h
      cases Option.some.inj h
      cases k' with
      | imm d => exact hs i d q
      | _ => trivial
  tmp := fun _ h => by cases h
theorem Gd.back {H H2 : Hp} {Y : Ap} {ps : List (V × PyData)} {σ : L2.St} {e' : List EK} (g : Sk K H (fun _ => False) Y ps e' σ H2) : Sub H H2 ∧ ∀ p ∈ ps, Rp K (hide Y H2) p.1 p.2 := by
  obtain ⟨X, g⟩ := g
  exact ⟨fun a o h => g.kp a o (fun z => z) h, fun p hp => Rp.mono (hide_less g.x0) _ _ (g.tmp p hp)⟩
theorem wipe_any {H0 H : Hp} {M X0 X : Ap} {ps : List (V × PyData)} {σ : L2.St} {vs : List Nat} (g : Gd K H0 M X0 X ps e σ H) (h : ∀ (i : Nat) (k : EK), e[i]? = some k → i ∈ vs → k = .any) : Gd K H0 M X0 X ps e (wipe σ vs) H := { g with
  len := by rw [wipe_length]; exact g.len
  slot := fun i k q => by
    by_cases z : i ∈ vs
    · rw [h i k q z]; trivial
    · have ew : (wipe σ vs)[i]? = σ[i]? := by
        clear g h q
        induction vs with
        | nil => rfl
        | cons v vs ih =>
          simp only [List.mem_cons, not_or] at z
          unfold wipe
          rw [List.getElem?_set_ne (Ne.symm z.1)]
          exact ih z.2
      rw [ew]; exact g.slot i k q }
theorem wipe_in {σ : L2.St} : ∀ {vs : List Nat} {i : Nat}, i ∈ vs → (wipe σ vs)[i]? = if i < σ.length then some none else none
  | v :: vs, i, h => by
    unfold wipe
    by_cases z : v = i
    · subst z
      rw [List.getElem?_set]
      simp [wipe_length]
    · rw [List.getElem?_set_ne z]
      exact wipe_in ((List.mem_cons.mp h).resolve_left (Ne.symm z))
theorem wipe_out {σ : L2.St} : ∀ {vs : List Nat} {i : Nat}, i ∉ vs → (wipe σ vs)[i]? = σ[i]?
  | [], _, _ => rfl
  | v :: vs, i, h => by
    simp only [List.mem_cons, not_or] at h
    unfold wipe
    rw [List.getElem?_set_ne (Ne.symm h.1)]
    exact wipe_out h.2
theorem wipe_eq {σ σ' : L2.St} {vs : List Nat} (hl : σ'.length = σ.length) (h : ∀ i, i ∉ vs → σ'[i]? = σ[i]?) : wipe σ' vs = wipe σ vs := by
  apply List.ext_getElem?
  intro i
  by_cases z : i ∈ vs
  · rw [wipe_in z, wipe_in z, hl]
  · rw [wipe_out z, wipe_out z, h i z]
/-- [te for g in wi] -/
theorem ed_lc {wi : TI} {g : TG} {vs : List Nat} (hi : ID K wi e ds e1) (hv : ∀ (i : Nat) (k : EK), e1[i]? = some k → i ∈ vs → k = .any) (hl : rs.length = ds.length) (hz : ds.length ≤ 1000)
    (ht : ∀ (i : Nat) (d r : PyData), ds[i]? = some d → rs[i]? = some r → ∃ e2 js, (∀ j ∈ js, j ∈ vs) ∧ GD K g js (strip e1) d e2 ∧ ED K te e2 r e2) : ED K (tLc wi g tYes te vs) e (.list rs) e1 := fun H0 M X0 ps σ H s Q k =>
  hi H0 M X0 ps σ H s _ fun J qs H1 w g1 D hD => by
    obtain ⟨X, g1⟩ := g1
    have hap := lis_apart g1 hD
    have hx0 : ¬ X0 D := fun z => g1.xa D (g1.x0 _ z) hD
    have hM : ¬ M D := fun z => hx0 (g1.xm _ z)
    refine ⟨fun i m H => m = ds.length - i ∧ i ≤ ds.length ∧ ∃ xs, Gd K H0 M X0 (fun a => X a ∨ a = D) (qs ++ ps) e1 σ H ∧ H D = some (.lst xs) ∧ RpA K (hide (fun a => X a ∨ a = D) H) xs (rs.take i),
      ⟨_, rfl, Nat.zero_le _, [], g1.newM hD, upd_same, .nil⟩, fun i m H ⟨hm, hi, xs, g2, hDx, rx⟩ => ?_⟩
    by_cases q : i < ds.length
    · have hdi := List.getElem?_eq_getElem q
      have qr : i < rs.length := by rw [hl]; exact q
      have hri := List.getElem?_eq_getElem qr
      obtain ⟨hgo, hy⟩ := w.go H0 M X0 ps e1 σ H i ds[i] hdi ⟨_, g2⟩
      obtain ⟨e2, js, hjs, hg, he⟩ := ht i ds[i] rs[i] hdi hri
      refine .inr ⟨hgo, fun H' => ∃ xs, Gd K H0 M X0 (fun a => X a ∨ a = D) (qs ++ ps) e1 σ H' ∧ H' D = some (.lst xs) ∧ RpA K (hide (fun a => X a ∨ a = D) H') xs (rs.take (i + 1)), fun H' ⟨xs, a, b, c⟩ => ⟨ds.length - (i + 1), by omega, rfl, q, xs, a, b, c⟩, fun x H' y => ?_⟩
      obtain ⟨s1, _⟩ := hy x H' y
      -- the item, within what the loop sees: its own facts
      have gi : Gd K H (fun _ => False) (fun a => X a ∨ a = D) (fun a => X a ∨ a = D) qs (strip e1) (wipe σ vs) H := by
        have z := wipe_any (g2.inner (Y := fun a => X a ∨ a = D) (fun _ h => h) g2.xa fun i d h => g2.slot i _ h) (vs := vs) fun i k h hm => by
          unfold strip at h
          rw [List.getElem?_map] at h
          cases q : e1[i]? with
          | none => rw [q] at h; cases h
          | some k' =>
            rw [q, hv i k' q hm] at h
            exact (Option.some.inj h).symm
        exact { z with tmp := fun p hp => g2.tmp p (List.mem_append_left _ hp) }
      obtain ⟨_, g3⟩ := (w.go H (fun _ => False) (fun a => X a ∨ a = D) [] (strip e1) (wipe σ vs) H i ds[i] hdi ⟨_, by rw [List.append_nil]; exact gi⟩).2 x H' y
      rw [List.append_nil] at g3
      refine hg.run H (fun _ => False) (fun a => X a ∨ a = D) [] (wipe σ vs) H' x (g3.sub fun p hp => by
        rcases List.mem_cons.mp hp with h | h
        · rw [h]; exact List.mem_cons_self
        · cases h) _ fun σ2 H2 s2 l2 o2 => ⟨?_, ?_⟩
      · have e2' := wipe_eq (σ := wipe σ vs) (σ' := σ2) (vs := vs) l2 fun i hi => o2 i fun z => hi (hjs i z)
        rw [e2']
        exact wipe_eq (wipe_length σ vs) fun i hi => wipe_out hi
      · show te σ2 H2 fun y H4 => ∃ acc, H4 D = some (.lst acc) ∧ acc.length < sizeLine ∧ ∃ xs, Gd K H0 M X0 (fun a => X a ∨ a = D) (qs ++ ps) e1 σ (upd H4 D (.lst (acc ++ [y]))) ∧ (upd H4 D (.lst (acc ++ [y]))) D = some (.lst xs) ∧
          RpA K (hide (fun a => X a ∨ a = D) (upd H4 D (.lst (acc ++ [y])))) xs (rs.take (i + 1))
        refine he H (fun _ => False) (fun a => X a ∨ a = D) [] σ2 H2 s2 _ fun v H3 s3 => ?_
        obtain ⟨s4, r4⟩ := Gd.back s3
        have rv := r4 _ List.mem_cons_self
        have g5 := g2.ext s4
        refine ⟨xs, s4 _ _ hDx, by rw [rx.len, List.length_take]; exact small1000 (by omega), xs ++ [v], g5.updM (.inr rfl) hx0 hM hap, upd_same, ?_⟩
        rw [hide_upd (X := fun a => X a ∨ a = D) (.inr rfl), List.take_succ, hri]
        exact (RpA.mono (hide_mono fun a o _ h => s4 a o h) _ _ rx).app (.cons rv .nil)
    · have hie : i = ds.length := by omega
      subst hie
      refine .inl ⟨w.stop H0 M X0 ps e1 σ H ⟨_, g2⟩, k _ H ⟨_, (g2.sub fun p hp => List.mem_append_right _ hp).freeze (.inr rfl) hx0 hDx ?_ hap⟩⟩
      rw [List.take_of_length_le (by rw [hl]; exact Nat.le_refl _)] at rx
      exact rx

/-! slices, sums of lists, tuples of lists -/
def OD (K : Frag) (to : TO) (e : List EK) (o : Option Int) (e' : List EK) : Prop :=
  ∀ (H0 : Hp) (M X0 : Ap) (ps : List (V × PyData)) (σ : L2.St) (H : Hp), Sk K H0 M X0 ps e σ H → ∀ Q : Option Int → Hp → Prop, (∀ H2, Sk K H0 M X0 ps e' σ H2 → Q o H2) → to σ H Q
theorem od_no : OD K tNoPart e none e := fun _ _ _ _ _ H g _ k => k H g
theorem od_some {i : Int} (h : ED K te e (.int i) e1) : OD K (tPart te) e (some i) e1 := fun H0 M X0 ps σ H g Q k => h H0 M X0 ps σ H g _ fun v H1 g1 => ⟨i, rp_int g1.top, k H1 g1.pop⟩
def cutD (ds : List PyData) (lo hi : Option Int) : List PyData := (ds.drop (HT.sIx ds.length 0 lo)).take (HT.sIx ds.length ds.length hi - HT.sIx ds.length 0 lo)
theorem RpA.cut {H : Hp} {xs : List V} {lo hi : Option Int} (h : RpA K H xs ds) : RpA K H (cutV xs lo hi) (cutD ds lo hi) := by
  unfold cutV cutD
  rw [h.len]
  exact (h.drop _).take _
theorem rp_new {H : Hp} {X : Ap} {p : Addr} {xs : List V} (hX : ¬ X p) (hp : H p = none) (r : RpA K (hide X H) xs ds) : Rp K (hide X (upd H p (.lst xs))) (.ref p) (.list ds) :=
  .lst (hide_at hX upd_same) (RpA.mono (hide_mono fun a o _ h => Sub.new hp a o h) _ _ r)
theorem rp_newT {H : Hp} {X : Ap} {p : Addr} {xs : List V} (hX : ¬ X p) (hp : H p = none) (r : RpA K (hide X H) xs ds) : Rp K (hide X (upd H p (.tup xs))) (.ref p) (.tuple ds) :=
  .tup (.inl (.inl (hide_at hX upd_same))) (RpA.mono (hide_mono fun a o _ h => Sub.new hp a o h) _ _ r)
theorem ed_slL {lo hi : Option Int} {tlo thi : TO} (h : ED K te e (.list ds) e1) (h1 : OD K tlo e1 lo e2) (h2 : OD K thi e2 hi e3) : ED K (tSl (rSlL K) te tlo thi) e (.list (cutD ds lo hi)) e3 := fun H0 M X0 ps σ H g Q k =>
  h H0 M X0 ps σ H g _ fun v H1 g1 => h1 H0 M X0 _ σ H1 g1 _ fun H2 g2 => h2 H0 M X0 _ σ H2 g2 _ fun H3 g3 => by
    obtain ⟨X, g⟩ := g3
    have r := g.tmp _ List.mem_cons_self
    cases r with
    | lst s r => exact ⟨_, _, rfl, SqL.of (hide_sub _ _ s), fun p hp => k _ _ ⟨X, ((g.ext (Sub.new hp)).sub fun q hq => List.mem_cons_of_mem _ hq).push (rp_new (g.fresh hp) hp r.cut)⟩⟩
/-- of a list that is still being filled -/
theorem ed_slM {i : Nat} {lo hi : Option Int} {tlo thi : TO} (hv : e[i]? = some (.lis ds)) (h1 : OD K tlo e lo e) (h2 : OD K thi e hi e) : ED K (tSl (rSlL K) (tVar i) tlo thi) e (.list (cutD ds lo hi)) e := fun H0 M X0 ps σ H g Q k => by
  obtain ⟨X0', g0⟩ := g
  obtain ⟨l, xs0, a, _⟩ := g0.slot i _ hv
  refine ⟨.ref l, a, h1 H0 M X0 _ σ H ⟨X0', g0⟩ _ fun H2 g2 => h2 H0 M X0 _ σ H2 g2 _ fun H3 g3 => ?_⟩
  obtain ⟨X, g⟩ := g3
  obtain ⟨l', xs, a', _, _, _, h4, r⟩ := g.slot i _ hv
  rw [a] at a'
  cases a'
  exact ⟨l, xs, rfl, SqL.of h4, fun p hp => k _ _ ⟨X, (g.ext (Sub.new hp)).push (rp_new (g.fresh hp) hp r.cut)⟩⟩
theorem ed_cat {ds' : List PyData} (ha : ED K ta e (.list ds) e1) (hb : ED K tb e1 (.list ds') e2) (hz : ds.length + ds'.length ≤ 1000) : ED K (tOp rCat ta tb) e (.list (ds ++ ds')) e2 :=
  ed_bin ha hb fun H0 M X0 ps σ H x y g2 Q k => by
    obtain ⟨X, g⟩ := g2
    have r := g.tmp (x, .list ds) (by simp)
    have r' := g.tmp (y, .list ds') (by simp)
    cases r with
    | lst s r =>
      cases r' with
      | lst s' r' =>
        exact ⟨_, _, _, _, rfl, rfl, hide_sub _ _ s, hide_sub _ _ s', by rw [r.len, r'.len]; exact Nat.le_of_lt (small1000 hz), fun p hp => k _ _ ⟨X, ((g.ext (Sub.new hp)).sub fun q hq => List.mem_cons_of_mem _ (List.mem_cons_of_mem _ hq)).push (rp_new (g.fresh hp) hp (r.app r'))⟩⟩
abbrev rTupOf (K : Frag) : List V → Hp → VK → Prop := fun xs H Q => ∃ p ys, xs = [.ref p] ∧ ((SqL K H p ys ∧ ∀ l, H l = none → Q (.ref l) (upd H l (.tup ys))) ∨ (SqT K H p ys ∧ Q (.ref p) H))
theorem ed_tupOf (h : ED K te e (.list ds) e1) : ED K (tCB (rTupOf K) (tCons te tNil)) e (.tuple ds) e1 := fun H0 M X0 ps σ H g Q k => h H0 M X0 ps σ H g _ fun v H1 g1 => by
  obtain ⟨X, g⟩ := g1
  have r := g.tmp _ List.mem_cons_self
  cases r with
  | lst s r => exact ⟨_, _, rfl, .inl ⟨SqL.of (hide_sub _ _ s), fun p hp => k _ _ ⟨X, ((g.ext (Sub.new hp)).sub fun q hq => List.mem_cons_of_mem _ hq).push (rp_newT (g.fresh hp) hp r)⟩⟩⟩
theorem ed_tupOfT2 (h : ED K te e (.tuple ds) e1) : ED K (tCB (rTupOf K) (tCons te tNil)) e (.tuple ds) e1 := fun H0 M X0 ps σ H g Q k => h H0 M X0 ps σ H g _ fun v H1 g1 => by
  have r := g1.top
  cases r with
  | tup s r => exact ⟨_, _, rfl, .inr ⟨s, k _ _ g1⟩⟩
theorem ed_rev (h : ED K te e (.list ds) e1) : ED K (tRevL K te) e (.list ds.reverse) e1 := fun H0 M X0 ps σ H g Q k => h H0 M X0 ps σ H g _ fun v H1 g1 => by
  obtain ⟨X, g⟩ := g1
  have r := g.tmp _ List.mem_cons_self
  cases r with
  | lst s r => exact ⟨_, _, rfl, SqL.of (hide_sub _ _ s), fun p hp => k _ _ ⟨X, ((g.ext (Sub.new hp)).sub fun q hq => List.mem_cons_of_mem _ hq).push (rp_new (g.fresh hp) hp r.rev)⟩⟩
abbrev rAllB (K : Frag) : List V → Hp → VK → Prop := fun vs H Q => ∃ (a : Addr) (bs : List Bool), vs = [V.ref a] ∧ SqL K H a (bs.map V.bl) ∧ Q (.bl (bs.all id)) H
abbrev rAnyB (K : Frag) : List V → Hp → VK → Prop := fun vs H Q => ∃ (a : Addr) (bs : List Bool), vs = [V.ref a] ∧ SqL K H a (bs.map V.bl) ∧ Q (.bl (bs.any id)) H
theorem ed_all {bs : List Bool} (h : ED K te e (.list (bs.map .bool)) e1) : ED K (tCB (rAllB K) (tCons te tNil)) e (.bool (bs.all id)) e1 := fun H0 M X0 ps σ H g Q k => h H0 M X0 ps σ H g _ fun v H1 g1 => by
  have r := g1.top
  cases r with
  | lst s r => exact ⟨_, bs, rfl, SqL.of (by rw [s, r.bls]), k _ _ (g1.pop.bl _)⟩
theorem ed_any {bs : List Bool} (h : ED K te e (.list (bs.map .bool)) e1) : ED K (tCB (rAnyB K) (tCons te tNil)) e (.bool (bs.any id)) e1 := fun H0 M X0 ps σ H g Q k => h H0 M X0 ps σ H g _ fun v H1 g1 => by
  have r := g1.top
  cases r with
  | lst s r => exact ⟨_, bs, rfl, SqL.of (by rw [s, r.bls]), k _ _ (g1.pop.bl _)⟩
example {X : Cx} (hc : X.calm = true) : CallR X (.builtin "all") (rAllB X.K) := cr_all hc
example {X : Cx} (hc : X.calm = true) : CallR X (.builtin "any") (rAnyB X.K) := cr_any hc
example {X : Cx} : CallR X (.type "tuple") (rTupOf X.K) := call_tuple_of
/-! isinstance -/
def tyD : PyData → Option String
  | .none => some "NoneType"
  | .bool _ => some "bool"
  | .int _ => some "int"
  | .str _ => some "str"
  | .list _ => some "list"
  | .tuple _ => some "tuple"
  | .dict _ => none
theorem tyX_of {H : Hp} {v : V} {n : String} (h : Rp K H v d) (q : tyD d = some n) : TyX K H v (.type n) := by
  cases h with
  | non => cases q; exact .base .non
  | bl b => cases q; exact .base (.bl b)
  | int i => cases q; exact .base (.int i)
  | str x => cases q; exact .base (.str x)
  | lst s r => cases q; exact .base (.lst s)
  | tup s r =>
    cases q
    rcases s with (s | ⟨o, s⟩) | ⟨o, its, n, s, h1, h2⟩
    · exact .base (.tup s)
    · exact .fTuple s
    · exact .kTuple s h1
theorem ed_isi {n m : String} {r : Bool} (h : ED K te e d e1) (q : tyD d = some n) (hk : kitB n m = some r) : ED K (tCB (rIsi K) (tCons te (tCons (tC (.ty m)) tNil))) e (.bool r) e1 := fun H0 M X0 ps σ H g Q k => h H0 M X0 ps σ H g _ fun v H1 g1 =>
  ⟨v, .ty m, _, _, r, rfl, .ty m, tyX_of g1.top q, kit_ty hk, k _ H1 (g1.pop.bl r)⟩
end
end Hull
namespace Hull
open PySem PySem.Spec PyProof.Rows L2

/-! a def of the text and its promise -/
abbrev FnP (K : Frag) (x : Str) (st : Stmt) (f : Addr) (fd : FuncData) : Prop := FunD K x x (defArgs st) (defBody st) (defScope st) [] [] f fd
def envOf (n : Nat) (ds : List PyData) : List EK := ds.map .imm ++ List.replicate (n - ds.length) .any
structure Def (P : Program) (w : World) (K : Frag) (mg : Str → Option Value) (base : Heap) (k : Nat) (x : Str) (ps : List Str) (sp : Sp) : Prop where
  ex : ∃ (f : Addr) (fd : FuncData), FnOk P w K mg base CX0 k f fd ps sp ∧ mg x = some (.ref f) ∧ PySem.W.keepIn K (.ref f) = true ∧ Binds K fd ps []
theorem pe_def {X : Cx} {k : Nat} {x : Str} {ps : List Str} {sp : Sp} {p pos : Pos} {e : Expr} {es : List Expr} {t : TA} (G : Def X.prog X.w X.K X.mg X.base k x ps sp) (hr : Room k X.A) (hg : Gl X x) (ha : PA X (e :: es) t)
    (hdb : (x == ("__debug__" : Str)) = false := by decide) (he : starEach (e :: es) X.env = (false, eval e X.env) :: starEach es X.env := by rfl) (hpl : (backTo pos (starEach es X.env)).any (·.1) = false := by rfl) :
    PE X (.Call (.Name x p) (e :: es) [] pos) (tCall sp [] E0 t) := by
  obtain ⟨f, fd, F, hm, kp, hb⟩ := G.ex
  exact pe_call F hr hg hm kp hb .nil pass0 ha hdb he hpl
section
variable {P : Program} {w : World} {K : Frag} {mg : Str → Option Value} {base : Heap} {x : Str} {st : Stmt} {f : Addr} {fd : FuncData} {N ps : List Str} {k : Nat}
theorem start_gd {H : Hp} {X : Ap} {vs : List V} {ds : List PyData} (hl : ds.length = ps.length) (hN : ps.length ≤ N.length) (hX : ∀ a, X a → H a ≠ none) (r : RpA K (hide X H) vs ds) : Sk K H (fun _ => False) X [] (envOf N.length ds) (start N vs) H := by
  have hv := r.len
  refine ⟨X, ⟨fun _ h => h, fun _ h => h.elim, fun _ h => .inl h, hX, fun _ _ _ h => h, ?_, fun i k h => ?_, fun _ h => by cases h⟩⟩
  · unfold L2.start envOf
    rw [List.length_append, List.length_append, List.length_map, List.length_map, List.length_replicate, List.length_replicate]
    omega
  · unfold envOf at h
    by_cases q : i < ds.length
    · rw [List.getElem?_append_left (by simpa using q), List.getElem?_map] at h
      rw [List.getElem?_eq_getElem q] at h
      cases Option.some.inj h
      obtain ⟨v, a, b⟩ := r.get (List.getElem?_eq_getElem q)
      refine ⟨v, ?_, b⟩
      unfold L2.start
      rw [List.getElem?_append_left (by rw [List.length_map]; omega), List.getElem?_map, a]
      rfl
    · rw [List.getElem?_append_right (by simpa using q), List.getElem?_replicate] at h
      split at h
      · cases Option.some.inj h
        trivial
      · cases h
/-- what a def's body must do -/
abbrev Does (K : Frag) (t : TS) (n : Nat) (ds : List PyData) (d : PyData) : Prop := SD K t (envOf n ds) (fun _ => d = .none) (fun r _ => r = d) (fun _ => False) (fun _ => False)
theorem def_of {R : List PyData → PyData → Prop} (F : FnP K x st f fd) (hm : mg x = some (.ref f)) (S : FnScope N ps (defScope st)) (hl : ∀ ds d, R ds d → ds.length = ps.length)
    (hb : ∀ (kV doc pm : Value) (an : Option Addr) (cdv ct : Value) (us : List Value), us.length = ps.length → bindArgs (PySem.W.fnOf x x (defArgs st) (defBody st) (defScope st) .none kV doc pm an cdv ct) ⟨us, []⟩ = pure (ps.zip us))
    (body : ∀ (cdv : Value) (A : Around) (outer : List Env) (s : Shared) (H : Hp) (E : XK) (ds : List PyData) (d : PyData), Room k (A.deeper (envOfC x (defScope st) s.heap.objs.size f cdv)) → R ds d →
      ∃ t, PSs (cxOf CX0 P w K mg base N x (defScope st) f cdv A outer s H E).nox (defBody st) t ∧ Does K t N.length ds d) : Def P w K mg base (k + 1) x ps (spP K R) := by
  refine ⟨f, fd, F.ok S (fun vs H Q E h => ?_) (fun cdv A outer s H vs Q E hr h => ?_), hm, F.kp, F.bindsN hb⟩
  · obtain ⟨X, ds, d, _, r, hR, _⟩ := h
    rw [r.len]
    exact hl ds d hR
  · obtain ⟨X, ds, d, hX, r, hR, q⟩ := h
    obtain ⟨t, h1, h2⟩ := body cdv A outer s H E ds d hr hR
    have hN : ps.length ≤ N.length := by have := congrArg List.length S.pre; rw [List.length_take] at this; omega
    refine ⟨t, h1.nox, h2 H (fun _ => False) X [] (start N vs) H (start_gd (hl ds d hR) hN hX r) _ (fun e' σ' H' hd g => ?_) (fun v r e' σ' H' hr g => ?_) (fun _ _ _ z => z.elim) fun _ _ _ z => z.elim⟩
    · obtain ⟨s1, _⟩ := Gd.back g
      exact q .non H' s1 (by rw [hd]; exact .non)
    · obtain ⟨s1, r1⟩ := Gd.back g
      exact q v H' s1 (hr ▸ r1 _ List.mem_cons_self)
theorem start_gdT {H : Hp} {X : Ap} {T : Addr} {t : Tb} {vs : List V} {ds : List PyData} (hl : ds.length + 1 = ps.length) (hN : ps.length ≤ N.length) (hX : ∀ a, X a → H a ≠ none) (hT : X T) (hH : H T = some (tubL t.1 t.2.1 t.2.2)) (r : RpA K (hide X H) vs ds) :
    Sk K H (fun a => a = T) X [] (.tub t.1 t.2.1 t.2.2 :: envOf (N.length - 1) ds) (start N (.ref T :: vs)) H := by
  have hv := r.len
  refine ⟨X, ⟨fun _ h => h, fun a h => h ▸ hT, fun _ h => .inl h, hX, fun _ _ _ h => h, ?_, fun i k h => ?_, fun _ h => by cases h⟩⟩
  · unfold L2.start envOf
    simp only [List.length_cons, List.length_append, List.length_map, List.length_replicate]
    omega
  · cases i with
    | zero =>
      cases Option.some.inj h
      exact ⟨T, rfl, rfl, fun _ h => h, hH⟩
    | succ i =>
      rw [List.getElem?_cons_succ] at h
      unfold envOf at h
      by_cases q : i < ds.length
      · rw [List.getElem?_append_left (by simpa using q), List.getElem?_map] at h
        rw [List.getElem?_eq_getElem q] at h
        cases Option.some.inj h
        obtain ⟨v, a, b⟩ := r.get (List.getElem?_eq_getElem q)
        refine ⟨v, ?_, b⟩
        unfold L2.start
        rw [List.map_cons, List.cons_append, List.getElem?_cons_succ, List.getElem?_append_left (by rw [List.length_map]; omega), List.getElem?_map, a]
        rfl
      · rw [List.getElem?_append_right (by simpa using q), List.getElem?_replicate] at h
        split at h
        · cases Option.some.inj h
          trivial
        · cases h
abbrev DoesT (K : Frag) (t : TS) (n : Nat) (b : Tb) (ds : List PyData) (d : PyData) (b' : Tb) : Prop :=
  SD K t (.tub b.1 b.2.1 b.2.2 :: envOf (n - 1) ds) (fun _ => False) (fun r e' => r = d ∧ e'[0]? = some (.tub b'.1 b'.2.1 b'.2.2)) (fun _ => False) (fun _ => False)
theorem defT_of {R : Tb → List PyData → PyData → Tb → Prop} (F : FnP K x st f fd) (hm : mg x = some (.ref f)) (S : FnScope N ps (defScope st)) (hl : ∀ b ds d b', R b ds d b' → ds.length + 1 = ps.length)
    (hb : ∀ (kV doc pm : Value) (an : Option Addr) (cdv ct : Value) (us : List Value), us.length = ps.length → bindArgs (PySem.W.fnOf x x (defArgs st) (defBody st) (defScope st) .none kV doc pm an cdv ct) ⟨us, []⟩ = pure (ps.zip us))
    (body : ∀ (cdv : Value) (A : Around) (outer : List Env) (s : Shared) (H : Hp) (E : XK) (b : Tb) (ds : List PyData) (d : PyData) (b' : Tb), Room k (A.deeper (envOfC x (defScope st) s.heap.objs.size f cdv)) → R b ds d b' →
      ∃ t, PSs (cxOf CX0 P w K mg base N x (defScope st) f cdv A outer s H E).nox (defBody st) t ∧ DoesT K t N.length b ds d b') : Def P w K mg base (k + 1) x ps (spT K R) := by
  refine ⟨f, fd, F.ok S (fun vs H Q E h => ?_) (fun cdv A outer s H vs Q E hr h => ?_), hm, F.kp, F.bindsN hb⟩
  · obtain ⟨X, T, t, t', ws, ds, d, rfl, _, _, _, r, hR, _⟩ := h
    rw [List.length_cons, r.len]
    exact hl t ds d t' hR
  · obtain ⟨X, T, b, b', ws, ds, d, rfl, hT, hH, hX, r, hR, q⟩ := h
    obtain ⟨t, h1, h2⟩ := body cdv A outer s H E b ds d b' hr hR
    have hN : ps.length ≤ N.length := by have := congrArg List.length S.pre; rw [List.length_take] at this; omega
    refine ⟨t, h1.nox, h2 H (fun a => a = T) X [] (start N (.ref T :: ws)) H (start_gdT (hl b ds d b' hR) hN hX hT hH r) _ (fun _ _ _ z => z.elim) (fun v r e' σ' H' hr g => ?_) (fun _ _ _ z => z.elim) fun _ _ _ z => z.elim⟩
    obtain ⟨hr, hb⟩ := hr
    obtain ⟨Y, g⟩ := g
    obtain ⟨T', _, hM, _, hT'⟩ := g.slot 0 _ hb
    cases (show T' = T from hM)
    exact q v H' (fun a o ha h => g.kp a o ha h) hT' (hr ▸ Rp.mono (hide_less g.x0) _ _ (g.tmp _ List.mem_cons_self))
end
/-! the text -/
def top (i : Nat) : Stmt := PySem.Challenge.pw_hullrests_k81_whole_least_and_greatest_b.main.body.getD i (.Pass ⟨0, 0, 0, 0⟩)
structure Top (K : Frag) (mg : Str → Option Value) : Prop where
  df : ∀ (x : Str) (i : Nat), (match top i with | .FunctionDef n _ _ _ _ _ _ _ _ _ => decide (n = x) | _ => false) = true → ∃ f fd, FnP K x (top i) f fd ∧ mg x = some (.ref f)
  fr : ∀ x : Str, x ∈ (["isinstance", "tuple", "int", "bool", "len", "all", "any", "abs", "sum", "sorted", "set", "range", "enumerate", "zip", "repr", "divmod"] : List Str) → mg x = none
  gcd : mg "gcd" = some (.builtin "math.gcd")
  zero : ∃ a, mg "ZERO" = some (.ref a) ∧ ∀ H, SqT K H a [.int 0, .int 1]
  one : ∃ a, mg "ONE" = some (.ref a) ∧ ∀ H, SqT K H a [.int 1, .int 1]
  most : ∃ t, mg "MOST_EDGES" = some (.int 8 t)
end Hull
namespace Hull
open PySem PySem.Spec PyProof.Rows L2
/-! a written dict with int keys -/
structure WetD (K : Frag) (a : Addr) : Prop where
  ex : ∃ (o : Obj) (es : Array DictEntry) (n : Nat), K.lookup a = some o ∧ o.cls = .type "dict" ∧ o.data = .dict es n ∧ IntKeys es ∧ ∃ t, findBy Value.isInt es 0 = some (.str "rim" t)
def rIxW (K : Frag) : R2 := fun x y H Q => ∃ a, x = .ref a ∧ y = .int 0 ∧ WetD K a ∧ Q (.str "rim") H
theorem ix_wet {X : Cx} : IxR X (rIxW X.K) := by
  intro value slice pins s σ H x y v u Q I rx ry h hs
  obtain ⟨a, rfl, rfl, ⟨o, es, n, hl, hc, hd, hk, t, hf⟩, q⟩ := h
  obtain rfl : v = Value.ref a := rx
  obtain ⟨t2, rfl⟩ := ry
  have ho : s.heap.get? a = some o := I.kIn a o hl
  have hm : s.heap.IntMap a (findBy Value.isInt es) := ⟨o, es, n, ho, hc, hd, hk, fun _ => rfl⟩
  exact tail_any ⟨o, ho, hc⟩ slot_dict_getitem.lookup (wpAny_getItem_intMap hm hf ⟨.str "rim", H, I.tok _, ⟨t, rfl⟩, q⟩) hs
def wetE (e : DictEntry) (k : Int) : Bool := match e.key with
  | .int i _ => decide (i = k) && decide (e.hash = hashInt k)
  | _ => false
def wetV (e : DictEntry) : Bool := match e.val with
  | .str z _ => decide (z = "rim")
  | _ => false
def wetEs (es : List DictEntry) : Bool := match es with
  | [a, b, c] => wetE a 1 && (wetE b 0 && (wetE c (-1) && wetV b))
  | _ => false
def wetO (o : Obj) : Bool := match o.cls, o.data with
  | .type c, .dict es _ => decide (c = "dict") && wetEs es.toList
  | _, _ => false
theorem wetE_ok {e : DictEntry} {k : Int} (h : wetE e k = true) : ∃ t, e.key = .int k t ∧ e.hash = hashInt k := by
  unfold wetE at h
  split at h
  · rename_i i t q
    obtain ⟨h1, h2⟩ := Bool.and_eq_true_iff.mp h
    exact ⟨t, by rw [q, of_decide_eq_true h1], of_decide_eq_true h2⟩
  · cases h
theorem wetO_ok {K : Frag} {a : Addr} {o : Obj} (hl : K.lookup a = some o) (h : wetO o = true) : WetD K a := by
  unfold wetO at h
  split at h
  · rename_i c es n q1 q2
    obtain ⟨h1, h2⟩ := Bool.and_eq_true_iff.mp h
    obtain ⟨l⟩ := es
    match l, h2 with
    | [x, y, z], h2 =>
      obtain ⟨hx, h3⟩ := Bool.and_eq_true_iff.mp h2
      obtain ⟨hy, h4⟩ := Bool.and_eq_true_iff.mp h3
      obtain ⟨hz, hv⟩ := Bool.and_eq_true_iff.mp h4
      obtain ⟨t1, k1, e1⟩ := wetE_ok hx
      obtain ⟨t2, k2, e2⟩ := wetE_ok hy
      obtain ⟨t3, k3, e3⟩ := wetE_ok hz
      have hval : ∃ t, y.val = .str "rim" t := by
        unfold wetV at hv
        split at hv
        · rename_i w t q; exact ⟨t, by rw [q, of_decide_eq_true hv]⟩
        · cases hv
      obtain ⟨tv, ev⟩ := hval
      refine ⟨o, _, n, hl, by rw [q1, of_decide_eq_true h1], q2, fun e he => ?_, tv, ?_⟩
      · simp at he
        rcases he with rfl | rfl | rfl
        · exact ⟨1, t1, k1, e1⟩
        · exact ⟨0, t2, k2, e2⟩
        · exact ⟨-1, t3, k3, e3⟩
      · unfold findBy
        simp only [List.find?_toArray, List.find?_cons, k1, k2]
        have a1 : Value.isInt 0 (.int 1 t1) = false := rfl
        have a2 : Value.isInt 0 (.int 0 t2) = true := rfl
        rw [a1, a2]
        exact congrArg some ev
    | [], h2 => cases h2
    | [_], h2 => cases h2
    | [_, _], h2 => cases h2
    | _ :: _ :: _ :: _ :: _, h2 => cases h2
  · cases h
section
variable {K : Frag} {te ta : TE} {e e1 : List EK}
theorem ed_wet {a : Addr} {i : Int} (w : WetD K a) (h : ED K ta e (.int i) e1) (h0 : i = 0) : ED K (tOp (rIxW K) (tC (.ref a)) ta) e (.str "rim") e1 := by
  subst h0
  intro H0 M X0 ps σ H g Q k
  exact h H0 M X0 ps σ H g _ fun y H1 g1 => ⟨a, rfl, rp_int g1.top, w, k _ H1 (g1.pop.str _)⟩
end
end Hull
set_option maxHeartbeats 0
namespace Hull
open PySem PySem.Spec PyProof.Rows L2
def mkD (x : Str) (i : Nat) : He.DefD := ⟨(x, none), x, x, defArgs (top i), defBody (top i), defScope (top i), [], []⟩
def fnL0 : List He.DefD := [mkD "is_whole" 2, mkD "are_wholes" 3, mkD "is_between" 4, mkD "divisor_of" 5, mkD "is_reduced" 6, mkD "multiple_of" 7, mkD "sign_of" 8, mkD "is_ratio" 12, mkD "ratio" 13, mkD "ratio_less" 14, mkD "ratio_over" 15, mkD "is_lower" 16, mkD "is_share" 17, mkD "is_vector" 19, mkD "is_pointing" 20, mkD "vector" 21, mkD "vector_sum" 22, mkD "vector_less" 23, mkD "vector_times" 24, mkD "vector_between" 25]
def fnL1 : List He.DefD := [mkD "cross_of" 26, mkD "level_of" 27, mkD "turn_of" 28, mkD "edge_way" 30, mkD "is_rim" 31, mkD "rim_point" 32, mkD "rim_to" 33, mkD "share_between" 34, mkD "rim_at" 35, mkD "edges_at" 36, mkD "is_line" 37, mkD "comes_first" 38, mkD "on_grid" 41, mkD "bends_left" 42, mkD "bend_chain" 43, mkD "hull" 44, mkD "is_shape" 45, mkD "is_plate" 46, mkD "next_corner" 47, mkD "has_inside" 48]
def fnL2 : List He.DefD := [mkD "crosses" 49, mkD "plate_area" 50, mkD "chord_ends" 52, mkD "passed_corners" 53, mkD "points_below" 54, mkD "stand_area" 55, mkD "crossing" 56, mkD "line_of" 57, mkD "area_up_to" 58, mkD "check_point" 68, mkD "check_fraction" 69, mkD "check_up" 70, mkD "check_section" 71, mkD "check_stand" 72, mkD "across_point" 74, mkD "halved_stands" 75, mkD "is_better" 76, mkD "extreme_below" 77, mkD "wetness" 80, mkD "check_inner" 81]
def fnL3 : List He.DefD := [mkD "least_below" 82, mkD "greatest_below" 83, mkD "height_of" 85, mkD "area_below" 86, mkD "area_of_stand" 87, mkD "moved" 89, mkD "_law_tub" 91, mkD "_law_dip" 92, mkD "_law_of" 93, mkD "_law_about" 94, mkD "_law_gcd" 95, mkD "_law_cut" 96, mkD "_law_part" 97, mkD "_law_plus" 98, mkD "_law_less" 99, mkD "_law_mul" 100, mkD "_law_over" 101, mkD "_law_sign" 102, mkD "_law_under" 103, mkD "_law_spot" 104]
def fnL4 : List He.DefD := [mkD "_law_xy" 105, mkD "_law_way" 106, mkD "_law_joined" 107, mkD "_law_long" 108, mkD "_law_along" 109, mkD "_law_cross" 110, mkD "_law_quarter" 111, mkD "_law_sense" 112, mkD "_law_ordered" 113, mkD "_law_hull" 114, mkD "_law_point" 115, mkD "_law_section" 116, mkD "_law_tri" 117, mkD "_law_size" 118, mkD "_law_middle" 119, mkD "_law_on" 120, mkD "_law_told" 121, mkD "_law_passed" 122, mkD "_law_wet" 123, mkD "_law_before" 124]
def fnL5 : List He.DefD := [mkD "_law_up" 125, mkD "_law_exit" 126, mkD "_law_halved" 127, mkD "_law_belows" 128, mkD "_law_best" 129, mkD "_law_inside" 130, mkD "_law_right" 131, mkD "law" 132]
def fnL : List He.DefD := fnL0 ++ fnL1 ++ fnL2 ++ fnL3 ++ fnL4 ++ fnL5
def faL0 : List He.Fa := [.glo "is_whole", .glo "are_wholes", .glo "is_between", .glo "divisor_of", .glo "is_reduced", .glo "multiple_of", .glo "sign_of", .glo "is_ratio", .glo "ratio", .glo "ratio_less", .glo "ratio_over", .glo "is_lower", .glo "is_share", .glo "is_vector", .glo "is_pointing", .glo "vector", .glo "vector_sum", .glo "vector_less", .glo "vector_times", .glo "vector_between"]
def faL1 : List He.Fa := [.glo "cross_of", .glo "level_of", .glo "turn_of", .glo "edge_way", .glo "is_rim", .glo "rim_point", .glo "rim_to", .glo "share_between", .glo "rim_at", .glo "edges_at", .glo "is_line", .glo "comes_first", .glo "on_grid", .glo "bends_left", .glo "bend_chain", .glo "hull", .glo "is_shape", .glo "is_plate", .glo "next_corner", .glo "has_inside"]
def faL2 : List He.Fa := [.glo "crosses", .glo "plate_area", .glo "chord_ends", .glo "passed_corners", .glo "points_below", .glo "stand_area", .glo "crossing", .glo "line_of", .glo "area_up_to", .glo "check_point", .glo "check_fraction", .glo "check_up", .glo "check_section", .glo "check_stand", .glo "across_point", .glo "halved_stands", .glo "is_better", .glo "extreme_below", .glo "wetness", .glo "check_inner"]
def faL3 : List He.Fa := [.glo "least_below", .glo "greatest_below", .glo "height_of", .glo "area_below", .glo "area_of_stand", .glo "moved", .glo "_law_tub", .glo "_law_dip", .glo "_law_of", .glo "_law_about", .glo "_law_gcd", .glo "_law_cut", .glo "_law_part", .glo "_law_plus", .glo "_law_less", .glo "_law_mul", .glo "_law_over", .glo "_law_sign", .glo "_law_under", .glo "_law_spot"]
def faL4 : List He.Fa := [.glo "_law_xy", .glo "_law_way", .glo "_law_joined", .glo "_law_long", .glo "_law_along", .glo "_law_cross", .glo "_law_quarter", .glo "_law_sense", .glo "_law_ordered", .glo "_law_hull", .glo "_law_point", .glo "_law_section", .glo "_law_tri", .glo "_law_size", .glo "_law_middle", .glo "_law_on", .glo "_law_told", .glo "_law_passed", .glo "_law_wet", .glo "_law_before"]
def faL5 : List He.Fa := [.glo "_law_up", .glo "_law_exit", .glo "_law_halved", .glo "_law_belows", .glo "_law_best", .glo "_law_inside", .glo "_law_right", .glo "law", .free "ValueError", .free "abs", .free "all", .free "any", .free "bool", .free "divmod", .free "enumerate", .free "int", .free "isinstance", .free "len", .free "range", .free "repr"]
def faL6 : List He.Fa := [.free "set", .free "sorted", .free "sum", .free "tuple", .free "zip", .glo "ZERO", .glo "ONE", .int "MOST_EDGES" 8, .glo "WETNESS"]
def faL : List He.Fa := faL0 ++ faL1 ++ faL2 ++ faL3 ++ faL4 ++ faL5 ++ faL6
def looseL0 : List PySem.Str := ["is_whole", "are_wholes", "is_between", "divisor_of", "is_reduced", "multiple_of", "sign_of", "is_ratio", "ratio", "ratio_less", "ratio_over", "is_lower", "is_share", "is_vector", "is_pointing", "vector", "vector_sum", "vector_less", "vector_times", "vector_between"]
def looseL1 : List PySem.Str := ["cross_of", "level_of", "turn_of", "edge_way", "is_rim", "rim_point", "rim_to", "share_between", "rim_at", "edges_at", "is_line", "comes_first", "on_grid", "bends_left", "bend_chain", "hull", "is_shape", "is_plate", "next_corner", "has_inside"]
def looseL2 : List PySem.Str := ["crosses", "plate_area", "chord_ends", "passed_corners", "points_below", "stand_area", "crossing", "line_of", "area_up_to", "check_point", "check_fraction", "check_up", "check_section", "check_stand", "across_point", "halved_stands", "is_better", "extreme_below", "wetness", "check_inner"]
def looseL3 : List PySem.Str := ["least_below", "greatest_below", "height_of", "area_below", "area_of_stand", "moved", "_law_tub", "_law_dip", "_law_of", "_law_about", "_law_gcd", "_law_cut", "_law_part", "_law_plus", "_law_less", "_law_mul", "_law_over", "_law_sign", "_law_under", "_law_spot"]
def looseL4 : List PySem.Str := ["_law_xy", "_law_way", "_law_joined", "_law_long", "_law_along", "_law_cross", "_law_quarter", "_law_sense", "_law_ordered", "_law_hull", "_law_point", "_law_section", "_law_tri", "_law_size", "_law_middle", "_law_on", "_law_told", "_law_passed", "_law_wet", "_law_before"]
def looseL5 : List PySem.Str := ["_law_up", "_law_exit", "_law_halved", "_law_belows", "_law_best", "_law_inside", "_law_right", "HullError", "InvalidFraction", "InvalidPoint", "InvalidDirection", "InvalidSection", "InvalidStand", "NotInside", "ZERO", "ONE", "MOST_EDGES", "WETNESS"]
def looseL : List PySem.Str := looseL0 ++ looseL1 ++ looseL2 ++ looseL3 ++ looseL4 ++ looseL5
def gcdB (K : PySem.W.Frag) : Bool := match PySem.W.nsIn K mainGlobals "gcd" with
  | some (some (.builtin n)) => decide (n = "math.gcd")
  | _ => false
def wetB (K : PySem.W.Frag) : Bool := match K.lookup (He.ga K "WETNESS") with
  | some o => wetO o
  | none => false
def exB (K : PySem.W.Frag) : Bool := He.tupB K "ZERO" [.int 0, .int 1] && (He.tupB K "ONE" [.int 1, .int 1] && (gcdB K && wetB K))
abbrev R : PySem.W.OpenRow := PySem.W.OpenLaw.row PySem.Challenge.rw_hullrests_k81_whole_least_and_greatest_b
abbrev hk : PySem.W.Hook := He.hookX 2 faL fnL [] [] exB
def ob (s : PySem.W.SharedT) : hk.α := He.obsX 2 faL fnL [] [] exB (HandSHeadRun.getT s)
theorem ob_eq (s : PySem.W.SharedT) : ob s = hk.obs s.abs := He.obsX_eq (HandSHeadRun.getT_eq s)
end Hull
namespace Hull
open PySem PySem.Spec PyProof.Rows L2
noncomputable abbrev runQ (w : World) : Option (Shared × PySem.W.SharedT) := HandSHeadRun.wholeF (fun p => HandSHeadRun.stepQ (HandSHeadRun.denQ HandSHeadRun.tabQ) p w) HandSHeadRun.fenceQ 6000 R.prog
theorem fa1 (w : World) : (runQ (w.withFollow "special-get-raises" false)).map (fun x => (HandSHeadRun.looksF R.prog x.1.heap x.2.abs, HandSHeadRun.seenQ (PySem.W.view R.prog [0, 132]) looseL (PySem.importedModules R.prog.main.body) (fun s => PySem.W.xlAt (PySem.W.view R.prog [0, 132]) [] s && PySem.W.recOk R.toRowW.records s) x.2.abs)) = some (true, PySem.W.openGood (PySem.W.view R.prog [0, 132]) looseL) := by
  kernel_rfl
theorem fc1 (w : World) : (runQ (w.withFollow "special-get-raises" false)).map (fun x => ob x.2) = some (hk.val (w.withFollow "special-get-raises" false)) := by
  kernel_rfl
theorem fa2 (w : World) : (runQ (w.withFollow "special-get-raises" true)).map (fun x => (HandSHeadRun.looksF R.prog x.1.heap x.2.abs, HandSHeadRun.seenQ (PySem.W.view R.prog [0, 132]) looseL (PySem.importedModules R.prog.main.body) (fun s => PySem.W.xlAt (PySem.W.view R.prog [0, 132]) [] s && PySem.W.recOk R.toRowW.records s) x.2.abs)) = some (true, PySem.W.openGood (PySem.W.view R.prog [0, 132]) looseL) := by
  kernel_rfl
theorem fc2 (w : World) : (runQ (w.withFollow "special-get-raises" true)).map (fun x => ob x.2) = some (hk.val (w.withFollow "special-get-raises" true)) := by
  kernel_rfl
theorem run3 {β γ δ α : Type} {o : Option α} {f : α → β} {g : α → γ} {h : α → δ} {b : β} {c : γ} {d : δ} (h1 : o.map (fun x => (f x, g x)) = some (b, c)) (h3 : o.map h = some d) : o.map (fun x => (f x, g x, h x)) = some (b, c, d) := by
  cases o with
  | none => cases h3
  | some x =>
    obtain ⟨e1, e2⟩ := Prod.mk.inj (Option.some.inj h1)
    exact congrArg some (Prod.ext e1 (Prod.ext e2 (Option.some.inj h3)))
theorem run (w : World) : HandSHeadRun.RunEqI R (PySem.W.view R.prog [0, 132]) hk ob 6000 looseL w :=
  PySem.W.byRow2 "special-get-raises" (P := fun w => HandSHeadRun.RunEqI R (PySem.W.view R.prog [0, 132]) hk ob 6000 looseL w) (fun w => run3 (fa1 w) (fc1 w)) (fun w => run3 (fa2 w) (fc2 w)) w
end Hull
namespace Hull
open PySem PySem.W PySem.Calls PyProof.Rows
abbrev lawD : DefRec := HandSHeadRun.topDef (OpenLaw.row PySem.Challenge.rw_hullrests_k81_whole_least_and_greatest_b).prog 132
/-- all but the walk -/
theorem holds_if (hc : PySem.W.WalkO (view (OpenLaw.row PySem.Challenge.rw_hullrests_k81_whole_least_and_greatest_b).prog [0, 132]) looseL (PySem.W.XL (view (OpenLaw.row PySem.Challenge.rw_hullrests_k81_whole_least_and_greatest_b).prog [0, 132]) []) hk.says (OpenLaw.row PySem.Challenge.rw_hullrests_k81_whole_least_and_greatest_b).toRowW lawD [] (fun f vs => PySem.call f vs)) : PySem.Challenge.rw_hullrests_k81_whole_least_and_greatest_b.Holds := by
  w_on; o_law
  refine HandSHeadRun.head_imp (r := OpenLaw.row PySem.Challenge.rw_hullrests_k81_whole_least_and_greatest_b) (q := view (OpenLaw.row PySem.Challenge.rw_hullrests_k81_whole_least_and_greatest_b).prog [0, 132]) (H := hk) (ob := ob) (M := 6000) (loose := looseL) (d := lawD) (kwd := []) ob_eq run
    (by kernel_rfl) (by kernel_rfl) (by kernel_rfl) (by rfl) (by first | assumption | decide +kernel) (by decide +kernel) ⟨rfl, rfl, rfl, rfl, rfl, by decide +kernel⟩ ?hw ?hc
  case hw => w_witness2
  case hc => exact hc
theorem lawD_name : lawD.name = ("law" : PySem.Str) := by kernel_rfl
theorem lawD_dfl : lawD.params.defaults = [] := by kernel_rfl
end Hull
set_option maxHeartbeats 1000000
namespace Hull
open PySem
/-! fractions and points as they lie in tuples -/
abbrev encR (q : Rat) : PyData := .tuple [.int q.num, .int (q.den : Int)]
@[ext] structure P2 where
  x : Rat
  y : Rat
deriving DecidableEq
namespace P2
def W (p : P2) : Nat := Nat.lcm p.x.den p.y.den
def X (p : P2) : Int := p.x.num * ((p.W / p.x.den : Nat) : Int)
def Y (p : P2) : Int := p.y.num * ((p.W / p.y.den : Nat) : Int)
end P2
abbrev encP (p : P2) : PyData := .tuple [.int p.X, .int p.Y, .int (p.W : Int)]
theorem W_pos (p : P2) : 0 < p.W := Nat.lcm_pos p.x.den_pos p.y.den_pos
theorem W_ne (p : P2) : (p.W : Rat) ≠ 0 := by
  have := W_pos p
  rw [Ne, Rat.natCast_eq_zero_iff]; omega
theorem den_ne (q : Rat) : (q.den : Rat) ≠ 0 := by
  have := q.den_pos
  rw [Ne, Rat.natCast_eq_zero_iff]; omega
theorem num_den (q : Rat) : (q.num : Rat) = q * q.den := by
  have h : (q.num : Rat) / (q.den : Rat) = q := by rw [← Rat.mkRat_eq_div, Rat.mkRat_self]
  have h2 := Rat.div_mul_cancel (a := (q.num : Rat)) (den_ne q)
  rw [h] at h2
  exact h2.symm
theorem X_eq (p : P2) : (p.X : Rat) = p.x * p.W := by
  have hd : p.x.den ∣ p.W := Nat.dvd_lcm_left _ _
  unfold P2.X
  rw [Rat.intCast_mul, num_den, Rat.mul_assoc]
  congr 1
  show (p.x.den : Rat) * (((p.W / p.x.den : Nat) : Int) : Rat) = _
  rw [Rat.intCast_natCast, ← Rat.natCast_mul, Nat.mul_div_cancel' hd]
theorem Y_eq (p : P2) : (p.Y : Rat) = p.y * p.W := by
  have hd : p.y.den ∣ p.W := Nat.dvd_lcm_right _ _
  unfold P2.Y
  rw [Rat.intCast_mul, num_den, Rat.mul_assoc]
  congr 1
  show (p.y.den : Rat) * (((p.W / p.y.den : Nat) : Int) : Rat) = _
  rw [Rat.intCast_natCast, ← Rat.natCast_mul, Nat.mul_div_cancel' hd]
theorem int_ne {m : Int} (h : m ≠ 0) : (m : Rat) ≠ 0 := by
  rw [Ne, Rat.intCast_eq_zero_iff]; exact h
theorem x_of (p : P2) : p.x = (p.X : Rat) / (p.W : Rat) := by rw [X_eq, Rat.mul_div_cancel (W_ne p)]
theorem y_of (p : P2) : p.y = (p.Y : Rat) / (p.W : Rat) := by rw [Y_eq, Rat.mul_div_cancel (W_ne p)]
/-- a whole number of them -/
def gcdN (ns : List Int) : Nat := ns.foldl (fun a n => Nat.gcd a n.natAbs) 0
theorem gcdN2 (n m : Int) : gcdN [n, m] = Nat.gcd n.natAbs m.natAbs := by simp [gcdN]
theorem gcdN3 (n m k : Int) : gcdN [n, m, k] = Nat.gcd (Nat.gcd n.natAbs m.natAbs) k.natAbs := by simp [gcdN]
/-- the part that is taken out, with the sign of the last number -/
def partOf (g : Nat) (m : Int) : Int := if 0 < m then (g : Int) else -(g : Int)
theorem fdiv_part {n m : Int} {g : Nat} (hg : 0 < g) (h : (g : Int) ∣ n) : n.fdiv (partOf g m) = (if 0 < m then n / g else -(n / g)) := by
  obtain ⟨c, rfl⟩ := h
  have hg' : (g : Int) ≠ 0 := by omega
  unfold partOf
  split
  · rw [Int.mul_fdiv_cancel_left _ hg', Int.mul_ediv_cancel_left _ hg']
  · rw [Int.mul_ediv_cancel_left _ hg', show (g : Int) * c = -(g : Int) * (-c) by rw [Int.neg_mul_neg], Int.mul_fdiv_cancel_left _ (by omega)]
theorem partOf_ne {m : Int} {g : Nat} (hg : 0 < g) : partOf g m ≠ 0 := by unfold partOf; split <;> omega
theorem partOf_abs {m : Int} {g : Nat} : (partOf g m).natAbs = g := by unfold partOf; split <;> omega
/-- a fraction of two whole numbers, reduced -/
theorem rat_num (n m : Int) (hm : m ≠ 0) : n.fdiv (partOf (gcdN [n, m]) m) = ((n : Rat) / (m : Rat)).num := by
  have hg : 0 < gcdN [n, m] := by rw [gcdN2]; exact Nat.gcd_pos_of_pos_right _ (by omega)
  rw [fdiv_part hg (by rw [gcdN2]; exact Int.ofNat_dvd_left.mpr (Nat.gcd_dvd_left _ _)), ← Rat.divInt_eq_div, Rat.num_divInt, gcdN2]
  have e : (m.gcd n : Nat) = Nat.gcd n.natAbs m.natAbs := by unfold Int.gcd; exact Nat.gcd_comm _ _
  rw [e]
  rcases Int.lt_or_lt_of_ne hm with h | h
  · rw [if_neg (by omega), Int.sign_eq_neg_one_of_neg h, Int.neg_mul, Int.one_mul, Int.neg_ediv_of_dvd]
    exact Int.ofNat_dvd_left.mpr (Nat.gcd_dvd_left _ _)
  · rw [if_pos h, Int.sign_eq_one_of_pos h, Int.one_mul]
theorem rat_den (n m : Int) (hm : m ≠ 0) : m.fdiv (partOf (gcdN [n, m]) m) = (((n : Rat) / (m : Rat)).den : Int) := by
  have hg : 0 < gcdN [n, m] := by rw [gcdN2]; exact Nat.gcd_pos_of_pos_right _ (by omega)
  rw [fdiv_part hg (by rw [gcdN2]; exact Int.ofNat_dvd_left.mpr (Nat.gcd_dvd_right _ _)), ← Rat.divInt_eq_div, Rat.den_divInt, gcdN2, if_neg hm]
  have e : (m.gcd n : Nat) = Nat.gcd n.natAbs m.natAbs := by unfold Int.gcd; exact Nat.gcd_comm _ _
  rw [e, Int.natCast_ediv]
  split
  · rw [Int.natAbs_of_nonneg (by omega)]
  · rw [Int.ofNat_natAbs_of_nonpos (by omega), Int.neg_ediv_of_dvd]
    exact Int.ofNat_dvd_left.mpr (Nat.gcd_dvd_right _ _)
/-- a reduced triple is that of its point -/
theorem red_W {x y : Int} {w : Nat} (hw : 0 < w) (h : Nat.gcd (Nat.gcd x.natAbs y.natAbs) w = 1) : (⟨(x : Rat) / (w : Rat), (y : Rat) / (w : Rat)⟩ : P2).W = w := by
  have hd : ∀ z : Int, ((z : Rat) / (w : Rat)).den = w / Nat.gcd z.natAbs w := fun z => by
    rw [← Rat.mkRat_eq_div, Rat.den_mkRat, if_neg (by omega), Nat.gcd_comm]
  show Nat.lcm ((x : Rat) / (w : Rat)).den ((y : Rat) / (w : Rat)).den = w
  rw [hd, hd]
  have ha : Nat.gcd x.natAbs w ∣ w := Nat.gcd_dvd_right _ _
  have hb : Nat.gcd y.natAbs w ∣ w := Nat.gcd_dvd_right _ _
  generalize ea : Nat.gcd x.natAbs w = a at ha ⊢
  generalize eb : Nat.gcd y.natAbs w = b at hb ⊢
  have hab : Nat.gcd a b = 1 := by
    have h1 : Nat.gcd a b ∣ Nat.gcd (Nat.gcd x.natAbs y.natAbs) w := by
      refine Nat.dvd_gcd (Nat.dvd_gcd ?_ ?_) (Nat.dvd_trans (Nat.gcd_dvd_left _ _) ha)
      · exact Nat.dvd_trans (Nat.gcd_dvd_left _ _) (ea ▸ Nat.gcd_dvd_left _ _)
      · exact Nat.dvd_trans (Nat.gcd_dvd_right _ _) (eb ▸ Nat.gcd_dvd_left _ _)
    rw [h] at h1
    exact Nat.dvd_one.mp h1
  have hm1 : w / a ∣ Nat.lcm (w / a) (w / b) := Nat.dvd_lcm_left _ _
  have hm2 : w / b ∣ Nat.lcm (w / a) (w / b) := Nat.dvd_lcm_right _ _
  generalize em : Nat.lcm (w / a) (w / b) = m at hm1 hm2 ⊢
  have d1 : w ∣ a * m := by
    have := Nat.mul_dvd_mul_left a hm1
    rwa [Nat.mul_div_cancel' ha] at this
  have d2 : w ∣ b * m := by
    have := Nat.mul_dvd_mul_left b hm2
    rwa [Nat.mul_div_cancel' hb] at this
  have d3 : w ∣ m := by
    have := Nat.dvd_gcd d1 d2
    rwa [Nat.gcd_mul_right, hab, Nat.one_mul] at this
  refine Nat.dvd_antisymm ?_ d3
  rw [← em]
  exact Nat.lcm_dvd (Nat.div_dvd_of_dvd ha) (Nat.div_dvd_of_dvd hb)
theorem red_pt {x y : Int} {w : Nat} (hw : 0 < w) (h : Nat.gcd (Nat.gcd x.natAbs y.natAbs) w = 1) :
    (⟨(x : Rat) / (w : Rat), (y : Rat) / (w : Rat)⟩ : P2).X = x ∧ (⟨(x : Rat) / (w : Rat), (y : Rat) / (w : Rat)⟩ : P2).Y = y ∧ (⟨(x : Rat) / (w : Rat), (y : Rat) / (w : Rat)⟩ : P2).W = w := by
  have e := red_W hw h
  have hw0 : (w : Rat) ≠ 0 := by rw [Ne, Rat.natCast_eq_zero_iff]; omega
  refine ⟨?_, ?_, e⟩
  · have := X_eq (⟨(x : Rat) / (w : Rat), (y : Rat) / (w : Rat)⟩ : P2)
    rw [e, Rat.div_mul_cancel hw0] at this
    exact Rat.intCast_inj.mp this
  · have := Y_eq (⟨(x : Rat) / (w : Rat), (y : Rat) / (w : Rat)⟩ : P2)
    rw [e, Rat.div_mul_cancel hw0] at this
    exact Rat.intCast_inj.mp this
theorem div_cancel {x w : Int} {g : Int} (hg : g ≠ 0) (hw : w ≠ 0) (h1 : g ∣ x) (h2 : g ∣ w) : ((x / g : Int) : Rat) / ((w / g : Int) : Rat) = (x : Rat) / (w : Rat) := by
  obtain ⟨a, rfl⟩ := h1
  obtain ⟨b, rfl⟩ := h2
  rw [Int.mul_ediv_cancel_left _ hg, Int.mul_ediv_cancel_left _ hg, Rat.intCast_mul, Rat.intCast_mul]
  have hb : (b : Rat) ≠ 0 := int_ne fun z => hw (by rw [z, Int.mul_zero])
  have hg' := int_ne hg
  grind
/-- a point of three whole numbers, reduced -/
theorem pt_all (x y w : Int) (hw : w ≠ 0) : x.fdiv (partOf (gcdN [x, y, w]) w) = (⟨(x : Rat) / (w : Rat), (y : Rat) / (w : Rat)⟩ : P2).X ∧
    y.fdiv (partOf (gcdN [x, y, w]) w) = (⟨(x : Rat) / (w : Rat), (y : Rat) / (w : Rat)⟩ : P2).Y ∧ w.fdiv (partOf (gcdN [x, y, w]) w) = ((⟨(x : Rat) / (w : Rat), (y : Rat) / (w : Rat)⟩ : P2).W : Int) := by
  have hg : 0 < gcdN [x, y, w] := by rw [gcdN3]; exact Nat.gcd_pos_of_pos_right _ (by omega)
  have dx : (gcdN [x, y, w] : Int) ∣ x := by rw [gcdN3]; exact Int.ofNat_dvd_left.mpr (Nat.dvd_trans (Nat.gcd_dvd_left _ _) (Nat.gcd_dvd_left _ _))
  have dy : (gcdN [x, y, w] : Int) ∣ y := by rw [gcdN3]; exact Int.ofNat_dvd_left.mpr (Nat.dvd_trans (Nat.gcd_dvd_left _ _) (Nat.gcd_dvd_right _ _))
  have dw : (gcdN [x, y, w] : Int) ∣ w := by rw [gcdN3]; exact Int.ofNat_dvd_left.mpr (Nat.gcd_dvd_right _ _)
  have hgi : ((gcdN [x, y, w] : Nat) : Int) ≠ 0 := by omega
  have key : ∀ (x' y' : Int) (w' : Nat), 0 < w' → x'.natAbs = x.natAbs / gcdN [x, y, w] → y'.natAbs = y.natAbs / gcdN [x, y, w] → w' = w.natAbs / gcdN [x, y, w] → Nat.gcd (Nat.gcd x'.natAbs y'.natAbs) w' = 1 := fun x' y' w' hw' e1 e2 e3 => by
    rw [e1, e2, e3]
    have g1 : gcdN [x, y, w] ∣ x.natAbs := Int.ofNat_dvd_left.mp dx
    have g2 : gcdN [x, y, w] ∣ y.natAbs := Int.ofNat_dvd_left.mp dy
    have g3 : gcdN [x, y, w] ∣ w.natAbs := Int.ofNat_dvd_left.mp dw
    rw [Nat.gcd_div g1 g2, Nat.gcd_div (Nat.dvd_gcd g1 g2) g3, gcdN3]
    exact Nat.div_self (by rw [← gcdN3]; exact hg)
  have hab : ∀ z : Int, (gcdN [x, y, w] : Int) ∣ z → (z / (gcdN [x, y, w] : Nat)).natAbs = z.natAbs / gcdN [x, y, w] := fun z hz => by
    rw [Int.natAbs_ediv_of_dvd hz, Int.natAbs_natCast]
  rw [fdiv_part hg dx, fdiv_part hg dy, fdiv_part hg dw]
  generalize hgg : gcdN [x, y, w] = g at *
  by_cases h : 0 < w
  · rw [if_pos h, if_pos h, if_pos h]
    obtain ⟨w', ew⟩ : ∃ w' : Nat, w / (g : Int) = (w' : Int) := Int.eq_ofNat_of_zero_le (Int.ediv_nonneg (by omega) (by omega))
    have hw' : 0 < w' := by
      have : 0 < w / (g : Int) := Int.ediv_pos_of_pos_of_dvd h (by omega) dw
      omega
    have r := red_pt hw' (key (x / g) (y / g) w' hw' (hab x dx) (hab y dy) (by rw [← hab w dw, ew, Int.natAbs_natCast]))
    have ex : ((x / (g : Int) : Int) : Rat) / (w' : Rat) = (x : Rat) / (w : Rat) := by
      rw [← div_cancel hgi hw dx dw, ew, Rat.intCast_natCast]
    have ey : ((y / (g : Int) : Int) : Rat) / (w' : Rat) = (y : Rat) / (w : Rat) := by
      rw [← div_cancel hgi hw dy dw, ew, Rat.intCast_natCast]
    rw [ex, ey] at r
    exact ⟨r.1.symm, r.2.1.symm, by rw [r.2.2]; exact ew⟩
  · rw [if_neg h, if_neg h, if_neg h]
    obtain ⟨w', ew⟩ : ∃ w' : Nat, -(w / (g : Int)) = (w' : Int) := Int.eq_ofNat_of_zero_le (by
      have := Int.ediv_nonneg (a := -w) (b := (g : Int)) (by omega) (by omega)
      rw [Int.neg_ediv_of_dvd dw] at this
      exact this)
    have hw' : 0 < w' := by
      have : 0 < (-w) / (g : Int) := Int.ediv_pos_of_pos_of_dvd (by omega) (by omega) (Int.dvd_neg.mpr dw)
      rw [Int.neg_ediv_of_dvd dw] at this
      omega
    have r := red_pt hw' (key (-(x / g)) (-(y / g)) w' hw' (by rw [Int.natAbs_neg]; exact hab x dx) (by rw [Int.natAbs_neg]; exact hab y dy) (by
      have := hab w dw
      omega))
    have hn : ∀ z : Int, (g : Int) ∣ z → ((-(z / (g : Int)) : Int) : Rat) / (w' : Rat) = (z : Rat) / (w : Rat) := fun z hz => by
      have e1 := div_cancel hgi hw hz dw
      have e2 : (w' : Rat) = -((w / (g : Int) : Int) : Rat) := by rw [← Rat.intCast_neg, ew, Rat.intCast_natCast]
      have hne : ((w / (g : Int) : Int) : Rat) ≠ 0 := int_ne (by omega)
      rw [e2, ← e1, Rat.intCast_neg]
      grind
    rw [hn x dx, hn y dy] at r
    exact ⟨r.1.symm, r.2.1.symm, by rw [r.2.2]; exact ew⟩
end Hull
namespace Hull
open PySem
/-! sizes -/
def B (k : Nat) (i : Int) : Prop := i.natAbs < 2 ^ k
theorem B.mono {k j : Nat} {i : Int} (h : B k i) (hk : k ≤ j) : B j i := Nat.lt_of_lt_of_le h (Nat.pow_le_pow_right (by decide) hk)
theorem B.mul {k j : Nat} {a b : Int} (h : B k a) (h2 : B j b) : B (k + j) (a * b) := by
  unfold B at *
  rw [Int.natAbs_mul, Nat.pow_add]
  exact Nat.mul_lt_mul'' h h2
theorem B.add {k j : Nat} {a b : Int} (h : B k a) (h2 : B j b) : B (max k j + 1) (a + b) := by
  have h := h.mono (Nat.le_max_left k j)
  have h2 := h2.mono (Nat.le_max_right k j)
  unfold B at *
  have := Int.natAbs_add_le a b
  rw [Nat.pow_succ]; omega
theorem B.neg {k : Nat} {a : Int} (h : B k a) : B k (-a) := by unfold B at *; rw [Int.natAbs_neg]; exact h
theorem B.sub {k j : Nat} {a b : Int} (h : B k a) (h2 : B j b) : B (max k j + 1) (a - b) := by
  rw [Int.sub_eq_add_neg]; exact h.add h2.neg
theorem B.le {k : Nat} {a b : Int} (h : B k b) (h2 : a.natAbs ≤ b.natAbs) : B k a := Nat.lt_of_le_of_lt h2 h
theorem B.one {k : Nat} (h : 0 < k) : B k 1 := by
  unfold B
  have : 2 ^ 1 ≤ 2 ^ k := Nat.pow_le_pow_right (by decide) h
  show 1 < 2 ^ k
  omega
theorem B.zero {k : Nat} : B k 0 := Nat.pow_pos (by decide)
/-- of written numbers -/
theorem B.lit {k : Nat} {a : Int} (h : Nat.blt a.natAbs (2 ^ k) = true) : B k a := by
  unfold B
  exact Nat.le_of_ble_eq_true h
structure Sm (k : Nat) (q : Rat) : Prop where
  n : B k q.num
  d : B k (q.den : Int)
structure Pm (k : Nat) (p : P2) : Prop where
  x : B k p.X
  y : B k p.Y
  w : B k (p.W : Int)
theorem Sm.mono {k j : Nat} {q : Rat} (h : Sm k q) (hk : k ≤ j) : Sm j q := ⟨h.n.mono hk, h.d.mono hk⟩
theorem Pm.mono {k j : Nat} {q : P2} (h : Pm k q) (hk : k ≤ j) : Pm j q := ⟨h.x.mono hk, h.y.mono hk, h.w.mono hk⟩
theorem fdiv_le {n m : Int} {g : Nat} (hg : 0 < g) (h : (g : Int) ∣ n) : (n.fdiv (partOf g m)).natAbs ≤ n.natAbs := by
  have hq : (n / (g : Int)).natAbs ≤ n.natAbs := by
    rw [Int.natAbs_ediv_of_dvd h, Int.natAbs_natCast]
    exact Nat.div_le_self _ _
  rw [fdiv_part hg h]
  split
  · exact hq
  · rw [Int.natAbs_neg]; exact hq
theorem Sm_div {k : Nat} {n m : Int} (hm : m ≠ 0) (h1 : B k n) (h2 : B k m) : Sm k ((n : Rat) / (m : Rat)) := by
  have hg : 0 < gcdN [n, m] := by rw [gcdN2]; exact Nat.gcd_pos_of_pos_right _ (by omega)
  refine ⟨h1.le ?_, h2.le ?_⟩
  · rw [← rat_num n m hm]; exact fdiv_le hg (by rw [gcdN2]; exact Int.ofNat_dvd_left.mpr (Nat.gcd_dvd_left _ _))
  · rw [← rat_den n m hm]; exact fdiv_le hg (by rw [gcdN2]; exact Int.ofNat_dvd_left.mpr (Nat.gcd_dvd_right _ _))
theorem Pm_mk {k : Nat} {x y w : Int} (hw : w ≠ 0) (h1 : B k x) (h2 : B k y) (h3 : B k w) : Pm k ⟨(x : Rat) / (w : Rat), (y : Rat) / (w : Rat)⟩ := by
  have hg : 0 < gcdN [x, y, w] := by rw [gcdN3]; exact Nat.gcd_pos_of_pos_right _ (by omega)
  obtain ⟨ex, ey, ew⟩ := pt_all x y w hw
  refine ⟨h1.le ?_, h2.le ?_, h3.le ?_⟩
  · rw [← ex]; exact fdiv_le hg (by rw [gcdN3]; exact Int.ofNat_dvd_left.mpr (Nat.dvd_trans (Nat.gcd_dvd_left _ _) (Nat.gcd_dvd_left _ _)))
  · rw [← ey]; exact fdiv_le hg (by rw [gcdN3]; exact Int.ofNat_dvd_left.mpr (Nat.dvd_trans (Nat.gcd_dvd_left _ _) (Nat.gcd_dvd_right _ _)))
  · rw [← ew]; exact fdiv_le hg (by rw [gcdN3]; exact Int.ofNat_dvd_left.mpr (Nat.gcd_dvd_right _ _))
/-! what the fractions' and the points' operations give -/
theorem denI (q : Rat) : (((q.den : Nat) : Int) : Rat) = (q.den : Rat) := Rat.intCast_natCast _
theorem den_ne' (q : Rat) : ((q.den : Nat) : Int) ≠ 0 := by have := q.den_pos; omega
theorem W_ne' (p : P2) : ((p.W : Nat) : Int) ≠ 0 := by have := W_pos p; omega
theorem ii {a b : Int} (ha : a ≠ 0) (hb : b ≠ 0) : a * b ≠ 0 := Int.mul_ne_zero ha hb
section
variable (a b : Rat)
theorem rat_sub : ((a.num * (b.den : Int) - b.num * (a.den : Int) : Int) : Rat) / (((a.den : Int) * (b.den : Int) : Int) : Rat) = a - b := by
  have ha := den_ne a
  have hb := den_ne b
  simp only [Rat.intCast_sub, Rat.intCast_mul, Rat.intCast_natCast, num_den]
  grind
theorem rat_add : ((a.num * (b.den : Int) + b.num * (a.den : Int) : Int) : Rat) / (((a.den : Int) * (b.den : Int) : Int) : Rat) = a + b := by
  have ha := den_ne a
  have hb := den_ne b
  simp only [Rat.intCast_add, Rat.intCast_mul, Rat.intCast_natCast, num_den]
  grind
theorem rat_mul : ((a.num * b.num : Int) : Rat) / (((a.den : Int) * (b.den : Int) : Int) : Rat) = a * b := by
  have ha := den_ne a
  have hb := den_ne b
  simp only [Rat.intCast_mul, Rat.intCast_natCast, num_den]
  grind
theorem num_ne {q : Rat} (h : q ≠ 0) : q.num ≠ 0 := fun z => h (Rat.num_eq_zero.mp z)
theorem rat_over (h : b ≠ 0) : ((a.num * (b.den : Int) : Int) : Rat) / (((a.den : Int) * b.num : Int) : Rat) = a / b := by
  have ha := den_ne a
  have hb := den_ne b
  simp only [Rat.intCast_mul, Rat.intCast_natCast, num_den]
  grind
theorem rat_lt : decide (a.num * (b.den : Int) < b.num * (a.den : Int)) = decide (a < b) := decide_eq_decide.mpr (Rat.lt_iff a b).symm
end
theorem Sm.add {k j : Nat} {a b : Rat} (ha : Sm k a) (hb : Sm j b) : Sm (k + j + 1) (a + b) := by
  rw [← rat_add]
  refine Sm_div (ii (den_ne' a) (den_ne' b)) (((ha.n.mul hb.d).add (hb.n.mul ha.d)).mono (by omega)) ((ha.d.mul hb.d).mono (by omega))
theorem Sm.sub {k j : Nat} {a b : Rat} (ha : Sm k a) (hb : Sm j b) : Sm (k + j + 1) (a - b) := by
  rw [← rat_sub]
  refine Sm_div (ii (den_ne' a) (den_ne' b)) (((ha.n.mul hb.d).sub (hb.n.mul ha.d)).mono (by omega)) ((ha.d.mul hb.d).mono (by omega))
theorem Sm.mul {k j : Nat} {a b : Rat} (ha : Sm k a) (hb : Sm j b) : Sm (k + j) (a * b) := by
  rw [← rat_mul]
  exact Sm_div (ii (den_ne' a) (den_ne' b)) (ha.n.mul hb.n) (ha.d.mul hb.d)
theorem Sm.over {k j : Nat} {a b : Rat} (ha : Sm k a) (hb : Sm j b) (h : b ≠ 0) : Sm (k + j) (a / b) := by
  rw [← rat_over a b h]
  exact Sm_div (ii (den_ne' a) (num_ne h)) (ha.n.mul hb.d) (ha.d.mul hb.n)
theorem Sm.lit {k : Nat} {q : Rat} (h : Nat.blt q.num.natAbs (2 ^ k) = true) (h2 : Nat.blt q.den (2 ^ k) = true) : Sm k q := ⟨.lit h, .lit h2⟩
namespace P2
def add (p q : P2) : P2 := ⟨p.x + q.x, p.y + q.y⟩
def sub (p q : P2) : P2 := ⟨p.x - q.x, p.y - q.y⟩
def mul (p : P2) (t : Rat) : P2 := ⟨p.x * t, p.y * t⟩
end P2
/-- the cross product -/
def cr (p q : P2) : Rat := p.x * q.y - p.y * q.x
theorem P2.eq {p q : P2} (h1 : p.x = q.x) (h2 : p.y = q.y) : p = q := P2.ext h1 h2
section
variable (p q : P2)
theorem pt_add : (⟨((p.X * (q.W : Int) + q.X * (p.W : Int) : Int) : Rat) / (((p.W : Int) * (q.W : Int) : Int) : Rat), ((p.Y * (q.W : Int) + q.Y * (p.W : Int) : Int) : Rat) / (((p.W : Int) * (q.W : Int) : Int) : Rat)⟩ : P2) = p.add q := by
  have hp := W_ne p
  have hq := W_ne q
  refine P2.eq ?_ ?_
  · simp only [P2.add, Rat.intCast_add, Rat.intCast_mul, Rat.intCast_natCast, X_eq]
    grind
  · simp only [P2.add, Rat.intCast_add, Rat.intCast_mul, Rat.intCast_natCast, Y_eq]
    grind
theorem pt_sub : (⟨((p.X * (q.W : Int) - q.X * (p.W : Int) : Int) : Rat) / (((p.W : Int) * (q.W : Int) : Int) : Rat), ((p.Y * (q.W : Int) - q.Y * (p.W : Int) : Int) : Rat) / (((p.W : Int) * (q.W : Int) : Int) : Rat)⟩ : P2) = p.sub q := by
  have hp := W_ne p
  have hq := W_ne q
  refine P2.eq ?_ ?_
  · simp only [P2.sub, Rat.intCast_sub, Rat.intCast_mul, Rat.intCast_natCast, X_eq]
    grind
  · simp only [P2.sub, Rat.intCast_sub, Rat.intCast_mul, Rat.intCast_natCast, Y_eq]
    grind
theorem pt_mul (t : Rat) : (⟨((p.X * t.num : Int) : Rat) / (((p.W : Int) * (t.den : Int) : Int) : Rat), ((p.Y * t.num : Int) : Rat) / (((p.W : Int) * (t.den : Int) : Int) : Rat)⟩ : P2) = p.mul t := by
  have hp := W_ne p
  have hq := den_ne t
  refine P2.eq ?_ ?_
  · simp only [P2.mul, Rat.intCast_mul, Rat.intCast_natCast, X_eq, num_den]
    grind
  · simp only [P2.mul, Rat.intCast_mul, Rat.intCast_natCast, Y_eq, num_den]
    grind
theorem pt_cr : ((p.X * q.Y - p.Y * q.X : Int) : Rat) / (((p.W : Int) * (q.W : Int) : Int) : Rat) = cr p q := by
  have hp := W_ne p
  have hq := W_ne q
  simp only [cr, Rat.intCast_sub, Rat.intCast_mul, Rat.intCast_natCast, X_eq, Y_eq]
  grind
theorem pt_lev (c s : Int) : ((c * p.X + s * p.Y : Int) : Rat) / ((p.W : Int) : Rat) = c * p.x + s * p.y := by
  have hp := W_ne p
  simp only [Rat.intCast_add, Rat.intCast_mul, Rat.intCast_natCast, X_eq, Y_eq]
  grind
end
theorem Pm.add {k j : Nat} {p q : P2} (h : Pm k p) (h2 : Pm j q) : Pm (k + j + 1) (p.add q) := by
  rw [← pt_add]
  exact Pm_mk (ii (W_ne' p) (W_ne' q)) (((h.x.mul h2.w).add (h2.x.mul h.w)).mono (by omega)) (((h.y.mul h2.w).add (h2.y.mul h.w)).mono (by omega)) ((h.w.mul h2.w).mono (by omega))
theorem Pm.sub {k j : Nat} {p q : P2} (h : Pm k p) (h2 : Pm j q) : Pm (k + j + 1) (p.sub q) := by
  rw [← pt_sub]
  exact Pm_mk (ii (W_ne' p) (W_ne' q)) (((h.x.mul h2.w).sub (h2.x.mul h.w)).mono (by omega)) (((h.y.mul h2.w).sub (h2.y.mul h.w)).mono (by omega)) ((h.w.mul h2.w).mono (by omega))
theorem Pm.mul {k j : Nat} {p : P2} {t : Rat} (h : Pm k p) (h2 : Sm j t) : Pm (k + j) (p.mul t) := by
  rw [← pt_mul]
  exact Pm_mk (ii (W_ne' p) (den_ne' t)) (h.x.mul h2.n) (h.y.mul h2.n) (h.w.mul h2.d)
theorem Sm_cr {k j : Nat} {p q : P2} (h : Pm k p) (h2 : Pm j q) : Sm (k + j + 1) (cr p q) := by
  rw [← pt_cr]
  exact Sm_div (ii (W_ne' p) (W_ne' q)) (((h.x.mul h2.y).sub (h.y.mul h2.x)).mono (by omega)) ((h.w.mul h2.w).mono (by omega))
end Hull
namespace Hull
open PySem
/-! what the program reckons, over fractions -/
abbrev Rim := Nat × Rat
abbrev Stand := Rim × Rim
abbrev encRim (r : Rim) : PyData := .tuple [.int (r.1 : Int), encR r.2]
abbrev encSt (s : Stand) : PyData := .tuple [encRim s.1, encRim s.2]
abbrev encS (S : List P2) : PyData := .tuple (S.map encP)
/-- the corner with an index, counted round -/
def cn (S : List P2) (i : Nat) : P2 := S.getD (i % S.length) ⟨0, 0⟩
/-- twice the area of a triangle -/
def tri (p q r : P2) : Rat := cr (q.sub p) (r.sub p)
def sg (q : Rat) : Int := if 0 < q then 1 else if q < 0 then -1 else 0
/-- the edge with an index -/
def eg (S : List P2) (i : Nat) : P2 := (cn S (i + 1)).sub (cn S i)
def rp (S : List P2) (r : Rim) : P2 := (cn S r.1).add ((eg S r.1).mul r.2)
def told (n i : Nat) (t : Rat) : Rim := if t = 1 then ((i + 1) % n, 0) else (i, t)
def shareB (a b p : P2) : Rat := if a.x ≠ b.x then (p.x - a.x) / (b.x - a.x) else (p.y - a.y) / (b.y - a.y)
def rimAt1 (S : List P2) (p : P2) (i : Nat) : Option Rim :=
  if tri (cn S i) (cn S (i + 1)) p = 0 ∧ 0 ≤ shareB (cn S i) (cn S (i + 1)) p ∧ shareB (cn S i) (cn S (i + 1)) p < 1 then some (i, shareB (cn S i) (cn S (i + 1)) p) else none
def rimAt (S : List P2) (p : P2) : Option Rim := (List.range S.length).findSome? (rimAt1 S p)
def before (r s : Rim) : Prop := r.1 < s.1 ∨ (r.1 = s.1 ∧ r.2 < s.2)
instance (r s : Rim) : Decidable (before r s) := by unfold before; infer_instance
/-- how many corners are passed from an edge to another one -/
def arcN (n i j : Nat) : Nat := (j + n - i) % n
def passed (n : Nat) (s : Stand) : List Nat :=
  if s.2.2 = 0 then ((List.range (arcN n s.1.1 s.2.1)).map fun k => (s.1.1 + k + 1) % n).dropLast else (List.range (arcN n s.1.1 s.2.1)).map fun k => (s.1.1 + k + 1) % n
def below (S : List P2) (s : Stand) : List P2 := [rp S s.1] ++ (passed S.length s).map (cn S) ++ [rp S s.2]
def shoe (ps : List P2) : Rat := (ps.zipWith cr (ps.drop 1 ++ ps.take 1)).sum
def area (ps : List P2) : Rat := shoe ps / 2
def stArea (S : List P2) (s : Stand) : Rat := area (below S s)
/-- a common number of points -/
def grid (ps : List P2) : Nat := ps.foldl (fun a p => Nat.lcm a p.W) 1
def gp (L : Nat) (p : P2) : Int × Int := (p.X * ((L / p.W : Nat) : Int), p.Y * ((L / p.W : Nat) : Int))
def lev (u : Int × Int) (p : P2) : Rat := u.1 * p.x + u.2 * p.y
/-- the share of an edge at a height -/
def cross1 (S : List P2) (u : Int × Int) (h : Rat) (i : Nat) : Rim := told S.length i ((h - lev u (cn S i)) / (lev u (cn S (i + 1)) - lev u (cn S i)))
def lineL (S : List P2) (u : Int × Int) (h : Rat) (m : Nat) : Option Rim :=
  (List.range m).foldl (fun a i => if lev u (cn S (i + 1)) < h ∧ ¬ lev u (cn S i) < h then some (cross1 S u h i) else a) none
def lineR (S : List P2) (u : Int × Int) (h : Rat) (m : Nat) : Option Rim :=
  (List.range m).foldl (fun a i => if lev u (cn S i) < h ∧ ¬ lev u (cn S (i + 1)) < h then some (cross1 S u h i) else a) none
/-- the stand between two edges that a point halves -/
def acrossX (S : List P2) (P : P2) (i j : Nat) : Rat := cr (((P.mul 2).sub (cn S i)).sub (cn S j)) (eg S j) / cr (eg S i) (eg S j)
def acrossY (S : List P2) (P : P2) (i j : Nat) : Rat := cr (eg S i) (((P.mul 2).sub (cn S i)).sub (cn S j)) / cr (eg S i) (eg S j)
def acrossOk (S : List P2) (P : P2) (i j : Nat) : Prop := cr (eg S i) (eg S j) ≠ 0 ∧ 0 ≤ acrossX S P i j ∧ acrossX S P i j ≤ 1 ∧ 0 ≤ acrossY S P i j ∧ acrossY S P i j ≤ 1
instance (S : List P2) (P : P2) (i j : Nat) : Decidable (acrossOk S P i j) := by unfold acrossOk; infer_instance
def across (S : List P2) (P : P2) (i j : Nat) : Option Stand := if acrossOk S P i j then some (told S.length i (acrossX S P i j), told S.length j (acrossY S P i j)) else none
/-- the stands at a corner that a point halves -/
def atCorner (S : List P2) (P : P2) (i : Nat) : List Stand := match rimAt S ((P.mul 2).sub (cn S i)) with
  | none => []
  | some r => [((i, 0), r), (r, (i, 0))]
def halvedAt (S : List P2) (P : P2) (i : Nat) : List Stand := atCorner S P i ++ (List.range S.length).filterMap (across S P i)
def halved (S : List P2) (P : P2) : List Stand := (List.range S.length).flatMap (halvedAt S P)
abbrev Cand := Rat × Stand
abbrev encC (c : Cand) : PyData := .tuple [encR c.1, encSt c.2]
def better (isLeast : Bool) (c b : Cand) : Bool := if c.1 ≠ b.1 then decide (c.1 < b.1) == isLeast else decide (before c.2.1 b.2.1)
def best (isLeast : Bool) (o : Option Cand) (c : Cand) : Option Cand := match o with
  | none => some c
  | some b => if better isLeast c b then some c else some b
def extreme (S : List P2) (P : P2) (isLeast : Bool) : Option Cand := ((halved S P).map fun s => (stArea S s, s)).foldl (best isLeast) none
/-! places -/
theorem cn_at {S : List P2} {i : Nat} (h : i < S.length) : (S.map encP)[i]? = some (encP (cn S i)) := by
  unfold cn
  rw [Nat.mod_eq_of_lt h, List.getElem?_map, List.getElem?_eq_getElem h, List.getD_eq_getElem?_getD, List.getElem?_eq_getElem h]
  rfl
theorem cn_get {S : List P2} {i : Nat} (h : i < S.length) : S[i]? = some (cn S i) := by
  unfold cn
  rw [Nat.mod_eq_of_lt h, List.getElem?_eq_getElem h, List.getD_eq_getElem?_getD, List.getElem?_eq_getElem h]
  rfl
theorem cn_mod {S : List P2} {i : Nat} : cn S (i % S.length) = cn S i := by unfold cn; rw [Nat.mod_mod]
theorem cn_mem {S : List P2} {i : Nat} (h : 0 < S.length) : cn S i ∈ S := by
  have := cn_get (S := S) (i := i % S.length) (Nat.mod_lt _ h)
  rw [cn_mod] at this
  exact List.mem_of_getElem? this
def Ps (k : Nat) (S : List P2) : Prop := ∀ p ∈ S, Pm k p
theorem Ps.cn {k : Nat} {S : List P2} (h : Ps k S) (h0 : 0 < S.length) (i : Nat) : Pm k (cn S i) := h _ (cn_mem h0)
theorem Ps.eg {k : Nat} {S : List P2} (h : Ps k S) (h0 : 0 < S.length) (i : Nat) : Pm (k + k + 1) (eg S i) := (h.cn h0 _).sub (h.cn h0 _)
/-! data of equal kinds -/
theorem gcd_red (q : Rat) : gcdN [q.num, (q.den : Int)] = 1 := by
  rw [gcdN2, Int.natAbs_natCast]
  exact q.reduced
theorem gcd_pt (p : P2) : gcdN [p.X, p.Y, (p.W : Int)] = 1 := by
  have hW := W_pos p
  have h := (pt_all p.X p.Y (p.W : Int) (by omega)).2.2
  rw [Rat.intCast_natCast, ← x_of, ← y_of] at h
  have e : (⟨p.x, p.y⟩ : P2) = p := rfl
  rw [e] at h
  have hg : 0 < gcdN [p.X, p.Y, (p.W : Int)] := by rw [gcdN3]; exact Nat.gcd_pos_of_pos_right _ (by omega)
  have hd : (gcdN [p.X, p.Y, (p.W : Int)] : Int) ∣ (p.W : Int) := by rw [gcdN3]; exact Int.ofNat_dvd_left.mpr (Nat.gcd_dvd_right _ _)
  rw [fdiv_part hg hd, if_pos (by omega)] at h
  obtain ⟨c, hc⟩ := hd
  generalize hgg : gcdN [p.X, p.Y, (p.W : Int)] = g at *
  rw [hc, Int.mul_ediv_cancel_left _ (by omega)] at h
  have hc0 : 0 < c := by
    rcases (by omega : 0 < c ∨ c ≤ 0) with z | z
    · exact z
    · have : (g : Int) * c ≤ 0 := Int.mul_nonpos_of_nonneg_of_nonpos (by omega) z
      omega
  have h3 : c * 1 = c * (g : Int) := by rw [Int.mul_one, Int.mul_comm]; exact h
  have h4 : (1 : Int) = (g : Int) := Int.eq_of_mul_eq_mul_left (by omega) h3
  omega
/-! lines through three points, by whole numbers -/
theorem sg_pos {q : Rat} (h : 0 < q) : sg q = 1 := if_pos h
theorem sg_neg {q : Rat} (h : q < 0) : sg q = -1 := by
  unfold sg
  rw [if_neg (fun z => Rat.lt_irrefl (Std.lt_trans h z)), if_pos h]
theorem sg_zero : sg 0 = 0 := by decide
theorem turn_int (p q r : P2) : ((p.X * (q.Y * (r.W : Int) - r.Y * (q.W : Int)) - p.Y * (q.X * (r.W : Int) - r.X * (q.W : Int)) + (p.W : Int) * (q.X * r.Y - r.X * q.Y) : Int) : Rat) = tri p q r * (p.W * q.W * r.W) := by
  simp only [Rat.intCast_add, Rat.intCast_sub, Rat.intCast_mul, Rat.intCast_natCast, X_eq, Y_eq, tri, cr, P2.sub]
  grind
theorem posW (p : P2) : (0 : Rat) < p.W := Rat.natCast_pos.mpr (W_pos p)
theorem turn_sg (p q r : P2) (z : Int) (h : z = p.X * (q.Y * (r.W : Int) - r.Y * (q.W : Int)) - p.Y * (q.X * (r.W : Int) - r.X * (q.W : Int)) + (p.W : Int) * (q.X * r.Y - r.X * q.Y)) :
    (if 0 < z then (1 : Int) else if z < 0 then -1 else 0) = sg (tri p q r) := by
  have e := turn_int p q r
  rw [← h] at e
  have hw : (0 : Rat) < p.W * q.W * r.W := Rat.mul_pos (Rat.mul_pos (posW p) (posW q)) (posW r)
  unfold sg
  have h1 : (0 < z) ↔ 0 < tri p q r := by rw [← Rat.intCast_pos, e]; exact Rat.mul_pos_iff_of_pos_right hw
  have h2 : (z < 0) ↔ tri p q r < 0 := by rw [← Rat.intCast_neg_iff, e]; exact Rat.mul_neg_iff_of_pos_right hw
  simp only [h1, h2]
/-! the share of a point of a line -/
theorem shareB_num {a b p : P2} (h : a ≠ b) : (a.X * (b.W : Int) ≠ b.X * (a.W : Int) ↔ a.x ≠ b.x) := by
  have ha := posW a
  have hb := posW b
  have e : ((a.X * (b.W : Int) : Int) : Rat) = ((b.X * (a.W : Int) : Int) : Rat) ↔ a.x = b.x := by
    simp only [Rat.intCast_mul, Rat.intCast_natCast, X_eq]
    constructor
    · intro h
      have hab : (a.W : Rat) * b.W ≠ 0 := by
        have := Rat.mul_pos ha hb
        grind
      grind
    · intro h; rw [h]; grind
  rw [Rat.intCast_inj] at e
  exact not_congr e
end Hull
namespace Hull
open PySem
abbrev encU (u : Int × Int) : PyData := .tuple [.int u.1, .int u.2]
abbrev encN (k : Nat) : PyData := .int (k : Int)
/-! the common number -/
def prodW : List P2 → Nat
  | [] => 1
  | p :: ps => p.W * prodW ps
def gridF (a : Nat) (ps : List P2) : Nat := ps.foldl (fun a p => Nat.lcm a p.W) a
theorem gridF_dvd : ∀ (ps : List P2) (a : Nat), a ∣ gridF a ps ∧ ∀ p ∈ ps, p.W ∣ gridF a ps
  | [], a => ⟨Nat.dvd_refl _, fun p h => by cases h⟩
  | q :: ps, a => by
    obtain ⟨h1, h2⟩ := gridF_dvd ps (Nat.lcm a q.W)
    refine ⟨Nat.dvd_trans (Nat.dvd_lcm_left _ _) h1, fun p h => ?_⟩
    rcases List.mem_cons.mp h with rfl | h
    · exact Nat.dvd_trans (Nat.dvd_lcm_right _ _) h1
    · exact h2 p h
theorem gridF_le : ∀ (ps : List P2) (a : Nat), 0 < a → 0 < gridF a ps ∧ gridF a ps ≤ a * prodW ps
  | [], a, h => ⟨h, by show a ≤ a * 1; omega⟩
  | q :: ps, a, h => by
    have hq := W_pos q
    have hl : Nat.lcm a q.W ≤ a * q.W := Nat.le_of_dvd (Nat.mul_pos h hq) (Nat.lcm_dvd_mul a q.W)
    obtain ⟨h1, h2⟩ := gridF_le ps (Nat.lcm a q.W) (Nat.lcm_pos h hq)
    refine ⟨h1, Nat.le_trans h2 ?_⟩
    show _ ≤ a * (q.W * prodW ps)
    rw [← Nat.mul_assoc]
    exact Nat.mul_le_mul_right _ hl
theorem grid_dvd {ps : List P2} {p : P2} (h : p ∈ ps) : p.W ∣ grid ps := (gridF_dvd ps 1).2 p h
theorem grid_pos (ps : List P2) : 0 < grid ps := (gridF_le ps 1 (by decide)).1
theorem grid_le (ps : List P2) : grid ps ≤ prodW ps := by
  have := (gridF_le ps 1 (by decide)).2
  rw [Nat.one_mul] at this
  exact this
theorem grid_app (ps : List P2) (p : P2) : grid (ps ++ [p]) = Nat.lcm (grid ps) p.W := by unfold grid; rw [List.foldl_append]; rfl
theorem grid_take (ps : List P2) (i : Nat) : grid (ps.take i) ≤ grid ps := by
  have h : grid ps = gridF (grid (ps.take i)) (ps.drop i) := by
    conv => lhs; rw [← List.take_append_drop i ps]
    unfold grid gridF
    rw [List.foldl_append]
  rw [h]
  exact Nat.le_of_dvd (gridF_le _ _ (grid_pos _)).1 (gridF_dvd _ _).1
/-! the area by whole numbers -/
def crI (qs : List (Int × Int)) : List Int := qs.zipWith (fun a b => a.1 * b.2 - a.2 * b.1) (qs.drop 1 ++ qs.take 1)
theorem gp_x {L : Nat} {p : P2} (h : p.W ∣ L) : ((gp L p).1 : Rat) = p.x * L := by
  unfold gp
  simp only [Rat.intCast_mul, Rat.intCast_natCast, X_eq]
  rw [Rat.mul_assoc, ← Rat.natCast_mul, Nat.mul_div_cancel' h]
theorem gp_y {L : Nat} {p : P2} (h : p.W ∣ L) : ((gp L p).2 : Rat) = p.y * L := by
  unfold gp
  simp only [Rat.intCast_mul, Rat.intCast_natCast, Y_eq]
  rw [Rat.mul_assoc, ← Rat.natCast_mul, Nat.mul_div_cancel' h]
theorem zipI {L : Nat} : ∀ (as bs : List P2), (∀ p ∈ as, p.W ∣ L) → (∀ p ∈ bs, p.W ∣ L) →
    ((((as.map (gp L)).zipWith (fun a b : Int × Int => a.1 * b.2 - a.2 * b.1) (bs.map (gp L))).sum : Int) : Rat) = (as.zipWith cr bs).sum * (L * L)
  | [], _, _, _ => by simp
  | a :: as, [], _, _ => by simp
  | a :: as, b :: bs, h1, h2 => by
    have ih := zipI as bs (fun p h => h1 p (List.mem_cons_of_mem _ h)) (fun p h => h2 p (List.mem_cons_of_mem _ h))
    have ea := h1 a List.mem_cons_self
    have eb := h2 b List.mem_cons_self
    simp only [List.map_cons, List.zipWith_cons_cons, List.sum_cons, Rat.intCast_add, ih, Rat.intCast_sub, Rat.intCast_mul, gp_x ea, gp_y ea, gp_x eb, gp_y eb, cr]
    grind
theorem crI_sum {L : Nat} {ps : List P2} (h : ∀ p ∈ ps, p.W ∣ L) : (((crI (ps.map (gp L))).sum : Int) : Rat) = shoe ps * (L * L) := by
  unfold crI shoe
  rw [← List.map_drop, ← List.map_take, ← List.map_append]
  refine zipI ps (ps.drop 1 ++ ps.take 1) h fun p hp => h p ?_
  rcases List.mem_append.mp hp with z | z
  · exact List.mem_of_mem_drop z
  · exact List.mem_of_mem_take z
theorem area_int (ps : List P2) : (((crI (ps.map (gp (grid ps)))).sum : Int) : Rat) / ((2 * (grid ps : Int) * (grid ps : Int) : Int) : Rat) = area ps := by
  rw [crI_sum fun p hp => grid_dvd hp]
  have hL : (grid ps : Rat) ≠ 0 := by
    have := grid_pos ps
    rw [Ne, Rat.natCast_eq_zero_iff]; omega
  unfold area
  simp only [Rat.intCast_mul, Rat.intCast_natCast]
  rw [show ((2 : Int) : Rat) = 2 from rfl]
  grind
theorem sum_B {k : Nat} : ∀ (l : List Int), (∀ i ∈ l, B k i) → l.sum.natAbs ≤ l.length * 2 ^ k
  | [], _ => by simp
  | a :: l, h => by
    have ih := sum_B l fun i hi => h i (List.mem_cons_of_mem _ hi)
    have ha : a.natAbs < 2 ^ k := h a List.mem_cons_self
    have := Int.natAbs_add_le a l.sum
    rw [List.sum_cons, List.length_cons, Nat.add_mul, Nat.one_mul]
    omega
theorem sum_B64 {k : Nat} {l : List Int} (h : ∀ i ∈ l, B k i) (hl : l.length < 64) : B (k + 6) l.sum := by
  have := sum_B l h
  unfold B
  rw [Nat.pow_add]
  have h2 : l.length * 2 ^ k < 64 * 2 ^ k := Nat.mul_lt_mul_of_pos_right hl (Nat.pow_pos (by decide))
  rw [Nat.mul_comm (2 ^ k)]
  show _ < 2 ^ 6 * 2 ^ k
  omega
theorem gp_B {L k j : Nat} {p : P2} (h : Pm k p) (hL : L < 2 ^ j) : B (k + j) (gp L p).1 ∧ B (k + j) (gp L p).2 := by
  have hd : B j ((L / p.W : Nat) : Int) := by
    unfold B
    rw [Int.natAbs_natCast]
    exact Nat.lt_of_le_of_lt (Nat.div_le_self _ _) hL
  exact ⟨h.x.mul hd, h.y.mul hd⟩
theorem crI_B {k : Nat} {qs : List (Int × Int)} (h : ∀ q ∈ qs, B k q.1 ∧ B k q.2) : ∀ i ∈ crI qs, B (k + k + 1) i := by
  have key : ∀ (as bs : List (Int × Int)), (∀ q ∈ as, B k q.1 ∧ B k q.2) → (∀ q ∈ bs, B k q.1 ∧ B k q.2) → ∀ i ∈ as.zipWith (fun a b => a.1 * b.2 - a.2 * b.1) bs, B (k + k + 1) i := by
    intro as
    induction as with
    | nil => intro bs _ _ i hi; simp at hi
    | cons a as ih =>
      intro bs h1 h2 i hi
      cases bs with
      | nil => simp at hi
      | cons b bs =>
        rw [List.zipWith_cons_cons, List.mem_cons] at hi
        rcases hi with rfl | hi
        · have ha := h1 a List.mem_cons_self
          have hb := h2 b List.mem_cons_self
          exact ((B.mul ha.1 hb.2).sub (B.mul ha.2 hb.1)).mono (by omega)
        · exact ih bs (fun q hq => h1 q (List.mem_cons_of_mem _ hq)) (fun q hq => h2 q (List.mem_cons_of_mem _ hq)) i hi
  refine key qs _ h fun q hq => h q ?_
  rcases List.mem_append.mp hq with z | z
  · exact List.mem_of_mem_drop z
  · exact List.mem_of_mem_take z
theorem crI_len (qs : List (Int × Int)) : (crI qs).length = qs.length := by
  unfold crI
  rw [List.length_zipWith, List.length_append, List.length_drop, List.length_take]
  omega
/-! corners passed -/
theorem arcN_eq {n i j : Nat} (hi : i < n) (hj : j < n) : arcN n i j = if i ≤ j then j - i else j + n - i := by
  unfold arcN
  split
  · rw [show j + n - i = (j - i) + n by omega, Nat.add_mod_right, Nat.mod_eq_of_lt (by omega)]
  · rw [Nat.mod_eq_of_lt (by omega)]
theorem mod_one {n a : Nat} (h : a < 2 * n) : a % n = if a < n then a else a - n := by
  split
  · exact Nat.mod_eq_of_lt (by assumption)
  · rw [show a = (a - n) + n by omega, Nat.add_mod_right, Nat.mod_eq_of_lt (by omega)]
    omega
theorem arc_lt {n i j : Nat} (hi : i < n) (hj : j < n) : arcN n i j < n := Nat.mod_lt _ (by omega)
theorem arc_stop {n i j : Nat} (hi : i < n) (hj : j < n) : (i + arcN n i j) % n = j := by
  have h := arcN_eq hi hj
  have hl := arc_lt hi hj
  rw [mod_one (by omega)]
  split at h <;> split <;> omega
theorem arc_ne {n i j k : Nat} (hi : i < n) (hj : j < n) (hk : k < arcN n i j) : (i + k) % n ≠ j := by
  have h := arcN_eq hi hj
  have hl := arc_lt hi hj
  rw [mod_one (by omega)]
  split at h <;> split <;> omega
end Hull
namespace Hull
open PySem
/-! sorted, each once -/
section
variable {α β : Type}
def insB (lt : α → α → Bool) (x : α) : List α → List α
  | [] => [x]
  | y :: l => if lt x y then x :: y :: l else if lt y x then y :: insB lt x l else y :: l
def srtB (lt : α → α → Bool) (l : List α) : List α := l.foldr (insB lt) []
structure Ord (lt : α → α → Bool) : Prop where
  irr : ∀ x, lt x x = false
  tr : ∀ x y z, lt x y = true → lt y z = true → lt x z = true
  tri : ∀ x y, lt x y = false → lt y x = false → x = y
variable {lt : α → α → Bool}
theorem Ord.asym (o : Ord lt) {x y : α} (h : lt x y = true) : lt y x = false := by
  cases q : lt y x with
  | false => rfl
  | true =>
    have := o.tr _ _ _ h q
    rw [o.irr] at this
    cases this
theorem mem_insB (o : Ord lt) {x z : α} : ∀ {l : List α}, z ∈ insB lt x l ↔ z = x ∨ z ∈ l
  | [] => by simp [insB]
  | y :: l => by
    have ih := mem_insB o (x := x) (z := z) (l := l)
    unfold insB
    split
    · simp
    · split
      · simp only [List.mem_cons, ih]
        constructor
        · rintro (h | h | h)
          · exact .inr (.inl h)
          · exact .inl h
          · exact .inr (.inr h)
        · rintro (h | h | h)
          · exact .inr (.inl h)
          · exact .inl h
          · exact .inr (.inr h)
      · rename_i h1 h2
        have e := o.tri x y (by simpa using h1) (by simpa using h2)
        subst e
        simp
theorem insB_sorted (o : Ord lt) {x : α} : ∀ {l : List α}, l.Pairwise (fun a b => lt a b = true) → (insB lt x l).Pairwise (fun a b => lt a b = true)
  | [], _ => by simp [insB]
  | y :: l, h => by
    obtain ⟨h1, h2⟩ := List.pairwise_cons.mp h
    unfold insB
    split
    · rename_i hx
      exact List.pairwise_cons.mpr ⟨fun z hz => (List.mem_cons.mp hz).elim (fun e => e ▸ hx) fun hz => o.tr _ _ _ hx (h1 z hz), h⟩
    · split
      · rename_i hx
        refine List.pairwise_cons.mpr ⟨fun z hz => ?_, insB_sorted o h2⟩
        rcases (mem_insB o).mp hz with e | hz
        · rw [e]; exact hx
        · exact h1 z hz
      · exact h
theorem mem_srtB (o : Ord lt) {z : α} : ∀ {l : List α}, z ∈ srtB lt l ↔ z ∈ l
  | [] => by simp [srtB]
  | y :: l => by
    show z ∈ insB lt y (srtB lt l) ↔ _
    rw [mem_insB o, mem_srtB o (l := l), List.mem_cons]
theorem srtB_sorted (o : Ord lt) : ∀ (l : List α), (srtB lt l).Pairwise (fun a b => lt a b = true)
  | [] => by simp [srtB]
  | y :: l => insB_sorted o (srtB_sorted o l)
theorem sorted_eq (o : Ord lt) : ∀ {a b : List α}, a.Pairwise (fun a b => lt a b = true) → b.Pairwise (fun a b => lt a b = true) → (∀ z, z ∈ a ↔ z ∈ b) → a = b
  | [], [], _, _, _ => rfl
  | [], y :: b, _, _, h => absurd ((h y).mpr List.mem_cons_self) (by simp)
  | x :: a, [], _, _, h => absurd ((h x).mp List.mem_cons_self) (by simp)
  | x :: a, y :: b, ha, hb, h => by
    obtain ⟨a1, a2⟩ := List.pairwise_cons.mp ha
    obtain ⟨b1, b2⟩ := List.pairwise_cons.mp hb
    have e : x = y := by
      rcases List.mem_cons.mp ((h x).mp List.mem_cons_self) with e | hx
      · exact e
      · rcases List.mem_cons.mp ((h y).mpr List.mem_cons_self) with e | hy
        · exact e.symm
        · have := o.asym (a1 y hy)
          rw [b1 x hx] at this
          cases this
    subst e
    have key : ∀ z, z ∈ a ↔ z ∈ b := fun z => by
      constructor
      · intro hz
        rcases List.mem_cons.mp ((h z).mp (List.mem_cons_of_mem _ hz)) with e | hz2
        · have := a1 z hz
          rw [e, o.irr] at this
          cases this
        · exact hz2
      · intro hz
        rcases List.mem_cons.mp ((h z).mpr (List.mem_cons_of_mem _ hz)) with e | hz2
        · have := b1 z hz
          rw [e, o.irr] at this
          cases this
        · exact hz2
    rw [sorted_eq o a2 b2 key]
theorem srtB_of (o : Ord lt) {l s : List α} (hs : s.Pairwise (fun a b => lt a b = true)) (h : ∀ z, z ∈ s ↔ z ∈ l) : srtB lt l = s :=
  sorted_eq o (srtB_sorted o l) hs fun z => (mem_srtB o).trans (h z).symm
theorem srtB_map {ltb : β → β → Bool} (o : Ord lt) (ob : Ord ltb) {f : α → β} {l : List α} (h : ∀ x ∈ l, ∀ y ∈ l, ltb (f x) (f y) = lt x y) : srtB ltb (l.map f) = (srtB lt l).map f := by
  refine srtB_of ob (List.pairwise_map.mpr (List.Pairwise.imp_of_mem (fun {a b} ha hb hab => ?_) (srtB_sorted o l))) fun z => ?_
  · rw [h a ((mem_srtB o).mp ha) b ((mem_srtB o).mp hb)]; exact hab
  · simp only [List.mem_map, mem_srtB o]
theorem srtB_len (o : Ord lt) : ∀ (l : List α), (srtB lt l).length ≤ l.length
  | [] => by simp [srtB]
  | y :: l => by
    have ih := srtB_len o l
    have key : ∀ l : List α, (insB lt y l).length ≤ l.length + 1 := by
      intro l
      induction l with
      | nil => simp [insB]
      | cons z l ih =>
        unfold insB
        split
        · simp
        · split
          · simp; omega
          · simp
    have := key (srtB lt l)
    show (insB lt y (srtB lt l)).length ≤ _
    rw [List.length_cons]
    omega
end
/-! pairs and points by their first numbers -/
def ltU (p q : Int × Int) : Bool := decide (p.1 < q.1 ∨ (p.1 = q.1 ∧ p.2 < q.2))
def ltP (p q : P2) : Bool := decide (p.x < q.x ∨ (p.x = q.x ∧ p.y < q.y))
theorem ordU : Ord ltU where
  irr := fun x => decide_eq_false (by omega)
  tr := fun x y z h1 h2 => by unfold ltU at *; simp at *; omega
  tri := fun x y h1 h2 => by unfold ltU at *; simp at *; exact Prod.ext (by omega) (by omega)
theorem ordP : Ord ltP where
  irr := fun x => decide_eq_false (by grind)
  tr := fun x y z h1 h2 => decide_eq_true (by
    have h1 := of_decide_eq_true h1
    have h2 := of_decide_eq_true h2
    grind)
  tri := fun x y h1 h2 => by
    have h1 := of_decide_eq_false h1
    have h2 := of_decide_eq_false h2
    exact P2.eq (by grind) (by grind)
theorem gp_lt {L : Nat} (hL : 0 < L) {p q : P2} (hp : p.W ∣ L) (hq : q.W ∣ L) : ltU (gp L p) (gp L q) = ltP p q := by
  have hl : (0 : Rat) < L := Rat.natCast_pos.mpr hL
  have e1 : ((gp L p).1 < (gp L q).1) ↔ p.x < q.x := by
    rw [← Rat.intCast_lt_intCast, gp_x hp, gp_x hq]
    exact ⟨fun h => Rat.lt_of_mul_lt_mul_right h (Rat.le_of_lt hl), fun h => Rat.mul_lt_mul_of_pos_right h hl⟩
  have e2 : ((gp L p).2 < (gp L q).2) ↔ p.y < q.y := by
    rw [← Rat.intCast_lt_intCast, gp_y hp, gp_y hq]
    exact ⟨fun h => Rat.lt_of_mul_lt_mul_right h (Rat.le_of_lt hl), fun h => Rat.mul_lt_mul_of_pos_right h hl⟩
  have e3 : ((gp L p).1 = (gp L q).1) ↔ p.x = q.x := by
    rw [← Rat.intCast_inj, gp_x hp, gp_x hq]
    exact ⟨fun h => by
      have := hl
      have h2 : (L : Rat) ≠ 0 := by grind
      have := congrArg (· / (L : Rat)) h
      simp only [Rat.mul_div_cancel h2] at this
      exact this, fun h => by rw [h]⟩
  unfold ltU ltP
  exact decide_eq_decide.mpr (by rw [e1, e2, e3])
end Hull
namespace Hull
open PySem
/-! the chain of left turns; the stack's top is its head -/
section
variable {α β : Type}
def popR (bend : α → α → α → Bool) (x : α) : List α → List α
  | b :: a :: r => if bend a b x then b :: a :: r else popR bend x (a :: r)
  | l => l
def stepR (bend : α → α → α → Bool) (st : List α) (x : α) : List α := x :: popR bend x st
def chainR (bend : α → α → α → Bool) (l : List α) : List α := l.foldl (stepR bend) []
def chain (bend : α → α → α → Bool) (l : List α) : List α := (chainR bend l).reverse
variable {bend : α → α → α → Bool} {bend' : β → β → β → Bool} {f : α → β}
theorem popR_sub (x : α) : ∀ {st : List α} {z : α}, z ∈ popR bend x st → z ∈ st
  | [], _, h => h
  | [_], _, h => h
  | b :: a :: r, z, h => by
    unfold popR at h
    split at h
    · exact h
    · exact List.mem_cons_of_mem _ (popR_sub x h)
theorem popR_len (x : α) : ∀ {st : List α}, (popR bend x st).length ≤ st.length
  | [] => Nat.le_refl _
  | [_] => Nat.le_refl _
  | b :: a :: r => by
    unfold popR
    split
    · exact Nat.le_refl _
    · exact Nat.le_trans (popR_len x) (Nat.le_succ _)
theorem popR_map (x : α) : ∀ {st : List α}, (∀ a ∈ st, ∀ b ∈ st, bend' (f a) (f b) (f x) = bend a b x) → popR bend' (f x) (st.map f) = (popR bend x st).map f
  | [], _ => rfl
  | [_], _ => rfl
  | b :: a :: r, h => by
    have e := h a (by simp) b (by simp)
    have ih := popR_map x (st := a :: r) fun c hc d hd => h c (List.mem_cons_of_mem _ hc) d (List.mem_cons_of_mem _ hd)
    show popR bend' (f x) (f b :: f a :: r.map f) = _
    unfold popR
    rw [e]
    split
    · rfl
    · exact ih
theorem foldR_sub : ∀ (l st : List α) {z : α}, z ∈ l.foldl (stepR bend) st → z ∈ l ∨ z ∈ st
  | [], _, _, h => .inr h
  | x :: l, st, z, h => by
    rcases foldR_sub l (stepR bend st x) h with h | h
    · exact .inl (List.mem_cons_of_mem _ h)
    · rcases List.mem_cons.mp h with h | h
      · exact .inl (by rw [h]; exact List.mem_cons_self)
      · exact .inr (popR_sub x h)
theorem foldR_map : ∀ (l st : List α), (∀ a b c, (a ∈ l ∨ a ∈ st) → (b ∈ l ∨ b ∈ st) → (c ∈ l ∨ c ∈ st) → bend' (f a) (f b) (f c) = bend a b c) → (l.map f).foldl (stepR bend') (st.map f) = (l.foldl (stepR bend) st).map f
  | [], _, _ => rfl
  | x :: l, st, h => by
    have e : stepR bend' (st.map f) (f x) = (stepR bend st x).map f := by
      unfold stepR
      rw [popR_map x fun a ha b hb => h a b x (.inr ha) (.inr hb) (.inl List.mem_cons_self)]
      rfl
    show (l.map f).foldl (stepR bend') (stepR bend' (st.map f) (f x)) = _
    rw [e]
    have key : ∀ z, z ∈ l ∨ z ∈ stepR bend st x → z ∈ x :: l ∨ z ∈ st := fun z hz => by
      rcases hz with hz | hz
      · exact .inl (List.mem_cons_of_mem _ hz)
      · rcases List.mem_cons.mp hz with hz | hz
        · exact .inl (by rw [hz]; exact List.mem_cons_self)
        · exact .inr (popR_sub x hz)
    exact foldR_map l _ fun a b c ha hb hc => h a b c (key a ha) (key b hb) (key c hc)
theorem chain_map {l : List α} (h : ∀ a ∈ l, ∀ b ∈ l, ∀ c ∈ l, bend' (f a) (f b) (f c) = bend a b c) : chain bend' (l.map f) = (chain bend l).map f := by
  unfold chain chainR
  have e := foldR_map (bend := bend) (bend' := bend') (f := f) l [] fun a b c ha hb hc => h a (by simpa using ha) b (by simpa using hb) c (by simpa using hc)
  rw [List.map_nil] at e
  rw [e, List.map_reverse]
theorem chain_sub {l : List α} {z : α} (h : z ∈ chain bend l) : z ∈ l := by
  unfold chain chainR at h
  rcases foldR_sub l [] (List.mem_reverse.mp h) with h | h
  · exact h
  · cases h
theorem foldR_len : ∀ (l st : List α), (l.foldl (stepR bend) st).length ≤ l.length + st.length
  | [], _ => by simp
  | x :: l, st => by
    have := foldR_len l (stepR bend st x)
    have h2 : (stepR bend st x).length ≤ st.length + 1 := Nat.succ_le_succ (popR_len x)
    show (l.foldl (stepR bend) (stepR bend st x)).length ≤ _
    rw [List.length_cons]
    omega
theorem chain_len {l : List α} : (chain bend l).length ≤ l.length := by
  unfold chain chainR
  rw [List.length_reverse]
  exact foldR_len l []
end
def bendI (a b c : Int × Int) : Bool := decide ((b.2 - a.2) * (c.1 - a.1) < (b.1 - a.1) * (c.2 - a.2))
def bendP (a b c : P2) : Bool := decide (0 < tri a b c)
theorem bend_gp {L : Nat} (hL : 0 < L) {a b c : P2} (ha : a.W ∣ L) (hb : b.W ∣ L) (hc : c.W ∣ L) : bendI (gp L a) (gp L b) (gp L c) = bendP a b c := by
  have hl : (0 : Rat) < L := Rat.natCast_pos.mpr hL
  have hl2 : (0 : Rat) < L * L := Rat.mul_pos hl hl
  unfold bendI bendP
  refine decide_eq_decide.mpr ?_
  rw [← Rat.intCast_lt_intCast]
  simp only [Rat.intCast_mul, Rat.intCast_sub, gp_x ha, gp_x hb, gp_x hc, gp_y ha, gp_y hb, gp_y hc]
  have e : (b.x * L - a.x * L) * (c.y * L - a.y * L) - (b.y * L - a.y * L) * (c.x * L - a.x * L) = tri a b c * (L * L) := by
    simp only [tri, cr, P2.sub]; grind
  constructor
  · intro h
    have h2 : 0 < tri a b c * (L * L) := by rw [← e]; grind
    exact (Rat.mul_pos_iff_of_pos_right hl2).mp h2
  · intro h
    have h2 := (Rat.mul_pos_iff_of_pos_right hl2).mpr h
    rw [← e] at h2
    grind
/-- the program's hull -/
def hullP (ps : List P2) : List P2 :=
  if (srtB ltP ps).length = 1 then srtB ltP ps else (chain bendP (srtB ltP ps)).dropLast ++ (chain bendP (srtB ltP ps).reverse).dropLast
def hullI (qs : List (Int × Int)) : List (Int × Int) :=
  if (srtB ltU qs).length = 1 then srtB ltU qs else (chain bendI (srtB ltU qs)).dropLast ++ (chain bendI (srtB ltU qs).reverse).dropLast
theorem hull_gp {L : Nat} (hL : 0 < L) {ps : List P2} (h : ∀ p ∈ ps, p.W ∣ L) : hullI (ps.map (gp L)) = (hullP ps).map (gp L) := by
  have e : srtB ltU (ps.map (gp L)) = (srtB ltP ps).map (gp L) := srtB_map ordP ordU fun x hx y hy => gp_lt hL (h x hx) (h y hy)
  have hm : ∀ p ∈ srtB ltP ps, p.W ∣ L := fun p hp => h p ((mem_srtB ordP).mp hp)
  have c1 : chain bendI ((srtB ltP ps).map (gp L)) = (chain bendP (srtB ltP ps)).map (gp L) := chain_map fun a ha b hb c hc => bend_gp hL (hm a ha) (hm b hb) (hm c hc)
  have c2 : chain bendI ((srtB ltP ps).reverse.map (gp L)) = (chain bendP (srtB ltP ps).reverse).map (gp L) := chain_map fun a ha b hb c hc => bend_gp hL (hm a (List.mem_reverse.mp ha)) (hm b (List.mem_reverse.mp hb)) (hm c (List.mem_reverse.mp hc))
  unfold hullI hullP
  rw [e, List.length_map]
  split
  · rfl
  · rw [c1, ← List.map_reverse, c2, List.map_append, List.map_dropLast, List.map_dropLast]
theorem hullP_sub {ps : List P2} {p : P2} (h : p ∈ hullP ps) : p ∈ ps := by
  unfold hullP at h
  split at h
  · exact (mem_srtB ordP).mp h
  · rcases List.mem_append.mp h with h | h
    · exact (mem_srtB ordP).mp (chain_sub ((List.dropLast_sublist _).mem h))
    · exact (mem_srtB ordP).mp (List.mem_reverse.mp (chain_sub ((List.dropLast_sublist _).mem h)))
theorem hullI_sub {ps : List (Int × Int)} {p : Int × Int} (h : p ∈ hullI ps) : p ∈ ps := by
  unfold hullI at h
  split at h
  · exact (mem_srtB ordU).mp h
  · rcases List.mem_append.mp h with h | h
    · exact (mem_srtB ordU).mp (chain_sub ((List.dropLast_sublist _).mem h))
    · exact (mem_srtB ordU).mp (List.mem_reverse.mp (chain_sub ((List.dropLast_sublist _).mem h)))
theorem gp_back {L : Nat} {p : P2} (hL : 0 < L) (h : p.W ∣ L) : (⟨((gp L p).1 : Rat) / ((L : Int) : Rat), ((gp L p).2 : Rat) / ((L : Int) : Rat)⟩ : P2) = p := by
  have hl : (L : Rat) ≠ 0 := by
    have : (0 : Rat) < L := Rat.natCast_pos.mpr hL
    grind
  refine P2.eq ?_ ?_
  · show ((gp L p).1 : Rat) / ((L : Int) : Rat) = p.x
    rw [gp_x h, Rat.intCast_natCast, Rat.mul_div_cancel hl]
  · show ((gp L p).2 : Rat) / ((L : Int) : Rat) = p.y
    rw [gp_y h, Rat.intCast_natCast, Rat.mul_div_cancel hl]
end Hull
namespace Hull
open PySem
/-! a chord between two lines, through the origin: the left end is -m times the right one -/
structure Ch (a u b v : P2) (s t m : Rat) : Prop where
  m0 : 0 < m
  ex : a.x + s * u.x = -(m * (b.x + t * v.x))
  ey : a.y + s * u.y = -(m * (b.y + t * v.y))
section
variable {a u b v : P2} {s t m s' t' m' : Rat}
theorem mul_pos' {x y : Rat} (h : 0 < x) (k : 0 < y) : 0 < x * y := Rat.mul_pos h k
theorem mul_nn {x y : Rat} (h : 0 ≤ x) (k : 0 ≤ y) : 0 ≤ x * y := Rat.mul_nonneg h k
theorem pos_of_mul {x y : Rat} (h : 0 < x * y) (k : 0 < x) : 0 < y := (Rat.mul_pos_iff_of_pos_left k).mp h
theorem nn_of_mul {x y : Rat} (h : 0 ≤ x * y) (k : 0 < x) : 0 ≤ y := by
  rcases (Std.le_total (a := 0) (b := y)) with z | z
  · exact z
  · by_cases q : y = 0
    · grind
    · have : 0 < -y := by grind
      have := mul_pos' k this
      grind
/-- how the ends of two chords differ -/
theorem Ch.diff (h : Ch a u b v s t m) (h' : Ch a u b v s' t' m') : m * m' * ((t' - t) * cr b v) = (s' - s) * cr a u := by
  obtain ⟨_, e1, e2⟩ := h
  obtain ⟨_, f1, f2⟩ := h'
  have k1 : (a.x + s * u.x) * (a.y + s' * u.y) - (a.y + s * u.y) * (a.x + s' * u.x) = (s' - s) * cr a u := by unfold cr; grind
  rw [← k1, e1, e2, f1, f2]
  unfold cr
  grind
theorem Ch.mv (h : Ch a u b v s t m) : m * cr b v = -(cr a v + s * cr u v) := by
  obtain ⟨_, e1, e2⟩ := h
  have : cr a v + s * cr u v = (a.x + s * u.x) * v.y - (a.y + s * u.y) * v.x := by unfold cr; grind
  rw [this, e1, e2]
  unfold cr
  grind
theorem Ch.mu (h : Ch a u b v s t m) : cr a u = m * (cr u b + t * cr u v) := by
  obtain ⟨_, e1, e2⟩ := h
  have : cr a u = (a.x + s * u.x) * u.y - (a.y + s * u.y) * u.x := by unfold cr; grind
  rw [this, e1, e2]
  unfold cr
  grind
theorem Ch.zero (h : Ch a u b v s t m) : cr a b + t * cr a v + s * (cr u b + t * cr u v) = 0 := by
  obtain ⟨_, e1, e2⟩ := h
  have : cr a b + t * cr a v + s * (cr u b + t * cr u v) = (a.x + s * u.x) * (b.y + t * v.y) - (a.y + s * u.y) * (b.x + t * v.x) := by unfold cr; grind
  rw [this, e1, e2]
  grind
/-- the chord over a left end -/
theorem ch_left (hj : 0 < cr b v) (h : cr a v + s * cr u v < 0) : Ch a u b v s (-(cr a b + s * cr u b) / (cr a v + s * cr u v)) (-(cr a v + s * cr u v) / cr b v) := by
  have hd : cr a v + s * cr u v ≠ 0 := by grind
  have hb : cr b v ≠ 0 := by grind
  refine ⟨?_, ?_, ?_⟩
  · rw [Rat.div_def]
    exact mul_pos' (by grind) (Rat.inv_pos.mpr hj)
  · have e : (a.x + s * u.x) * cr b v = (cr a v + s * cr u v) * b.x - (cr a b + s * cr u b) * v.x := by unfold cr; grind
    have : a.x + s * u.x = ((cr a v + s * cr u v) * b.x - (cr a b + s * cr u b) * v.x) / cr b v := by rw [← e]; grind
    rw [this]
    grind
  · have e : (a.y + s * u.y) * cr b v = (cr a v + s * cr u v) * b.y - (cr a b + s * cr u b) * v.y := by unfold cr; grind
    have : a.y + s * u.y = ((cr a v + s * cr u v) * b.y - (cr a b + s * cr u b) * v.y) / cr b v := by rw [← e]; grind
    rw [this]
    grind
/-- the chord over a right end -/
theorem ch_right (hi : 0 < cr a u) (h : 0 < cr u b + t * cr u v) : Ch a u b v (-(cr a b + t * cr a v) / (cr u b + t * cr u v)) t (cr a u / (cr u b + t * cr u v)) := by
  have hd : cr u b + t * cr u v ≠ 0 := by grind
  refine ⟨?_, ?_, ?_⟩
  · rw [Rat.div_def]
    exact mul_pos' hi (Rat.inv_pos.mpr h)
  · have e : (b.x + t * v.x) * cr a u = -(cr u b + t * cr u v) * a.x + (cr a b + t * cr a v) * u.x := by unfold cr; grind
    grind
  · have e : (b.y + t * v.y) * cr a u = -(cr u b + t * cr u v) * a.y + (cr a b + t * cr a v) * u.y := by unfold cr; grind
    grind
theorem Ch.le_iff (h : Ch a u b v s t m) (h' : Ch a u b v s' t' m') (hi : 0 < cr a u) (hj : 0 < cr b v) : s ≤ s' ↔ t ≤ t' := by
  have d := h.diff h'
  have hm := mul_pos' (mul_pos' h.m0 h'.m0) hj
  have d2 : (m * m' * cr b v) * (t' - t) = cr a u * (s' - s) := by grind
  constructor
  · intro q
    have : 0 ≤ cr a u * (s' - s) := mul_nn (by grind) (by grind)
    rw [← d2] at this
    have := nn_of_mul this hm
    grind
  · intro q
    have : 0 ≤ (m * m' * cr b v) * (t' - t) := mul_nn (by grind) (by grind)
    rw [d2] at this
    have := nn_of_mul this hi
    grind
theorem Ch.same (h : Ch a u b v s t m) (h' : Ch a u b v s t' m') (hi : 0 < cr a u) (hj : 0 < cr b v) : t' = t ∧ m' = m := by
  have e1 := (h.le_iff h' hi hj).mp (by grind)
  have e2 := (h'.le_iff h hi hj).mp (by grind)
  have h1 := h.mv
  have h2 := h'.mv
  refine ⟨by grind, ?_⟩
  have : (m' - m) * cr b v = 0 := by grind
  have hb : cr b v ≠ 0 := by grind
  have := Rat.mul_eq_zero.mp this
  grind
/-- down to a corner -/
theorem Ch.lo (h : Ch a u b v s t m) (hi : 0 < cr a u) (hj : 0 < cr b v) (hs : 0 ≤ s) (ht : 0 ≤ t) :
    ∃ s' t' m', Ch a u b v s' t' m' ∧ 0 ≤ s' ∧ s' ≤ s ∧ 0 ≤ t' ∧ t' ≤ t ∧ (s' = 0 ∨ t' = 0) := by
  have e1 := h.mv
  have e2 := h.mu
  have e3 := h.zero
  have hm := h.m0
  have hR : 0 < cr u b + t * cr u v := by
    rw [e2] at hi
    exact pos_of_mul hi hm
  have hL : cr a v + s * cr u v < 0 := by
    have := mul_pos' hm hj
    grind
  rcases (Std.le_total (a := 0) (b := cr a b)) with z | z
  · -- the left end goes down to the corner
    have hav : cr a v < 0 := by
      by_cases q : s = 0
      · subst q
        grind
      · have hs' : 0 < s := by grind
        have := mul_pos' hs' hR
        have h4 : 0 < t * -(cr a v) := by grind
        have ht' : 0 < t := by
          by_cases w : t = 0
          · subst w; grind
          · grind
        have := pos_of_mul h4 ht'
        grind
    have c := ch_left (a := a) (u := u) (b := b) (v := v) (s := 0) hj (by grind)
    refine ⟨0, _, _, c, Rat.le_refl, hs, ?_, ?_, .inl rfl⟩
    · have e : -(cr a b + 0 * cr u b) / (cr a v + 0 * cr u v) = cr a b / -(cr a v) := by
        rw [Rat.zero_mul, Rat.zero_mul, Rat.add_zero, Rat.add_zero]
        grind
      rw [e, Rat.div_def]
      exact mul_nn z (Rat.le_of_lt (Rat.inv_pos.mpr (by grind)))
    · exact (c.le_iff h hi hj).mp hs
  · by_cases q0 : cr a b = 0
    · -- both corners at once
      have hav : cr a v < 0 := by
        by_cases q : s = 0
        · subst q
          grind
        · have hs' : 0 < s := by grind
          have := mul_pos' hs' hR
          have h4 : 0 < t * -(cr a v) := by grind
          have ht' : 0 < t := by
            by_cases w : t = 0
            · subst w; grind
            · grind
          have := pos_of_mul h4 ht'
          grind
      have c := ch_left (a := a) (u := u) (b := b) (v := v) (s := 0) hj (by grind)
      refine ⟨0, _, _, c, Rat.le_refl, hs, ?_, ?_, .inl rfl⟩
      · have e : -(cr a b + 0 * cr u b) / (cr a v + 0 * cr u v) = 0 := by
          rw [q0]
          grind
        rw [e]
        exact Rat.le_refl
      · exact (c.le_iff h hi hj).mp hs
    · -- the right end goes down to the corner
      have k1 : 0 < s * cr u b := by
        have e4 : s * cr u b = t * -(cr a v + s * cr u v) - cr a b := by grind
        have : 0 ≤ t * -(cr a v + s * cr u v) := mul_nn ht (by grind)
        grind
      have hs' : 0 < s := by
        by_cases w : s = 0
        · subst w; grind
        · grind
      have hub := pos_of_mul k1 hs'
      have c := ch_right (a := a) (u := u) (b := b) (v := v) (t := 0) hi (by grind)
      refine ⟨_, 0, _, c, ?_, ?_, Rat.le_refl, ht, .inr rfl⟩
      · rw [Rat.div_def]
        exact mul_nn (by grind) (Rat.le_of_lt (Rat.inv_pos.mpr (by grind)))
      · exact (c.le_iff h hi hj).mpr ht
def P2.mir (p : P2) : P2 := ⟨-p.x, p.y⟩
def P2.neg (p : P2) : P2 := ⟨-p.x, -p.y⟩
/-- up to a corner -/
theorem Ch.hi (h : Ch a u b v s t m) (hi : 0 < cr a u) (hj : 0 < cr b v) (hs : s ≤ 1) (ht : t ≤ 1) :
    ∃ s' t' m', Ch a u b v s' t' m' ∧ s ≤ s' ∧ s' ≤ 1 ∧ t ≤ t' ∧ t' ≤ 1 ∧ (s' = 1 ∨ t' = 1) := by
  have k : Ch (a.add u).mir u.mir.neg (b.add v).mir v.mir.neg (1 - s) (1 - t) m := ⟨h.m0, by
    have := h.ex
    simp only [P2.mir, P2.neg, P2.add]
    grind, by
    have := h.ey
    simp only [P2.mir, P2.neg, P2.add]
    grind⟩
  have c1 : cr (a.add u).mir u.mir.neg = cr a u := by simp only [cr, P2.mir, P2.neg, P2.add]; grind
  have c2 : cr (b.add v).mir v.mir.neg = cr b v := by simp only [cr, P2.mir, P2.neg, P2.add]; grind
  obtain ⟨s', t', m', c, h1, h2, h3, h4, h5⟩ := k.lo (by rw [c1]; exact hi) (by rw [c2]; exact hj) (by grind) (by grind)
  refine ⟨1 - s', 1 - t', m', ⟨c.m0, ?_, ?_⟩, by grind, by grind, by grind, by grind, by grind⟩
  · have := c.ex
    simp only [P2.mir, P2.neg, P2.add] at this
    grind
  · have := c.ey
    simp only [P2.mir, P2.neg, P2.add] at this
    grind
/-- between two chords a halved one -/
theorem Ch.mid (h : Ch a u b v s t m) (h' : Ch a u b v s' t' m') (hi : 0 < cr a u) (hj : 0 < cr b v) (hs : s ≤ s') (hm : (m < 1 ∧ 1 < m') ∨ (1 < m ∧ m' < 1)) :
    cr u v ≠ 0 ∧ ∃ s2 t2, Ch a u b v s2 t2 1 ∧ s ≤ s2 ∧ s2 ≤ s' ∧ t ≤ t2 ∧ t2 ≤ t' ∧ s2 ≠ s ∧ s2 ≠ s' := by
  have e1 := h.mv
  have e2 := h'.mv
  have hb : cr b v ≠ 0 := by grind
  have hne : m' - m ≠ 0 := by grind
  have hd : (m' - m) * cr b v = -((s' - s) * cr u v) := by grind
  have huv : cr u v ≠ 0 := by
    intro z
    rw [z] at hd
    have : (m' - m) * cr b v = 0 := by grind
    have := Rat.mul_eq_zero.mp this
    grind
  have hss : s' - s ≠ 0 := by
    intro z
    rw [z] at hd
    have : (m' - m) * cr b v = 0 := by grind
    have := Rat.mul_eq_zero.mp this
    grind
  -- the share of the way
  have hk : 0 < (1 - m) / (m' - m) ∧ (1 - m) / (m' - m) < 1 := by
    have key : ∀ x y : Rat, 0 < x → x < y → 0 < x / y ∧ x / y < 1 := fun x y h1 h2 => by
      have hy : 0 < y := by grind
      refine ⟨by rw [Rat.div_def]; exact mul_pos' h1 (Rat.inv_pos.mpr hy), (Rat.div_lt_iff hy).mpr (by grind)⟩
    rcases hm with ⟨h1, h2⟩ | ⟨h1, h2⟩
    · exact key _ _ (by grind) (by grind)
    · have := key (m - 1) (m - m') (by grind) (by grind)
      have e : (1 - m) / (m' - m) = (m - 1) / (m - m') := by
        have : m - m' ≠ 0 := by grind
        grind
      rw [e]
      exact this
  generalize hkk : (1 - m) / (m' - m) = k at hk
  have hk1 : k * (m' - m) = 1 - m := by rw [← hkk]; grind
  have hneg : cr a v + (s + (s' - s) * k) * cr u v = -(cr b v) := by grind
  have c := ch_left (a := a) (u := u) (b := b) (v := v) (s := s + (s' - s) * k) hj (by grind)
  have em : -(cr a v + (s + (s' - s) * k) * cr u v) / cr b v = 1 := by
    rw [hneg]
    grind
  rw [em] at c
  have hsp : 0 < s' - s := by grind
  have p1 := mul_pos' hsp hk.1
  have p2 : 0 < (s' - s) * (1 - k) := mul_pos' hsp (by grind)
  refine ⟨huv, _, _, c, by grind, by grind, (h.le_iff c hi hj).mp (by grind), (c.le_iff h' hi hj).mp (by grind), by grind, by grind⟩
/-! which areas there are -/
/-- a chord that is not halved has a smaller one behind it, at a corner or halved -/
theorem Ch.less (h : Ch a u b v s t m) (hi : 0 < cr a u) (hj : 0 < cr b v) (hs0 : 0 ≤ s) (ht0 : 0 ≤ t) (hs1 : s ≤ 1) (ht1 : t ≤ 1) (hr : (m < 1 ∧ 0 < s ∧ 0 < t) ∨ (1 < m ∧ s < 1 ∧ t < 1)) :
    ∃ s' t' m', Ch a u b v s' t' m' ∧ 0 ≤ s' ∧ s' ≤ 1 ∧ 0 ≤ t' ∧ t' ≤ 1 ∧ (s' = 0 ∨ t' = 0 ∨ s' = 1 ∨ t' = 1 ∨ (m' = 1 ∧ cr u v ≠ 0)) ∧ t' * cr b v - s' * cr a u < t * cr b v - s * cr a u := by
  have gap : ∀ s' t' m', Ch a u b v s' t' m' → (t' - t) * cr b v * (1 - m * m') < 0 → t' * cr b v - s' * cr a u < t * cr b v - s * cr a u := fun s' t' m' c q => by
    have := h.diff c
    grind
  rcases hr with ⟨h1, h2, h3⟩ | ⟨h1, h2, h3⟩
  · obtain ⟨s', t', m', c, k1, k2, k3, k4, k5⟩ := h.lo hi hj hs0 ht0
    have hlt : s' < s ∧ t' < t := by
      rcases k5 with z | z
      · refine ⟨by grind, ?_⟩
        have := (h.le_iff c hi hj)
        by_cases q : t' = t
        · have := this.mpr (by grind); grind
        · grind
      · refine ⟨?_, by grind⟩
        have := (h.le_iff c hi hj)
        by_cases q : s' = s
        · have := this.mp (by grind); grind
        · grind
    have hm' := c.m0
    by_cases q : m' ≤ 1
    · refine ⟨s', t', m', c, k1, by grind, k3, by grind, by grind, gap _ _ _ c ?_⟩
      have e1 : m * m' < 1 := by
        have : m * m' ≤ m * 1 := Rat.mul_le_mul_of_nonneg_left q (Rat.le_of_lt h.m0)
        grind
      have e2 : 0 < (t - t') * cr b v * (1 - m * m') := mul_pos' (mul_pos' (by grind) hj) (by grind)
      grind
    · obtain ⟨huv, s2, t2, c2, l1, l2, l3, l4, l5, l6⟩ := c.mid h hi hj k2 (.inr ⟨by grind, h1⟩)
      refine ⟨s2, t2, 1, c2, by grind, by grind, by grind, by grind, by grind, gap _ _ _ c2 ?_⟩
      have ht2 : t2 < t := by
        by_cases q : t2 = t
        · have := (h.le_iff c2 hi hj).mpr (by grind); grind
        · grind
      have e2 : 0 < (t - t2) * cr b v * (1 - m * 1) := mul_pos' (mul_pos' (by grind) hj) (by grind)
      grind
  · obtain ⟨s', t', m', c, k1, k2, k3, k4, k5⟩ := h.hi hi hj hs1 ht1
    have hlt : s < s' ∧ t < t' := by
      rcases k5 with z | z
      · refine ⟨by grind, ?_⟩
        have := (c.le_iff h hi hj)
        by_cases q : t' = t
        · have := this.mpr (by grind); grind
        · grind
      · refine ⟨?_, by grind⟩
        have := (c.le_iff h hi hj)
        by_cases q : s' = s
        · have := this.mp (by grind); grind
        · grind
    have hm' := c.m0
    by_cases q : 1 ≤ m'
    · refine ⟨s', t', m', c, by grind, by grind, by grind, by grind, by grind, gap _ _ _ c ?_⟩
      have e1 : 1 < m * m' := by
        have : m * 1 ≤ m * m' := Rat.mul_le_mul_of_nonneg_left q (Rat.le_of_lt h.m0)
        grind
      have e2 : 0 < (t' - t) * cr b v * (m * m' - 1) := mul_pos' (mul_pos' (by grind) hj) (by grind)
      grind
    · obtain ⟨huv, s2, t2, c2, l1, l2, l3, l4, l5, l6⟩ := h.mid c hi hj k1 (.inr ⟨by grind, by grind⟩)
      refine ⟨s2, t2, 1, c2, by grind, by grind, by grind, by grind, by grind, gap _ _ _ c2 ?_⟩
      have ht2 : t < t2 := by
        by_cases q : t2 = t
        · have := (c2.le_iff h hi hj).mpr (by grind); grind
        · grind
      have e2 : 0 < (t2 - t) * cr b v * (m * 1 - 1) := mul_pos' (mul_pos' (by grind) hj) (by grind)
      grind
/-- a halved chord between parallel lines is as good as one at a corner -/
theorem Ch.flat (h : Ch a u b v s t 1) (hi : 0 < cr a u) (hj : 0 < cr b v) (hs0 : 0 ≤ s) (ht0 : 0 ≤ t) (hs1 : s ≤ 1) (ht1 : t ≤ 1) (h0 : cr u v = 0) :
    ∃ s' t', Ch a u b v s' t' 1 ∧ 0 ≤ s' ∧ s' ≤ 1 ∧ 0 ≤ t' ∧ t' ≤ 1 ∧ (s' = 0 ∨ t' = 0) ∧ t' * cr b v - s' * cr a u = t * cr b v - s * cr a u := by
  obtain ⟨s', t', m', c, k1, k2, k3, k4, k5⟩ := h.lo hi hj hs0 ht0
  have e1 := h.mv
  have e2 := c.mv
  rw [h0] at e1 e2
  have hb : cr b v ≠ 0 := by grind
  have em : m' = 1 := by
    have : (m' - 1) * cr b v = 0 := by grind
    have := Rat.mul_eq_zero.mp this
    grind
  subst em
  have := h.diff c
  exact ⟨s', t', c, k1, by grind, k3, by grind, k5, by grind⟩
end
end Hull
namespace Hull
open PySem
/-! corners, sectors round an inner point -/
def Conv (S : List P2) : Prop := 3 ≤ S.length ∧ ∀ i j k, i < j → j < k → k < S.length → 0 < tri (cn S i) (cn S j) (cn S k)
def Ins (S : List P2) (P : P2) : Prop := ∀ i, i < S.length → 0 < tri (cn S i) (cn S (i + 1)) P
def tau (S : List P2) (P : P2) (k : Nat) : Rat := tri P (cn S k) (cn S (k + 1))
def G (S : List P2) (P : P2) : Nat → Rat
  | 0 => 0
  | k + 1 => G S P k + tau S P k
def Link (S : List P2) (P : P2) (i : Nat) (s : Rat) (j : Nat) (t m : Rat) : Prop := Ch ((cn S i).sub P) (eg S i) ((cn S j).sub P) (eg S j) s t m
section
variable {S : List P2} {P : P2} {i j : Nat} {s t m : Rat}
theorem cn_add (S : List P2) (i : Nat) : cn S (i + S.length) = cn S i := by unfold cn; rw [Nat.add_mod_right]
theorem cn_wrap {S : List P2} {i : Nat} : cn S (i % S.length + 1) = cn S (i + 1) := by unfold cn; rw [Nat.mod_add_mod]
theorem tri_rot (p q r : P2) : tri p q r = tri q r p := by simp only [tri, cr, P2.sub]; grind
theorem tri_swap (p q r : P2) : tri p q r = -tri p r q := by simp only [tri, cr, P2.sub]; grind
theorem tau_cr (S : List P2) (P : P2) (i : Nat) : cr ((cn S i).sub P) (eg S i) = tau S P i := by simp only [tau, tri, eg, cr, P2.sub]; grind
theorem tau_mod (S : List P2) (P : P2) (i : Nat) : tau S P (i % S.length) = tau S P i := by unfold tau; rw [cn_mod, cn_wrap]
theorem tau_add (S : List P2) (P : P2) (i : Nat) : tau S P (i + S.length) = tau S P i := by unfold tau; rw [cn_add, Nat.add_right_comm, cn_add]
theorem Ins.tau (h : Ins S P) (h0 : 0 < S.length) (i : Nat) : 0 < tau S P i := by
  rw [← tau_mod]
  have := h _ (Nat.mod_lt i h0)
  unfold Hull.tau
  rw [tri_rot]
  exact this
theorem Ins.cr (h : Ins S P) (h0 : 0 < S.length) (i : Nat) : 0 < Hull.cr ((cn S i).sub P) (Hull.eg S i) := by rw [tau_cr]; exact h.tau h0 i
theorem G_add (S : List P2) (P : P2) (k : Nat) : G S P (k + S.length) = G S P k + G S P S.length := by
  induction k with
  | zero => rw [Nat.zero_add]; show _ = 0 + _; rw [Rat.zero_add]
  | succ k ih =>
    rw [show k + 1 + S.length = (k + S.length) + 1 by omega]
    show G S P (k + S.length) + tau S P (k + S.length) = G S P k + tau S P k + _
    rw [ih, tau_add]
    grind
/-! the two ends lie on unlike edges -/
theorem Link.ne (hI : Ins S P) (h0 : 0 < S.length) (h : Link S P i s j t m) : i ≠ j := by
  intro z
  subst z
  have h1 := hI.cr h0 i
  have := Ch.mu h
  have hm := h.m0
  have e : cr (eg S i) ((cn S i).sub P) + t * cr (eg S i) (eg S i) = -(cr ((cn S i).sub P) (eg S i)) := by simp only [cr]; grind
  rw [e] at this
  have h3 := mul_pos' hm h1
  grind
theorem Link.neR (hI : Ins S P) (h0 : 0 < S.length) (h : Link S P i s j 1 m) (hi : i < S.length) : i ≠ (j + 1) % S.length := by
  intro z
  have e : cn S i = cn S (j + 1) := by rw [z, cn_mod]
  have h1 := hI.cr h0 i
  have hm := h.m0
  have ex := h.ex
  have ey := h.ey
  have e1 : cr ((cn S i).sub P) (eg S i) = (((cn S i).sub P).x + s * (eg S i).x) * (eg S i).y - (((cn S i).sub P).y + s * (eg S i).y) * (eg S i).x := by simp only [cr]; grind
  rw [ex, ey] at e1
  have b1 : ((cn S j).sub P).x + 1 * (eg S j).x = ((cn S i).sub P).x := by rw [e]; simp only [P2.sub, eg]; grind
  have b2 : ((cn S j).sub P).y + 1 * (eg S j).y = ((cn S i).sub P).y := by rw [e]; simp only [P2.sub, eg]; grind
  rw [b1, b2] at e1
  have e2 : cr ((cn S i).sub P) (eg S i) = -(m * cr ((cn S i).sub P) (eg S i)) := by
    conv => lhs; rw [e1]
    simp only [cr]; grind
  have h3 := mul_pos' hm h1
  grind
theorem Link.flip (h : Link S P i s j t m) : Link S P j t i s (1 / m) := by
  have hm := h.m0
  have ex := h.ex
  have ey := h.ey
  have hm0 : m ≠ 0 := by grind
  refine ⟨by rw [Rat.div_def]; exact mul_pos' (by decide) (Rat.inv_pos.mpr hm), by grind, by grind⟩
theorem Link.neL (hI : Ins S P) (h0 : 0 < S.length) (h : Link S P i 1 j t m) (hj : j < S.length) : j ≠ (i + 1) % S.length := h.flip.neR hI h0 hj
/-- share 1 of an edge, share 0 of the next -/
theorem Link.left (h : Link S P i 1 j t m) : Link S P ((i + 1) % S.length) 0 j t m := by
  refine ⟨h.m0, ?_, ?_⟩
  · rw [← h.ex, cn_mod]; simp only [P2.sub, eg]; grind
  · rw [← h.ey, cn_mod]; simp only [P2.sub, eg]; grind
theorem Link.right (h : Link S P i s j 1 m) : Link S P i s ((j + 1) % S.length) 0 m := by
  refine ⟨h.m0, ?_, ?_⟩
  · rw [h.ex, cn_mod]; simp only [P2.sub, eg]; grind
  · rw [h.ey, cn_mod]; simp only [P2.sub, eg]; grind
def ar2 (S : List P2) (P : P2) (i : Nat) (s : Rat) (j : Nat) (t : Rat) : Rat := G S P j - G S P i + t * tau S P j - s * tau S P i + (if j < i then G S P S.length else 0)
theorem ar2_left (hi : i < S.length) (hj : j < S.length) (hne : i ≠ j) : ar2 S P ((i + 1) % S.length) 0 j t = ar2 S P i 1 j t := by
  unfold ar2
  by_cases q : i + 1 < S.length
  · rw [Nat.mod_eq_of_lt q]
    have e : (if j < i + 1 then G S P S.length else 0) = if j < i then G S P S.length else 0 := by
      by_cases w : j < i
      · rw [if_pos w, if_pos (by omega)]
      · rw [if_neg w, if_neg (by omega)]
    rw [e]
    show _ - (G S P i + tau S P i) + _ - _ + _ = _
    grind
  · have e : i + 1 = S.length := by omega
    rw [e, Nat.mod_self, if_neg (by omega), if_pos (by omega)]
    have eg : G S P S.length = G S P i + tau S P i := by rw [← e]; rfl
    rw [eg]
    show _ - 0 + _ - _ + _ = _
    grind
theorem ar2_right (hi : i < S.length) (hj : j < S.length) (hne : i ≠ j) (hne2 : i ≠ (j + 1) % S.length) : ar2 S P i s ((j + 1) % S.length) 0 = ar2 S P i s j 1 := by
  unfold ar2
  by_cases q : j + 1 < S.length
  · rw [Nat.mod_eq_of_lt q] at hne2 ⊢
    have e : (if j + 1 < i then G S P S.length else 0) = if j < i then G S P S.length else 0 := by
      by_cases w : j < i
      · rw [if_pos w, if_pos (by omega)]
      · rw [if_neg w, if_neg (by omega)]
    rw [e]
    show (G S P j + tau S P j) - _ + _ - _ + _ = _
    grind
  · have e : j + 1 = S.length := by omega
    rw [e, Nat.mod_self] at hne2 ⊢
    rw [if_pos (by omega), if_neg (by omega)]
    have eg : G S P S.length = G S P j + tau S P j := by rw [← e]; rfl
    rw [eg]
    show 0 - _ + _ - _ + _ = _
    grind
theorem ar2_flip (hne : i ≠ j) : ar2 S P j t i s = G S P S.length - ar2 S P i s j t := by
  unfold ar2
  by_cases q : i < j
  · rw [if_pos q, if_neg (by omega)]; grind
  · rw [if_neg q, if_pos (by omega)]; grind
/-! chords between rim points -/
structure Chord (S : List P2) (P : P2) (z : Stand) (m : Rat) : Prop where
  i1 : z.1.1 < S.length
  i2 : z.2.1 < S.length
  a0 : 0 ≤ z.1.2
  a1 : z.1.2 < 1
  b0 : 0 ≤ z.2.2
  b1 : z.2.2 < 1
  lk : Link S P z.1.1 z.1.2 z.2.1 z.2.2 m
abbrev cA (S : List P2) (P : P2) (z : Stand) : Rat := ar2 S P z.1.1 z.1.2 z.2.1 z.2.2
theorem told_lt {n i : Nat} {t : Rat} (hi : i < n) : (told n i t).1 < n := by
  unfold told
  split
  · exact Nat.mod_lt _ (by omega)
  · exact hi
theorem told_share {n i : Nat} {t : Rat} (h0 : 0 ≤ t) (h1 : t ≤ 1) : 0 ≤ (told n i t).2 ∧ (told n i t).2 < 1 := by
  unfold told
  split
  · exact ⟨by show (0 : Rat) ≤ 0; grind, by show (0 : Rat) < 1; grind⟩
  · exact ⟨h0, by show t < 1; grind⟩
theorem Link.told (h : Link S P i s j t m) : Link S P (told S.length i s).1 (told S.length i s).2 (told S.length j t).1 (told S.length j t).2 m := by
  have key : Link S P (Hull.told S.length i s).1 (Hull.told S.length i s).2 j t m := by
    unfold Hull.told
    split
    · rename_i q
      subst q
      exact h.left
    · exact h
  unfold Hull.told at key ⊢
  split
  · rename_i q
    split at key
    · split
      · rename_i q2
        subst q2
        exact key.right
      · exact key
    · rename_i q3; exact absurd q q3
  · rename_i q
    split at key
    · rename_i q3; exact absurd q3 q
    · split
      · rename_i q2
        subst q2
        exact key.right
      · exact key
theorem Link.chord (h : Link S P i s j t m) (hi : i < S.length) (hj : j < S.length) (s0 : 0 ≤ s) (s1 : s ≤ 1) (t0 : 0 ≤ t) (t1 : t ≤ 1) : Chord S P (Hull.told S.length i s, Hull.told S.length j t) m :=
  ⟨told_lt hi, told_lt hj, (told_share s0 s1).1, (told_share s0 s1).2, (told_share t0 t1).1, (told_share t0 t1).2, h.told⟩
theorem Link.ar2 (hI : Ins S P) (h : Link S P i s j t m) (hi : i < S.length) (hj : j < S.length) : cA S P (Hull.told S.length i s, Hull.told S.length j t) = Hull.ar2 S P i s j t := by
  have h0 : 0 < S.length := by omega
  have hne := h.ne hI h0
  have key : Hull.ar2 S P (Hull.told S.length i s).1 (Hull.told S.length i s).2 j t = Hull.ar2 S P i s j t := by
    unfold Hull.told
    split
    · rename_i q
      subst q
      exact ar2_left hi hj hne
    · rfl
  show Hull.ar2 S P (Hull.told S.length i s).1 (Hull.told S.length i s).2 (Hull.told S.length j t).1 (Hull.told S.length j t).2 = _
  rw [← key]
  have h' : Link S P (Hull.told S.length i s).1 (Hull.told S.length i s).2 j t m := by
    unfold Hull.told
    split
    · rename_i q
      subst q
      exact h.left
    · exact h
  have hi' : (Hull.told S.length i s).1 < S.length := told_lt hi
  generalize Hull.told S.length i s = r at h' hi' ⊢
  unfold Hull.told
  split
  · rename_i q
    subst q
    exact ar2_right hi' hj (h'.ne hI h0) (h'.neR hI h0 hi')
  · rfl
theorem Chord.flip {z : Stand} (h : Chord S P z m) : Chord S P (z.2, z.1) (1 / m) := ⟨h.i2, h.i1, h.b0, h.b1, h.a0, h.a1, h.lk.flip⟩
theorem Chord.ne {z : Stand} (hI : Ins S P) (h : Chord S P z m) : z.1.1 ≠ z.2.1 := h.lk.ne hI (by have := h.i1; omega)
theorem cA_flip {z : Stand} (hI : Ins S P) (h : Chord S P z m) : cA S P (z.2, z.1) = G S P S.length - cA S P z := ar2_flip (h.ne hI)
/-! the area under water -/
def pathP (P : P2) : List P2 → Rat
  | x :: y :: l => tri P x y + pathP P (y :: l)
  | _ => 0
theorem shoe_open (P : P2) : ∀ (l : List P2) (x y : P2), ((x :: l).zipWith cr (l ++ [y])).sum = pathP P (x :: l ++ [y]) + cr P y - cr P x
  | [], x, y => by
    simp only [List.nil_append, List.zipWith_cons_cons, List.zipWith_nil_left, List.sum_cons, List.sum_nil, List.cons_append, pathP, tri, cr, P2.sub]
    grind
  | z :: l, x, y => by
    have ih := shoe_open P l z y
    simp only [List.cons_append, List.zipWith_cons_cons, List.sum_cons, pathP] at ih ⊢
    rw [ih]
    simp only [tri, cr, P2.sub]
    grind
theorem shoe_path (P : P2) (x : P2) (l : List P2) : shoe (x :: l) = pathP P (x :: l ++ [x]) := by
  unfold shoe
  have := shoe_open P l x x
  simp only [List.drop_succ_cons, List.drop_zero, List.take_succ_cons, List.take_zero]
  rw [this]
  grind
theorem path_app (P : P2) : ∀ (l : List P2) (x y : P2), pathP P (l ++ [x, y]) = pathP P (l ++ [x]) + tri P x y
  | [], x, y => by simp only [List.nil_append, pathP]; grind
  | [z], x, y => by simp only [List.cons_append, List.nil_append, pathP]; grind
  | z :: w :: l, x, y => by
    have ih := path_app P (w :: l) x y
    simp only [List.cons_append, pathP] at ih ⊢
    rw [ih]
    grind
/-- from a point of an edge through the next corners -/
theorem path_corners (S : List P2) (P : P2) (i : Nat) (s : Rat) : ∀ d : Nat, pathP P (rp S (i, s) :: (List.range (d + 1)).map fun k => cn S (i + k + 1)) = (1 - s) * tau S P i + G S P (i + d + 1) - G S P (i + 1)
  | 0 => by
    show tri P (rp S (i, s)) (cn S (i + 0 + 1)) + 0 = _
    simp only [rp, tau, tri, eg, cr, P2.sub, P2.add, P2.mul, Nat.add_zero]
    grind
  | d + 1 => by
    have ih := path_corners S P i s d
    rw [List.range_succ, List.map_append, List.map_cons, List.map_nil]
    rw [List.range_succ, List.map_append, List.map_cons, List.map_nil] at ih ⊢
    have e : rp S (i, s) :: (((List.range d).map fun k => cn S (i + k + 1)) ++ [cn S (i + d + 1)] ++ [cn S (i + (d + 1) + 1)]) = (rp S (i, s) :: ((List.range d).map fun k => cn S (i + k + 1))) ++ [cn S (i + d + 1), cn S (i + (d + 1) + 1)] := by simp
    rw [e, path_app]
    have e2 : rp S (i, s) :: ((List.range d).map fun k => cn S (i + k + 1)) ++ [cn S (i + d + 1)] = rp S (i, s) :: (((List.range d).map fun k => cn S (i + k + 1)) ++ [cn S (i + d + 1)]) := by simp
    rw [e2, ih]
    show _ + tau S P (i + d + 1) = _ + (G S P (i + d + 1) + tau S P (i + d + 1)) - _
    grind
theorem rp_sub (S : List P2) (P : P2) (r : Rim) : (rp S r).sub P = ⟨((cn S r.1).sub P).x + r.2 * (eg S r.1).x, ((cn S r.1).sub P).y + r.2 * (eg S r.1).y⟩ := by
  refine P2.eq ?_ ?_ <;> simp only [rp, P2.sub, P2.add, P2.mul] <;> grind
theorem Chord.line {z : Stand} (h : Chord S P z m) : tri P (rp S z.2) (rp S z.1) = 0 := by
  unfold tri
  rw [rp_sub, rp_sub]
  have ex := h.lk.ex
  have ey := h.lk.ey
  unfold cr
  rw [ex, ey]
  grind
theorem below_path (S : List P2) (P : P2) {z : Stand} (h1 : z.1.1 < S.length) (h2 : z.2.1 < S.length) (hne : z.1.1 ≠ z.2.1) : pathP P (below S z) = (1 - z.1.2) * tau S P z.1.1 + G S P (z.1.1 + arcN S.length z.1.1 z.2.1) - G S P (z.1.1 + 1) + z.2.2 * tau S P z.2.1 := by
  have hd : ∃ d, arcN S.length z.1.1 z.2.1 = d + 1 := by
    have := arcN_eq h1 h2
    refine ⟨arcN S.length z.1.1 z.2.1 - 1, ?_⟩
    split at this <;> omega
  obtain ⟨d, hd⟩ := hd
  have hstop := arc_stop h1 h2
  have hcj : cn S (z.1.1 + d + 1) = cn S z.2.1 := by rw [← hstop, cn_mod, hd]; rfl
  have hm : ∀ n : Nat, ((List.range n).map fun k => (z.1.1 + k + 1) % S.length).map (cn S) = (List.range n).map fun k => cn S (z.1.1 + k + 1) := fun n => by
    rw [List.map_map]
    refine List.map_congr_left fun k _ => ?_
    show cn S _ = _
    rw [cn_mod]
  have pc := path_corners S P z.1.1 z.1.2 d
  have eL : rp S (z.1.1, z.1.2) = rp S z.1 := rfl
  rw [eL] at pc
  unfold below passed
  rw [hd]
  split
  · rename_i h0
    have er : rp S z.2 = cn S z.2.1 := by
      unfold rp
      rw [h0]
      refine P2.eq ?_ ?_ <;> simp only [P2.add, P2.mul] <;> grind
    rw [er, ← hcj, List.range_succ, List.map_append, List.map_cons, List.map_nil, List.dropLast_concat, hm, h0]
    rw [List.range_succ, List.map_append, List.map_cons, List.map_nil] at pc
    rw [List.append_assoc, List.singleton_append, pc]
    show _ = _ + G S P (z.1.1 + d + 1) - _ + _
    grind
  · rw [hm]
    rw [List.range_succ, List.map_append, List.map_cons, List.map_nil] at pc ⊢
    have e : [rp S z.1] ++ (((List.range d).map fun k => cn S (z.1.1 + k + 1)) ++ [cn S (z.1.1 + d + 1)]) ++ [rp S z.2] = (rp S z.1 :: ((List.range d).map fun k => cn S (z.1.1 + k + 1))) ++ [cn S (z.1.1 + d + 1), rp S z.2] := by simp
    have e2 : rp S z.1 :: ((List.range d).map fun k => cn S (z.1.1 + k + 1)) ++ [cn S (z.1.1 + d + 1)] = rp S z.1 :: (((List.range d).map fun k => cn S (z.1.1 + k + 1)) ++ [cn S (z.1.1 + d + 1)]) := by simp
    rw [e, path_app, e2, pc, hcj]
    have et : tri P (cn S z.2.1) (rp S z.2) = z.2.2 * tau S P z.2.1 := by simp only [rp, tau, tri, eg, cr, P2.sub, P2.add, P2.mul]; grind
    rw [et]
    rfl
theorem Chord.area {z : Stand} (hI : Ins S P) (h : Chord S P z m) : stArea S z = cA S P z / 2 := by
  have hne := h.ne hI
  have hb := below_path S P h.i1 h.i2 hne
  have hl := h.line
  unfold stArea Hull.area
  congr 1
  obtain ⟨l, hl2⟩ : ∃ l, below S z = rp S z.1 :: l ++ [rp S z.2] := ⟨_, rfl⟩
  have : shoe (below S z) = pathP P (below S z) := by
    rw [hl2, List.cons_append, shoe_path P]
    have e : rp S z.1 :: (l ++ [rp S z.2]) ++ [rp S z.1] = (rp S z.1 :: l) ++ [rp S z.2, rp S z.1] := by simp
    rw [e, path_app, hl, Rat.add_zero]
    rfl
  rw [this, hb]
  unfold cA ar2
  have h3 := arcN_eq h.i1 h.i2
  have eg1 : G S P (z.1.1 + 1) = G S P z.1.1 + tau S P z.1.1 := rfl
  have hi1 := h.i1
  have hi2 := h.i2
  by_cases q : z.1.1 ≤ z.2.1
  · rw [if_pos q] at h3
    rw [h3, if_neg (by omega), show z.1.1 + (z.2.1 - z.1.1) = z.2.1 by omega, eg1]
    grind
  · rw [if_neg q] at h3
    rw [h3, if_pos (by omega), show z.1.1 + (z.2.1 + S.length - z.1.1) = z.2.1 + S.length by omega, G_add, eg1]
    grind
/-! which chords may have the least area -/
def isF (S : List P2) (P : P2) (z : Stand) : Prop := ∃ m, Chord S P z m ∧ ((z.1.2 = 0 ∨ z.2.2 = 0) ∨ (m = 1 ∧ cr (eg S z.1.1) (eg S z.2.1) ≠ 0))
def isH (S : List P2) (P : P2) (z : Stand) : Prop := Chord S P z 1 ∧ ((z.1.2 = 0 ∨ z.2.2 = 0) ∨ cr (eg S z.1.1) (eg S z.2.1) ≠ 0)
theorem isH.isF {z : Stand} (h : isH S P z) : isF S P z := ⟨1, h.1, h.2.imp id fun q => ⟨rfl, q⟩⟩
theorem told_corner {n i : Nat} {t : Rat} (h : t = 0 ∨ t = 1) : (told n i t).2 = 0 := by
  unfold told
  split
  · rfl
  · rename_i q
    exact h.resolve_right q
theorem told_id {n i : Nat} {t : Rat} (h : t ≠ 1) : told n i t = (i, t) := if_neg h
theorem Link.isF (h : Link S P i s j t m) (hi : i < S.length) (hj : j < S.length) (s0 : 0 ≤ s) (s1 : s ≤ 1) (t0 : 0 ≤ t) (t1 : t ≤ 1) (hc : s = 0 ∨ t = 0 ∨ s = 1 ∨ t = 1 ∨ (m = 1 ∧ cr (eg S i) (eg S j) ≠ 0)) : isF S P (Hull.told S.length i s, Hull.told S.length j t) := by
  refine ⟨m, h.chord hi hj s0 s1 t0 t1, ?_⟩
  by_cases q1 : s = 0 ∨ s = 1
  · exact .inl (.inl (told_corner q1))
  · by_cases q2 : t = 0 ∨ t = 1
    · exact .inl (.inr (told_corner q2))
    · rw [told_id (by grind), told_id (by grind)]
      refine .inr ?_
      rcases hc with z | z | z | z | z
      · exact absurd (.inl z) q1
      · exact absurd (.inl z) q2
      · exact absurd (.inr z) q1
      · exact absurd (.inr z) q2
      · exact z
theorem prev_next {n i : Nat} (hi : i < n) : ((i + n - 1) % n + 1) % n = i := by
  rw [Nat.mod_add_mod, show i + n - 1 + 1 = i + n by omega, Nat.add_mod_right, Nat.mod_eq_of_lt hi]
theorem Link.left' (h : Link S P i 0 j t m) (hi : i < S.length) : Link S P ((i + S.length - 1) % S.length) 1 j t m := by
  have e := prev_next hi
  refine ⟨h.m0, ?_, ?_⟩
  · rw [← h.ex]
    have : cn S ((i + S.length - 1) % S.length + 1) = cn S i := by rw [← cn_mod, e]
    simp only [P2.sub, eg, this]; grind
  · rw [← h.ey]
    have : cn S ((i + S.length - 1) % S.length + 1) = cn S i := by rw [← cn_mod, e]
    simp only [P2.sub, eg, this]; grind
theorem Link.right' (h : Link S P i s j 0 m) (hj : j < S.length) : Link S P i s ((j + S.length - 1) % S.length) 1 m := by
  have e := prev_next hj
  refine ⟨h.m0, ?_, ?_⟩
  · rw [h.ex]
    have : cn S ((j + S.length - 1) % S.length + 1) = cn S j := by rw [← cn_mod, e]
    simp only [P2.sub, eg, this]; grind
  · rw [h.ey]
    have : cn S ((j + S.length - 1) % S.length + 1) = cn S j := by rw [← cn_mod, e]
    simp only [P2.sub, eg, this]; grind
theorem Link.less (hI : Ins S P) (h : Link S P i s j t m) (hi : i < S.length) (hj : j < S.length) (s0 : 0 ≤ s) (s1 : s ≤ 1) (t0 : 0 ≤ t) (t1 : t ≤ 1) (hr : (m < 1 ∧ 0 < s ∧ 0 < t) ∨ (1 < m ∧ s < 1 ∧ t < 1)) :
    ∃ z, Hull.isF S P z ∧ cA S P z < Hull.ar2 S P i s j t := by
  have h0 : 0 < S.length := by omega
  obtain ⟨s', t', m', c, k1, k2, k3, k4, k5, k6⟩ := Ch.less h (hI.cr h0 i) (hI.cr h0 j) s0 t0 s1 t1 hr
  have c : Link S P i s' j t' m' := c
  refine ⟨_, c.isF hi hj k1 k2 k3 k4 k5, ?_⟩
  rw [c.ar2 hI hi hj]
  rw [tau_cr, tau_cr] at k6
  unfold Hull.ar2
  grind
theorem Chord.less {z : Stand} (hI : Ins S P) (h : Chord S P z m) (hm : m ≠ 1) : ∃ z', Hull.isF S P z' ∧ cA S P z' < cA S P z := by
  obtain ⟨⟨i, s⟩, ⟨j, t⟩⟩ := z
  obtain ⟨hi, hj, s0, s1, t0, t1, lk⟩ := h
  have hi : i < S.length := hi
  have hj : j < S.length := hj
  have s0 : 0 ≤ s := s0
  have s1 : s < 1 := s1
  have t0 : 0 ≤ t := t0
  have t1 : t < 1 := t1
  have lk : Link S P i s j t m := lk
  have h0 : 0 < S.length := by omega
  by_cases q : 1 < m
  · exact lk.less hI hi hj s0 (by grind) t0 (by grind) (.inr ⟨q, s1, t1⟩)
  · have q : m < 1 := by grind
    -- both shares above 0
    have hR : ∃ j' t', Link S P i s j' t' m ∧ j' < S.length ∧ 0 < t' ∧ t' ≤ 1 ∧ Hull.ar2 S P i s j' t' = Hull.ar2 S P i s j t := by
      by_cases w : t = 0
      · subst w
        have k := lk.right' hj
        have e := prev_next hj
        refine ⟨_, 1, k, Nat.mod_lt _ h0, by decide, by decide, ?_⟩
        have := ar2_right (s := s) (P := P) hi (Nat.mod_lt (j + S.length - 1) h0) (k.ne hI h0) (k.neR hI h0 hi)
        rw [e] at this
        exact this.symm
      · exact ⟨j, t, lk, hj, by grind, by grind, rfl⟩
    obtain ⟨j', t', lk', hj', t0', t1', ea⟩ := hR
    have hL : ∃ i' s', Link S P i' s' j' t' m ∧ i' < S.length ∧ 0 < s' ∧ s' ≤ 1 ∧ Hull.ar2 S P i' s' j' t' = Hull.ar2 S P i s j' t' := by
      by_cases w : s = 0
      · subst w
        have k := lk'.left' hi
        have e := prev_next hi
        refine ⟨_, 1, k, Nat.mod_lt _ h0, by decide, by decide, ?_⟩
        have := ar2_left (t := t') (P := P) (Nat.mod_lt (i + S.length - 1) h0) hj' (k.ne hI h0)
        rw [e] at this
        exact this.symm
      · exact ⟨i, s, lk', hi, by grind, by grind, rfl⟩
    obtain ⟨i', s', lk2, hi', s0', s1', ea2⟩ := hL
    obtain ⟨z, hz, hlt⟩ := lk2.less hI hi' hj' (Rat.le_of_lt s0') s1' (Rat.le_of_lt t0') t1' (.inl ⟨q, s0', t0'⟩)
    refine ⟨z, hz, ?_⟩
    show _ < Hull.ar2 S P i s j t
    rw [← ea, ← ea2]
    exact hlt
theorem Chord.weak {z : Stand} (hI : Ins S P) (h : Chord S P z m) : ∃ z', Hull.isF S P z' ∧ cA S P z' ≤ cA S P z := by
  by_cases q : m = 1
  · subst q
    by_cases w : cr (eg S z.1.1) (eg S z.2.1) = 0
    · have h0 : 0 < S.length := by have := h.i1; omega
      obtain ⟨s', t', c, k1, k2, k3, k4, k5, k6⟩ := Ch.flat h.lk (hI.cr h0 z.1.1) (hI.cr h0 z.2.1) h.a0 h.b0 (Rat.le_of_lt h.a1) (Rat.le_of_lt h.b1) w
      have c : Link S P z.1.1 s' z.2.1 t' 1 := c
      refine ⟨_, c.isF h.i1 h.i2 k1 k2 k3 k4 (by grind), ?_⟩
      rw [c.ar2 hI h.i1 h.i2]
      rw [tau_cr, tau_cr] at k6
      unfold cA Hull.ar2
      grind
    · exact ⟨z, ⟨1, h, .inr ⟨rfl, w⟩⟩, Rat.le_refl⟩
  · obtain ⟨z', hz, hlt⟩ := h.less hI q
    exact ⟨z', hz, Rat.le_of_lt hlt⟩
end
end Hull
namespace Hull
open PySem
section
variable {S : List P2} {P : P2} {i j : Nat} {s t m : Rat}
theorem zlt1 : (0 : Rat) < 1 := by decide
/-! one stand over each left end -/
theorem tri_self (p q : P2) : tri p q p = 0 ∧ tri p q q = 0 ∧ tri p p q = 0 := by simp only [tri, cr, P2.sub]; grind
theorem Conv.edge (hC : Conv S) (hj : j < S.length) {k : Nat} (hk : k < S.length) : 0 ≤ tri (cn S j) (cn S (j + 1)) (cn S k) ∧ (tri (cn S j) (cn S (j + 1)) (cn S k) = 0 → k = j ∨ k = (j + 1) % S.length) := by
  obtain ⟨h3, hC⟩ := hC
  have key : 0 < tri (cn S j) (cn S (j + 1)) (cn S k) → 0 ≤ tri (cn S j) (cn S (j + 1)) (cn S k) ∧ (tri (cn S j) (cn S (j + 1)) (cn S k) = 0 → k = j ∨ k = (j + 1) % S.length) := fun h => ⟨Rat.le_of_lt h, fun z => by grind⟩
  by_cases q1 : k = j
  · subst q1
    rw [(tri_self _ _).1]
    exact ⟨Rat.le_refl, fun _ => .inl rfl⟩
  by_cases q2 : k = (j + 1) % S.length
  · have e : cn S k = cn S (j + 1) := by rw [q2, cn_mod]
    rw [e, (tri_self _ _).2.1]
    exact ⟨Rat.le_refl, fun _ => .inr q2⟩
  by_cases q : j + 1 < S.length
  · rw [Nat.mod_eq_of_lt q] at q2
    rcases (by omega : k < j ∨ j + 1 < k) with h | h
    · refine key ?_
      rw [← tri_rot]
      exact hC k j (j + 1) h (by omega) q
    · exact key (hC j (j + 1) k (by omega) h hk)
  · have e : j + 1 = S.length := by omega
    rw [e, Nat.mod_self] at q2
    have e0 : cn S (j + 1) = cn S 0 := by rw [e]; have := cn_add S 0; rw [Nat.zero_add] at this; exact this
    refine key ?_
    rw [e0, tri_rot]
    exact hC 0 k j (by omega) (by omega) hj
/-- a rim point against an edge -/
theorem tri_rp (S : List P2) (x y : P2) (r : Rim) : tri x y (rp S r) = (1 - r.2) * tri x y (cn S r.1) + r.2 * tri x y (cn S (r.1 + 1)) := by simp only [tri, rp, eg, cr, P2.sub, P2.add, P2.mul]; grind
structure RimOk (S : List P2) (r : Rim) : Prop where
  i : r.1 < S.length
  s0 : 0 ≤ r.2
  s1 : r.2 < 1
theorem Chord.okL {z : Stand} (h : Chord S P z m) : RimOk S z.1 := ⟨h.i1, h.a0, h.a1⟩
theorem Chord.okR {z : Stand} (h : Chord S P z m) : RimOk S z.2 := ⟨h.i2, h.b0, h.b1⟩
theorem cnm (hk : 0 < S.length) : cn S (i + 1) = cn S ((i + 1) % S.length) := cn_mod.symm
theorem edge_rp (hC : Conv S) (hj : j < S.length) {r : Rim} (hr : RimOk S r) : 0 ≤ tri (cn S j) (cn S (j + 1)) (rp S r) ∧ (tri (cn S j) (cn S (j + 1)) (rp S r) = 0 → r.1 = j ∨ (r.1 = (j + 1) % S.length ∧ r.2 = 0)) := by
  obtain ⟨hi, s0, s1⟩ := hr
  have h0 : 0 < S.length := by omega
  have a := hC.edge hj hi
  have b := hC.edge hj (Nat.mod_lt (r.1 + 1) h0)
  rw [cn_mod] at b
  rw [tri_rp]
  have p1 : 0 ≤ (1 - r.2) * tri (cn S j) (cn S (j + 1)) (cn S r.1) := mul_nn (by grind) a.1
  have p2 : 0 ≤ r.2 * tri (cn S j) (cn S (j + 1)) (cn S (r.1 + 1)) := mul_nn s0 b.1
  refine ⟨by grind, fun z => ?_⟩
  have z1 : (1 - r.2) * tri (cn S j) (cn S (j + 1)) (cn S r.1) = 0 := by grind
  have z2 : r.2 * tri (cn S j) (cn S (j + 1)) (cn S (r.1 + 1)) = 0 := by grind
  have z1 : tri (cn S j) (cn S (j + 1)) (cn S r.1) = 0 := by
    rcases Rat.mul_eq_zero.mp z1 with w | w
    · grind
    · exact w
  rcases a.2 z1 with w | w
  · exact .inl w
  · rcases Rat.mul_eq_zero.mp z2 with u | u
    · exact .inr ⟨w, u⟩
    · have h3 := hC.1
      have := b.2 u
      rw [w] at this
      exfalso
      by_cases q : j + 1 < S.length
      · rw [Nat.mod_eq_of_lt q] at this
        by_cases q2 : j + 1 + 1 < S.length
        · rw [Nat.mod_eq_of_lt q2] at this; omega
        · have e : j + 1 + 1 = S.length := by omega
          rw [e, Nat.mod_self] at this; omega
      · have e : j + 1 = S.length := by omega
        rw [e, Nat.mod_self, Nat.mod_eq_of_lt (by omega)] at this
        omega
theorem rp_on (S : List P2) (r : Rim) : tri (cn S r.1) (cn S (r.1 + 1)) (rp S r) = 0 := by rw [tri_rp, (tri_self _ _).1, (tri_self _ _).2.1]; grind
/-- a point of the rim is told in one way -/
theorem rim_inj (hC : Conv S) (hI : Ins S P) {r r' : Rim} (hr : RimOk S r) (hr' : RimOk S r') (h : rp S r = rp S r') : r = r' := by
  have h0 : 0 < S.length := by have := hr.i; omega
  have a : r'.1 = r.1 ∨ (r'.1 = (r.1 + 1) % S.length ∧ r'.2 = 0) := (edge_rp hC hr.i hr').2 (by rw [← h, rp_on])
  have b : r.1 = r'.1 ∨ (r.1 = (r'.1 + 1) % S.length ∧ r.2 = 0) := (edge_rp hC hr'.i hr).2 (by rw [h, rp_on])
  have hi := hr.i
  have hi' := hr'.i
  have same : r.1 = r'.1 → r = r' := fun e => by
    refine Prod.ext e ?_
    have hp := hI.cr h0 r.1
    have hx := congrArg P2.x h
    have hy := congrArg P2.y h
    simp only [rp, P2.add, P2.mul, ← e] at hx hy
    have k1 : (r.2 - r'.2) * (eg S r.1).x = 0 := by grind
    have k2 : (r.2 - r'.2) * (eg S r.1).y = 0 := by grind
    rcases Rat.mul_eq_zero.mp k1 with w | w
    · grind
    · rcases Rat.mul_eq_zero.mp k2 with w2 | w2
      · grind
      · unfold cr at hp
        rw [w, w2] at hp
        grind
  rcases a with a | ⟨a, a2⟩
  · exact same a.symm
  · rcases b with b | ⟨b, b2⟩
    · exact same b
    · exfalso
      have h3 := hC.1
      rw [b] at a
      rw [Nat.mod_add_mod] at a
      by_cases q : r'.1 + 1 + 1 < S.length
      · rw [Nat.mod_eq_of_lt q] at a; omega
      · rw [show r'.1 + 1 + 1 = (r'.1 + 1 + 1 - S.length) + S.length by omega, Nat.add_mod_right, Nat.mod_eq_of_lt (by omega)] at a
        omega
/-- two rim points on one ray -/
theorem ray_inj (hC : Conv S) (hI : Ins S P) {r r' : Rim} (hr : RimOk S r) (hr' : RimOk S r') {k : Rat} (hk : 0 < k) (hx : ((rp S r).sub P).x = k * ((rp S r').sub P).x) (hy : ((rp S r).sub P).y = k * ((rp S r').sub P).y) : r = r' := by
  have key : ∀ (a b : Rim) (c : Rat), RimOk S a → RimOk S b → 0 < c → ((rp S a).sub P).x = c * ((rp S b).sub P).x → ((rp S a).sub P).y = c * ((rp S b).sub P).y → 1 ≤ c := fun a b c ha hb hc ex ey => by
    have h0 : 0 < S.length := by have := ha.i; omega
    have e1 := (edge_rp hC ha.i hb).1
    have e2 := rp_on S a
    have hp := hI a.1 ha.i
    have f1 : tri (cn S a.1) (cn S (a.1 + 1)) (rp S a) = tri (cn S a.1) (cn S (a.1 + 1)) P + ((eg S a.1).x * ((rp S a).sub P).y - (eg S a.1).y * ((rp S a).sub P).x) := by simp only [tri, eg, cr, P2.sub]; grind
    have f2 : tri (cn S a.1) (cn S (a.1 + 1)) (rp S b) = tri (cn S a.1) (cn S (a.1 + 1)) P + ((eg S a.1).x * ((rp S b).sub P).y - (eg S a.1).y * ((rp S b).sub P).x) := by simp only [tri, eg, cr, P2.sub]; grind
    rw [ex, ey] at f1
    have f1 : tri (cn S a.1) (cn S (a.1 + 1)) (rp S a) = tri (cn S a.1) (cn S (a.1 + 1)) P + c * ((eg S a.1).x * ((rp S b).sub P).y - (eg S a.1).y * ((rp S b).sub P).x) := by grind
    generalize tri (cn S a.1) (cn S (a.1 + 1)) P = p at *
    generalize (eg S a.1).x * ((rp S b).sub P).y - (eg S a.1).y * ((rp S b).sub P).x = w at *
    have g1 : p + c * w = 0 := by grind
    have g2 : 0 ≤ p + w := by grind
    have g3 : 0 ≤ c * (p + w) := mul_nn (Rat.le_of_lt hc) g2
    have g4 : 0 ≤ p * (c - 1) := by grind
    have := nn_of_mul g4 hp
    grind
  have k1 := key r r' k hr hr' hk hx hy
  have hk0 : k ≠ 0 := by grind
  have k2 := key r' r (1 / k) hr' hr (by rw [Rat.div_def]; exact mul_pos' (by decide) (Rat.inv_pos.mpr hk)) (by rw [hx]; grind) (by rw [hy]; grind)
  have e : k = 1 := by
    have h2 : 1 * k ≤ 1 / k * k := Rat.mul_le_mul_of_nonneg_right k2 (Rat.le_of_lt hk)
    have : 1 / k * k = 1 := by grind
    grind
  subst e
  refine rim_inj hC hI hr hr' (P2.eq ?_ ?_)
  · simp only [P2.sub] at hx; grind
  · simp only [P2.sub] at hy; grind
theorem Chord.xs {z : Stand} (h : Chord S P z m) : ((rp S z.1).sub P).x = -(m * ((rp S z.2).sub P).x) ∧ ((rp S z.1).sub P).y = -(m * ((rp S z.2).sub P).y) := by
  have ex := h.lk.ex
  have ey := h.lk.ey
  rw [rp_sub, rp_sub]
  exact ⟨ex, ey⟩
theorem Chord.uniq (hC : Conv S) (hI : Ins S P) {l r r' : Rim} {m' : Rat} (h : Chord S P (l, r) m) (h' : Chord S P (l, r') m') : r = r' ∧ m = m' := by
  have hm := h.lk.m0
  have hm' := h'.lk.m0
  obtain ⟨x1, y1⟩ := h.xs
  obtain ⟨x2, y2⟩ := h'.xs
  have hm0 : m ≠ 0 := by grind
  have ek : r = r' := by
    refine ray_inj hC hI h.okR h'.okR (k := m' / m) (by rw [Rat.div_def]; exact mul_pos' hm' (Rat.inv_pos.mpr hm)) ?_ ?_
    · have : m * ((rp S r).sub P).x = m' * ((rp S r').sub P).x := by grind
      grind
    · have : m * ((rp S r).sub P).y = m' * ((rp S r').sub P).y := by grind
      grind
  refine ⟨ek, ?_⟩
  subst ek
  have h0 : 0 < S.length := by have := h.i1; omega
  have hp := hI.cr h0 l.1
  have e1 := Ch.mu h.lk
  have e2 := Ch.mu h'.lk
  have : (m - m') * (cr (eg S l.1) ((cn S r.1).sub P) + r.2 * cr (eg S l.1) (eg S r.1)) = 0 := by
    have e1 : cr ((cn S l.1).sub P) (eg S l.1) = m * (cr (eg S l.1) ((cn S r.1).sub P) + r.2 * cr (eg S l.1) (eg S r.1)) := e1
    have e2 : cr ((cn S l.1).sub P) (eg S l.1) = m' * (cr (eg S l.1) ((cn S r.1).sub P) + r.2 * cr (eg S l.1) (eg S r.1)) := e2
    grind
  rcases Rat.mul_eq_zero.mp this with w | w
  · grind
  · have e1 : cr ((cn S l.1).sub P) (eg S l.1) = m * (cr (eg S l.1) ((cn S r.1).sub P) + r.2 * cr (eg S l.1) (eg S r.1)) := e1
    rw [w] at e1
    grind
theorem Chord.uniqL (hC : Conv S) (hI : Ins S P) {l l' r : Rim} {m' : Rat} (h : Chord S P (l, r) m) (h' : Chord S P (l', r) m') : l = l' := (h.flip.uniq hC hI h'.flip).1
/-! where the way from a corner leaves -/
def exitAt (S : List P2) (P : P2) (i k : Nat) : Bool := decide (cn S i ≠ cn S k) && (decide (tri (cn S i) P (cn S k) ≤ 0) && decide (0 < tri (cn S i) P (cn S (k + 1))))
def exitShare (S : List P2) (P : P2) (i k : Nat) : Rat := tri (cn S i) P (cn S k) / (tri (cn S i) P (cn S k) - tri (cn S i) P (cn S (k + 1)))
def exitOf (S : List P2) (P : P2) (i : Nat) : Option Rim := (List.range S.length).findSome? fun k => if exitAt S P i k then some (k, exitShare S P i k) else none
theorem exit_chord (hI : Ins S P) (hi : i < S.length) (hj : j < S.length) (h : exitAt S P i j = true) : ∃ m, Chord S P ((i, 0), (j, exitShare S P i j)) m := by
  have h0 : 0 < S.length := by omega
  unfold exitAt at h
  simp only [Bool.and_eq_true, decide_eq_true_eq] at h
  obtain ⟨_, h1, h2⟩ := h
  have e1 : tri (cn S i) P (cn S j) = -(cr ((cn S i).sub P) ((cn S j).sub P)) := by simp only [tri, cr, P2.sub]; grind
  have e2 : tri (cn S i) P (cn S (j + 1)) = -(cr ((cn S i).sub P) ((cn S j).sub P) + cr ((cn S i).sub P) (eg S j)) := by simp only [tri, eg, cr, P2.sub]; grind
  have hav : cr ((cn S i).sub P) (eg S j) < 0 := by grind
  have c := ch_left (a := (cn S i).sub P) (u := eg S i) (b := (cn S j).sub P) (v := eg S j) (s := 0) (hI.cr h0 j) (by grind)
  have et : -(cr ((cn S i).sub P) ((cn S j).sub P) + 0 * cr (eg S i) ((cn S j).sub P)) / (cr ((cn S i).sub P) (eg S j) + 0 * cr (eg S i) (eg S j)) = exitShare S P i j := by
    unfold exitShare
    rw [e1, e2]
    have hz : cr ((cn S i).sub P) (eg S j) ≠ 0 := by grind
    have : cr ((cn S i).sub P) (eg S j) + 0 * cr (eg S i) (eg S j) = cr ((cn S i).sub P) (eg S j) := by grind
    rw [this]
    have : -(cr ((cn S i).sub P) ((cn S j).sub P)) - -(cr ((cn S i).sub P) ((cn S j).sub P) + cr ((cn S i).sub P) (eg S j)) = cr ((cn S i).sub P) (eg S j) := by grind
    rw [this]
    grind
  rw [et] at c
  have hs : exitShare S P i j = -(tri (cn S i) P (cn S j)) / (tri (cn S i) P (cn S (j + 1)) - tri (cn S i) P (cn S j)) := by
    unfold exitShare
    have : tri (cn S i) P (cn S (j + 1)) - tri (cn S i) P (cn S j) ≠ 0 := by grind
    have : tri (cn S i) P (cn S j) - tri (cn S i) P (cn S (j + 1)) ≠ 0 := by grind
    grind
  have hd : 0 < tri (cn S i) P (cn S (j + 1)) - tri (cn S i) P (cn S j) := by grind
  refine ⟨_, hi, hj, Rat.le_refl, zlt1, ?_, ?_, c⟩
  · show 0 ≤ exitShare S P i j
    rw [hs, Rat.div_def]
    exact mul_nn (by grind) (Rat.le_of_lt (Rat.inv_pos.mpr hd))
  · show exitShare S P i j < 1
    rw [hs]
    exact (Rat.div_lt_iff hd).mpr (by grind)
/-- from not above nought to above it there is a step -/
theorem step_up (f : Nat → Rat) : ∀ n a, f a ≤ 0 → 0 < f (a + n) → ∃ k, k < n ∧ f (a + k) ≤ 0 ∧ 0 < f (a + k + 1)
  | 0, a, h, h' => by rw [Nat.add_zero] at h'; grind
  | n + 1, a, h, h' => by
    by_cases q : f (a + n) ≤ 0
    · exact ⟨n, by omega, q, h'⟩
    · obtain ⟨k, hk, h1, h2⟩ := step_up f n a h (by grind)
      exact ⟨k, by omega, h1, h2⟩
theorem exit_some (hC : Conv S) (hI : Ins S P) (hi : i < S.length) : ∃ r m, exitOf S P i = some r ∧ Chord S P ((i, 0), r) m := by
  have h0 : 0 < S.length := by omega
  have h3 := hC.1
  have f0 : tri (cn S i) P (cn S (i + 1)) ≤ 0 := by
    have := hI i hi
    rw [tri_swap]
    grind
  have f1 : 0 < tri (cn S i) P (cn S (i + 1 + (S.length - 2))) := by
    rw [show i + 1 + (S.length - 2) = i + S.length - 1 by omega]
    have e := prev_next hi
    have := hI ((i + S.length - 1) % S.length) (Nat.mod_lt _ h0)
    have e2 : cn S ((i + S.length - 1) % S.length + 1) = cn S i := by rw [← cn_mod, e]
    rw [e2, cn_mod, tri_rot] at this
    exact this
  obtain ⟨k, hk, h1, h2⟩ := step_up (fun x => tri (cn S i) P (cn S x)) (S.length - 2) (i + 1) f0 f1
  have hne : cn S i ≠ cn S (i + 1 + k) := fun z => by
    have h1 : tri (cn S i) P (cn S (i + 1 + k)) ≤ 0 := h1
    have h2 : 0 < tri (cn S i) P (cn S (i + 1 + k + 1)) := h2
    have := hI.tau h0 (i + 1 + k)
    unfold tau at this
    rw [← z] at this
    have e := tri_swap P (cn S i) (cn S (i + 1 + k + 1))
    rw [tri_rot, tri_swap] at this
    grind
  have hat : exitAt S P i ((i + 1 + k) % S.length) = true := by
    unfold exitAt
    rw [cn_mod, cn_wrap]
    simp only [Bool.and_eq_true, decide_eq_true_eq]
    exact ⟨hne, h1, h2⟩
  have hf : (exitOf S P i).isSome = true := by
    unfold exitOf
    rw [List.findSome?_isSome_iff]
    exact ⟨(i + 1 + k) % S.length, List.mem_range.mpr (Nat.mod_lt _ h0), by rw [hat]; rfl⟩
  obtain ⟨r, hr⟩ := Option.isSome_iff_exists.mp hf
  obtain ⟨a, ha, e⟩ := List.exists_of_findSome?_eq_some hr
  split at e
  · rename_i q
    cases Option.some.inj e
    obtain ⟨m, c⟩ := exit_chord hI hi (List.mem_range.mp ha) q
    exact ⟨_, m, hr, c⟩
  · cases e
/-! the halved ones -/
theorem cramer {x y u v : P2} {w : P2} (h : cr u v ≠ 0) (hx : x.x * u.x + y.x * v.x = w.x) (hy : x.x * u.y + y.x * v.y = w.y) : x.x = cr w v / cr u v ∧ y.x = cr u w / cr u v := by
  have e1 : cr w v = x.x * cr u v := by unfold cr; rw [← hx, ← hy]; grind
  have e2 : cr u w = y.x * cr u v := by unfold cr; rw [← hx, ← hy]; grind
  rw [e1, e2]
  grind
theorem link_half (hd : cr (eg S i) (eg S j) ≠ 0) : Link S P i s j t 1 ↔ s = acrossX S P i j ∧ t = acrossY S P i j := by
  constructor
  · intro h
    have ex := h.ex
    have ey := h.ey
    have := cramer (x := ⟨s, 0⟩) (y := ⟨t, 0⟩) (w := ((P.mul 2).sub (cn S i)).sub (cn S j)) hd (by simp only [P2.sub, P2.mul] at *; grind) (by simp only [P2.sub, P2.mul] at *; grind)
    exact this
  · rintro ⟨rfl, rfl⟩
    have key : ∀ w u v : P2, cr u v ≠ 0 → cr w v / cr u v * u.x + cr u w / cr u v * v.x = w.x ∧ cr w v / cr u v * u.y + cr u w / cr u v * v.y = w.y := fun w u v h => by
      have e1 : cr w v * u.x + cr u w * v.x = w.x * cr u v := by unfold cr; grind
      have e2 : cr w v * u.y + cr u w * v.y = w.y * cr u v := by unfold cr; grind
      constructor
      · have : cr w v / cr u v * u.x + cr u w / cr u v * v.x = (cr w v * u.x + cr u w * v.x) / cr u v := by grind
        rw [this, e1]; grind
      · have : cr w v / cr u v * u.y + cr u w / cr u v * v.y = (cr w v * u.y + cr u w * v.y) / cr u v := by grind
        rw [this, e2]; grind
    obtain ⟨k1, k2⟩ := key (((P.mul 2).sub (cn S i)).sub (cn S j)) _ _ hd
    refine ⟨by decide, ?_, ?_⟩
    · unfold acrossX acrossY
      simp only [P2.sub, P2.mul] at *
      grind
    · unfold acrossX acrossY
      simp only [P2.sub, P2.mul] at *
      grind
theorem across_isH (hi : i < S.length) (hj : j < S.length) {z : Stand} (h : across S P i j = some z) : isH S P z := by
  unfold across at h
  split at h
  · rename_i q
    obtain ⟨hd, x0, x1, y0, y1⟩ := q
    cases Option.some.inj h
    have lk : Link S P i (acrossX S P i j) j (acrossY S P i j) 1 := (link_half hd).mpr ⟨rfl, rfl⟩
    refine ⟨lk.chord hi hj x0 x1 y0 y1, ?_⟩
    have := lk.isF hi hj x0 x1 y0 y1 (.inr (.inr (.inr (.inr ⟨rfl, hd⟩))))
    obtain ⟨m, _, h | h⟩ := this
    · exact .inl h
    · exact .inr h.2
  · cases h
theorem isH_across {z : Stand} (h : Chord S P z 1) (hd : cr (eg S z.1.1) (eg S z.2.1) ≠ 0) : across S P z.1.1 z.2.1 = some z := by
  obtain ⟨e1, e2⟩ := (link_half hd).mp h.lk
  unfold across
  rw [if_pos ⟨hd, e1 ▸ h.a0, e1 ▸ Rat.le_of_lt h.a1, e2 ▸ h.b0, e2 ▸ Rat.le_of_lt h.b1⟩, ← e1, ← e2, told_id (by have := h.a1; grind), told_id (by have := h.b1; grind)]
/-- the share of a point of an edge -/
theorem shareB_of {a b p : P2} {t : Rat} (hab : a ≠ b) (hx : p.x = a.x + t * (b.x - a.x)) (hy : p.y = a.y + t * (b.y - a.y)) : shareB a b p = t := by
  unfold shareB
  split
  · rename_i h
    have : b.x - a.x ≠ 0 := by grind
    rw [hx]; grind
  · rename_i h
    have : b.y - a.y ≠ 0 := fun z => hab (P2.eq (by grind) (by grind))
    rw [hy]; grind
theorem shareB_on {a b p : P2} (hab : a ≠ b) (h : tri a b p = 0) : p.x = a.x + shareB a b p * (b.x - a.x) ∧ p.y = a.y + shareB a b p * (b.y - a.y) := by
  unfold shareB
  simp only [tri, cr, P2.sub] at h
  split
  · rename_i q
    have : b.x - a.x ≠ 0 := by grind
    exact ⟨by grind, by grind⟩
  · rename_i q
    have q : a.x = b.x := by grind
    have : b.y - a.y ≠ 0 := fun z => hab (P2.eq (by grind) (by grind))
    refine ⟨?_, by grind⟩
    have h2 : (b.y - a.y) * (p.x - a.x) = 0 := by grind
    rcases Rat.mul_eq_zero.mp h2 with w | w
    · grind
    · grind
theorem corner_ne (hI : Ins S P) (h0 : 0 < S.length) (i : Nat) : cn S i ≠ cn S (i + 1) := fun z => by
  have := hI.tau h0 i
  unfold tau at this
  rw [z, (tri_self _ _).2.1] at this
  grind
theorem rimAt1_chord (hI : Ins S P) (hi : i < S.length) (hj : j < S.length) {r : Rim} (h : rimAt1 S ((P.mul 2).sub (cn S i)) j = some r) : Chord S P ((i, 0), r) 1 := by
  have h0 : 0 < S.length := by omega
  unfold rimAt1 at h
  split at h
  · rename_i q
    obtain ⟨q1, q2, q3⟩ := q
    cases Option.some.inj h
    obtain ⟨ex, ey⟩ := shareB_on (corner_ne hI h0 j) q1
    refine ⟨hi, hj, Rat.le_refl, zlt1, q2, q3, by decide, ?_, ?_⟩
    · simp only [P2.sub, P2.mul, eg] at *; grind
    · simp only [P2.sub, P2.mul, eg] at *; grind
  · cases h
theorem chord_rimAt1 (hI : Ins S P) {r : Rim} (h : Chord S P ((i, 0), r) 1) : rimAt1 S ((P.mul 2).sub (cn S i)) r.1 = some r := by
  have h0 : 0 < S.length := by have := h.i1; omega
  have ex := h.lk.ex
  have ey := h.lk.ey
  have e : shareB (cn S r.1) (cn S (r.1 + 1)) ((P.mul 2).sub (cn S i)) = r.2 := shareB_of (corner_ne hI h0 r.1) (by simp only [P2.sub, P2.mul, eg] at *; grind) (by simp only [P2.sub, P2.mul, eg] at *; grind)
  have et : tri (cn S r.1) (cn S (r.1 + 1)) ((P.mul 2).sub (cn S i)) = 0 := by
    have e1 : ((P.mul 2).sub (cn S i)).x = (cn S r.1).x + r.2 * (eg S r.1).x := by simp only [P2.sub, P2.mul, eg] at *; grind
    have e2 : ((P.mul 2).sub (cn S i)).y = (cn S r.1).y + r.2 * (eg S r.1).y := by simp only [P2.sub, P2.mul, eg] at *; grind
    simp only [tri, cr, P2.sub, eg] at *
    rw [e1, e2]
    grind
  unfold rimAt1
  rw [e, if_pos ⟨et, h.b0, h.b1⟩]
theorem rimAt_chord (hC : Conv S) (hI : Ins S P) (hi : i < S.length) {r : Rim} : rimAt S ((P.mul 2).sub (cn S i)) = some r ↔ Chord S P ((i, 0), r) 1 := by
  constructor
  · intro h
    obtain ⟨a, ha, e⟩ := List.exists_of_findSome?_eq_some h
    exact rimAt1_chord hI hi (List.mem_range.mp ha) e
  · intro h
    have h1 := chord_rimAt1 hI h
    have hf : (rimAt S ((P.mul 2).sub (cn S i))).isSome = true := by
      unfold rimAt
      rw [List.findSome?_isSome_iff]
      exact ⟨r.1, List.mem_range.mpr h.i2, by rw [h1]; rfl⟩
    obtain ⟨r', hr⟩ := Option.isSome_iff_exists.mp hf
    obtain ⟨a, ha, e⟩ := List.exists_of_findSome?_eq_some hr
    have := rimAt1_chord hI hi (List.mem_range.mp ha) e
    rw [hr, (this.uniq hC hI h).1]
theorem mem_halved (hC : Conv S) (hI : Ins S P) {z : Stand} : z ∈ halved S P ↔ isH S P z := by
  unfold halved
  rw [List.mem_flatMap]
  constructor
  · rintro ⟨i, hi, hz⟩
    have hi := List.mem_range.mp hi
    unfold halvedAt at hz
    rcases List.mem_append.mp hz with h | h
    · unfold atCorner at h
      split at h
      · cases h
      · rename_i r q
        have c := (rimAt_chord hC hI hi).mp q
        rcases List.mem_cons.mp h with h | h
        · subst h
          exact ⟨c, .inl (.inl rfl)⟩
        · cases List.mem_singleton.mp h
          have := c.flip
          rw [show (1 : Rat) / 1 = 1 by grind] at this
          exact ⟨this, .inl (.inr rfl)⟩
    · obtain ⟨j, hj, e⟩ := List.mem_filterMap.mp h
      exact across_isH hi (List.mem_range.mp hj) e
  · rintro ⟨c, h⟩
    by_cases q1 : z.1.2 = 0
    · refine ⟨z.1.1, List.mem_range.mpr c.i1, ?_⟩
      unfold halvedAt
      refine List.mem_append_left _ ?_
      have e : z = ((z.1.1, 0), z.2) := Prod.ext (Prod.ext rfl q1) rfl
      rw [e] at c
      unfold atCorner
      rw [(rimAt_chord hC hI c.i1).mpr c]
      rw [e]
      exact List.mem_cons_self
    · by_cases q2 : z.2.2 = 0
      · refine ⟨z.2.1, List.mem_range.mpr c.i2, ?_⟩
        unfold halvedAt
        refine List.mem_append_left _ ?_
        have e : z = (z.1, (z.2.1, 0)) := Prod.ext rfl (Prod.ext rfl q2)
        have c2 := c.flip
        rw [show (1 : Rat) / 1 = 1 by grind] at c2
        have e2 : (z.2, z.1) = ((z.2.1, 0), z.1) := Prod.ext (Prod.ext rfl q2) rfl
        rw [e2] at c2
        unfold atCorner
        rw [(rimAt_chord hC hI c2.i1).mpr c2]
        rw [e]
        exact List.mem_cons_of_mem _ List.mem_cons_self
      · have hd := h.resolve_left fun w => w.elim q1 q2
        refine ⟨z.1.1, List.mem_range.mpr c.i1, ?_⟩
        unfold halvedAt
        refine List.mem_append_right _ (List.mem_filterMap.mpr ⟨z.2.1, List.mem_range.mpr c.i2, isH_across c hd⟩)
/-! the law's own candidates -/
def lawPairs (S : List P2) (P : P2) : List Stand := ((List.range S.length).flatMap fun i => (List.range i).filterMap (across S P i)) ++ (List.range S.length).map fun i => ((i, 0), (exitOf S P i).getD (0, 0))
def lawStands (S : List P2) (P : P2) : List Stand := (lawPairs S P).flatMap fun z => [z, (z.2, z.1)]
theorem mem_law (hC : Conv S) (hI : Ins S P) {z : Stand} : z ∈ lawStands S P ↔ isF S P z := by
  unfold lawStands
  rw [List.mem_flatMap]
  constructor
  · rintro ⟨w, hw, hz⟩
    have hf : isF S P w := by
      unfold lawPairs at hw
      rcases List.mem_append.mp hw with h | h
      · obtain ⟨i, hi, h⟩ := List.mem_flatMap.mp h
        obtain ⟨j, hj, e⟩ := List.mem_filterMap.mp h
        have hi := List.mem_range.mp hi
        have hj := List.mem_range.mp hj
        exact (across_isH hi (by omega) e).isF
      · obtain ⟨i, hi, e⟩ := List.mem_map.mp h
        obtain ⟨r, m, e1, c⟩ := exit_some hC hI (List.mem_range.mp hi)
        rw [e1] at e
        subst e
        exact ⟨m, c, .inl (.inl rfl)⟩
    rcases List.mem_cons.mp hz with h | h
    · rw [h]; exact hf
    · cases List.mem_singleton.mp h
      obtain ⟨m, c, h⟩ := hf
      refine ⟨1 / m, c.flip, ?_⟩
      rcases h with (h | h) | ⟨h1, h2⟩
      · exact .inl (.inr h)
      · exact .inl (.inl h)
      · subst h1
        refine .inr ⟨by grind, fun q => h2 ?_⟩
        simp only [cr] at q ⊢
        grind
  · rintro ⟨m, c, h⟩
    by_cases q1 : z.1.2 = 0
    · have e : z = ((z.1.1, 0), z.2) := Prod.ext (Prod.ext rfl q1) rfl
      rw [e] at c
      obtain ⟨r, m', e1, c'⟩ := exit_some hC hI c.i1
      refine ⟨z, ?_, List.mem_cons_self⟩
      unfold lawPairs
      refine List.mem_append_right _ (List.mem_map.mpr ⟨z.1.1, List.mem_range.mpr c.i1, ?_⟩)
      rw [e1, Option.getD_some]
      conv => rhs; rw [e]
      exact Prod.ext rfl (c'.uniq hC hI c).1
    · by_cases q2 : z.2.2 = 0
      · have c2 := c.flip
        have e2 : (z.2, z.1) = ((z.2.1, 0), z.1) := Prod.ext (Prod.ext rfl q2) rfl
        rw [e2] at c2
        obtain ⟨r, m', e1, c'⟩ := exit_some hC hI c2.i1
        refine ⟨(z.2, z.1), ?_, List.mem_cons_of_mem _ List.mem_cons_self⟩
        unfold lawPairs
        refine List.mem_append_right _ (List.mem_map.mpr ⟨z.2.1, List.mem_range.mpr c.i2, ?_⟩)
        rw [e1, Option.getD_some, e2]
        exact Prod.ext rfl (c'.uniq hC hI c2).1
      · obtain ⟨hm, hd⟩ := h.resolve_left fun w => w.elim q1 q2
        subst hm
        have hne := c.ne hI
        have hin : ∀ w : Stand, Chord S P w 1 → cr (eg S w.1.1) (eg S w.2.1) ≠ 0 → w.2.1 < w.1.1 → w ∈ lawPairs S P := fun w cw dw lw => by
          unfold lawPairs
          exact List.mem_append_left _ (List.mem_flatMap.mpr ⟨w.1.1, List.mem_range.mpr cw.i1, List.mem_filterMap.mpr ⟨w.2.1, List.mem_range.mpr lw, isH_across cw dw⟩⟩)
        rcases (by omega : z.2.1 < z.1.1 ∨ z.1.1 < z.2.1) with l | l
        · exact ⟨z, hin z c hd l, List.mem_cons_self⟩
        · have c2 := c.flip
          rw [show (1 : Rat) / 1 = 1 by grind] at c2
          refine ⟨(z.2, z.1), hin _ c2 (fun q => hd ?_) l, List.mem_cons_of_mem _ List.mem_cons_self⟩
          simp only [cr] at q ⊢
          grind
end
end Hull
namespace Hull
open PySem
/-! the best of a list -/
theorem better_irr (g : Bool) (c : Cand) : better g c c = false := by
  unfold better
  rw [if_neg (fun h => h rfl)]
  refine decide_eq_false ?_
  unfold before
  rintro (h | ⟨_, h⟩)
  · exact Nat.lt_irrefl _ h
  · grind
theorem before_tr {a b c : Rim} (h : before a b) (k : before b c) : before a c := by
  unfold before at *
  rcases h with h | ⟨h, h'⟩
  · rcases k with k | ⟨k, k'⟩
    · exact .inl (by omega)
    · exact .inl (by omega)
  · rcases k with k | ⟨k, k'⟩
    · exact .inl (by omega)
    · exact .inr ⟨by omega, by grind⟩
theorem before_tri {a b : Rim} (h : ¬ before a b) (k : ¬ before b a) : a = b := by
  unfold before at *
  have e : a.1 = b.1 := by
    rcases Nat.lt_trichotomy a.1 b.1 with z | z | z
    · exact absurd (.inl z) h
    · exact z
    · exact absurd (.inl z) k
  refine Prod.ext e ?_
  have h2 : ¬ a.2 < b.2 := fun z => h (.inr ⟨e, z⟩)
  have k2 : ¬ b.2 < a.2 := fun z => k (.inr ⟨e.symm, z⟩)
  grind
def btP (g : Bool) (c b : Cand) : Prop := (if g then c.1 < b.1 else b.1 < c.1) ∨ (c.1 = b.1 ∧ before c.2.1 b.2.1)
theorem better_iff {g : Bool} {c b : Cand} : better g c b = true ↔ btP g c b := by
  unfold better btP
  by_cases h : c.1 = b.1
  · rw [if_neg (fun z => z h), decide_eq_true_iff]
    constructor
    · exact fun k => .inr ⟨h, k⟩
    · rintro (k | k)
      · rw [h] at k
        cases g
        · have : b.1 < b.1 := k; grind
        · have : b.1 < b.1 := k; grind
      · exact k.2
  · rw [if_pos h]
    cases g
    · simp only [beq_iff_eq, decide_eq_false_iff_not]
      constructor
      · intro k
        refine .inl ?_
        show b.1 < c.1
        grind
      · rintro (k | k)
        · have : b.1 < c.1 := k
          grind
        · exact absurd k.1 h
    · simp only [beq_iff_eq, decide_eq_true_iff]
      constructor
      · intro k
        exact .inl k
      · rintro (k | k)
        · exact k
        · exact absurd k.1 h
theorem btP_tr {g : Bool} {a b c : Cand} (h : btP g a b) (k : btP g b c) : btP g a c := by
  unfold btP at *
  cases g
  · simp only [Bool.false_eq_true, if_false] at *
    rcases h with h | ⟨h, h'⟩ <;> rcases k with k | ⟨k, k'⟩
    · exact .inl (by grind)
    · exact .inl (by grind)
    · exact .inl (by grind)
    · exact .inr ⟨by grind, before_tr h' k'⟩
  · simp only [if_true] at *
    rcases h with h | ⟨h, h'⟩ <;> rcases k with k | ⟨k, k'⟩
    · exact .inl (by grind)
    · exact .inl (by grind)
    · exact .inl (by grind)
    · exact .inr ⟨by grind, before_tr h' k'⟩
theorem btP_tri {g : Bool} {a b : Cand} (h : ¬ btP g a b) (k : ¬ btP g b a) : a.1 = b.1 ∧ a.2.1 = b.2.1 := by
  unfold btP at *
  have e : a.1 = b.1 := by
    cases g
    · simp only [Bool.false_eq_true, if_false] at *
      have h1 : ¬ b.1 < a.1 := fun z => h (.inl z)
      have k1 : ¬ a.1 < b.1 := fun z => k (.inl z)
      grind
    · simp only [if_true] at *
      have h1 : ¬ a.1 < b.1 := fun z => h (.inl z)
      have k1 : ¬ b.1 < a.1 := fun z => k (.inl z)
      grind
  exact ⟨e, before_tri (fun z => h (.inr ⟨e, z⟩)) (fun z => k (.inr ⟨e.symm, z⟩))⟩
theorem btP_irr {g : Bool} {a : Cand} : ¬ btP g a a := fun h => by rw [← better_iff, better_irr] at h; cases h
/-- not beaten, step by step -/
theorem nb_tr {g : Bool} {a b c : Cand} (h : ¬ btP g a b) (k : ¬ btP g b c) : ¬ btP g a c := fun q => by
  by_cases w : btP g b a
  · exact k (btP_tr w q)
  · obtain ⟨e1, e2⟩ := btP_tri h w
    refine k ?_
    unfold btP at q ⊢
    rw [← e1, ← e2]
    exact q
theorem best_fold {g : Bool} : ∀ (l : List Cand) (b0 b : Cand), l.foldl (best g) (some b0) = some b → (b = b0 ∨ b ∈ l) ∧ ¬ btP g b0 b ∧ ∀ c ∈ l, ¬ btP g c b
  | [], b0, b, h => by
    cases Option.some.inj h
    exact ⟨.inl rfl, btP_irr, fun c h => nomatch h⟩
  | x :: l, b0, b, h => by
    have e : best g (some b0) x = some (if better g x b0 then x else b0) := by
      unfold best
      dsimp only
      split <;> rfl
    rw [List.foldl_cons, e] at h
    obtain ⟨h1, h2, h3⟩ := best_fold l _ b h
    by_cases q : better g x b0 = true
    · rw [if_pos q] at h1 h2
      refine ⟨.inr ?_, ?_, fun c hc => ?_⟩
      · rcases h1 with h1 | h1
        · rw [h1]; exact List.mem_cons_self
        · exact List.mem_cons_of_mem _ h1
      · have : ¬ btP g b0 x := fun w => btP_irr (btP_tr w (better_iff.mp q))
        exact nb_tr this h2
      · rcases List.mem_cons.mp hc with hc | hc
        · rw [hc]; exact h2
        · exact h3 c hc
    · rw [if_neg q] at h1 h2
      refine ⟨?_, h2, fun c hc => ?_⟩
      · rcases h1 with h1 | h1
        · exact .inl h1
        · exact .inr (List.mem_cons_of_mem _ h1)
      · rcases List.mem_cons.mp hc with hc | hc
        · rw [hc]; exact nb_tr (fun w => q (better_iff.mpr w)) h2
        · exact h3 c hc
theorem best_some {g : Bool} : ∀ (l : List Cand) (b0 : Cand), ∃ b, l.foldl (best g) (some b0) = some b
  | [], b0 => ⟨b0, rfl⟩
  | x :: l, b0 => by
    rw [List.foldl_cons]
    have : ∃ b1, best g (some b0) x = some b1 := by
      unfold best
      dsimp only
      split <;> exact ⟨_, rfl⟩
    obtain ⟨b1, e⟩ := this
    rw [e]
    exact best_some l b1
theorem best_none {g : Bool} {l : List Cand} (h : l ≠ []) : ∃ b, l.foldl (best g) none = some b ∧ b ∈ l ∧ ∀ c ∈ l, ¬ btP g c b := by
  cases l with
  | nil => exact absurd rfl h
  | cons x l =>
    rw [List.foldl_cons]
    show ∃ b, l.foldl (best g) (some x) = some b ∧ _
    obtain ⟨b, e⟩ := best_some (g := g) l x
    obtain ⟨h1, h2, h3⟩ := best_fold l x b e
    refine ⟨b, e, ?_, fun c hc => ?_⟩
    · rcases h1 with h1 | h1
      · rw [h1]; exact List.mem_cons_self
      · exact List.mem_cons_of_mem _ h1
    · rcases List.mem_cons.mp hc with hc | hc
      · rw [hc]; exact h2
      · exact h3 c hc
section
variable {S : List P2} {P : P2} {i j : Nat} {s t m : Rat}
theorem isF.flip {z : Stand} (h : isF S P z) : isF S P (z.2, z.1) := by
  obtain ⟨m, c, h⟩ := h
  refine ⟨1 / m, c.flip, ?_⟩
  rcases h with (h | h) | ⟨h1, h2⟩
  · exact .inl (.inr h)
  · exact .inl (.inl h)
  · subst h1
    refine .inr ⟨by grind, fun q => h2 ?_⟩
    simp only [cr] at q ⊢
    grind
theorem isF.area (hI : Ins S P) {z : Stand} (h : isF S P z) : stArea S z = cA S P z / 2 := let ⟨_, c, _⟩ := h; c.area hI
theorem isF.areaF (hI : Ins S P) {z : Stand} (h : isF S P z) : stArea S (z.2, z.1) = G S P S.length / 2 - stArea S z := by
  obtain ⟨m, c, _⟩ := h
  rw [c.flip.area hI, c.area hI, cA_flip hI c]
  grind
def lawBest (g : Bool) (S : List P2) (P : P2) : Option Cand := ((lawStands S P).map fun s => (stArea S s, s)).foldl (best g) none
/-- the law's best one is halved -/
theorem best_half (hC : Conv S) (hI : Ins S P) {g : Bool} {z : Stand} (h : isF S P z) (hb : ∀ w, isF S P w → ¬ btP g (stArea S w, w) (stArea S z, z)) : isH S P z := by
  obtain ⟨m, c, hz⟩ := h
  have hm : m = 1 := by
    by_cases q : m = 1
    · exact q
    · exfalso
      cases g with
      | true =>
        obtain ⟨w, hw, lt⟩ := c.less hI q
        refine hb w hw (.inl ?_)
        show stArea S w < stArea S z
        rw [hw.area hI, c.area hI]
        grind
      | false =>
        have c2 := c.flip
        have hm0 := c.lk.m0
        have q2 : 1 / m ≠ 1 := fun e => q (by
          have : m ≠ 0 := by grind
          grind)
        obtain ⟨w, hw, lt⟩ := c2.less hI q2
        refine hb _ hw.flip (.inl ?_)
        show stArea S z < stArea S (w.2, w.1)
        rw [hw.areaF hI, hw.area hI, c.area hI]
        rw [cA_flip hI c] at lt
        grind
  subst hm
  exact ⟨c, hz.imp id fun q => q.2⟩
theorem law_ne (hC : Conv S) (hI : Ins S P) : ∃ z, isF S P z := by
  obtain ⟨r, m, _, c⟩ := exit_some (i := 0) hC hI (by have := hC.1; omega)
  exact ⟨_, m, c, .inl (.inl rfl)⟩
theorem cand_eq (hC : Conv S) (hI : Ins S P) {z w : Stand} (hz : isF S P z) (hw : isF S P w) (h : z.1 = w.1) : z = w := by
  obtain ⟨m, c, _⟩ := hz
  obtain ⟨m', c', _⟩ := hw
  refine Prod.ext h ?_
  have c : Chord S P (z.1, z.2) m := c
  have c' : Chord S P (w.1, w.2) m' := c'
  rw [← h] at c'
  exact (c.uniq hC hI c').1
/-- what both searches find -/
theorem extreme_law (hC : Conv S) (hI : Ins S P) (g : Bool) : ∃ z, isH S P z ∧ extreme S P g = some (stArea S z, z) ∧ lawBest g S P = some (stArea S z, z) ∧ ∀ w, isF S P w → ¬ btP g (stArea S w, w) (stArea S z, z) := by
  obtain ⟨z0, h0⟩ := law_ne hC hI
  have hne : ((lawStands S P).map fun s => (stArea S s, s)) ≠ [] := fun e => by
    have := (mem_law hC hI).mpr h0
    rw [List.map_eq_nil_iff] at e
    rw [e] at this
    cases this
  obtain ⟨b, e1, b1, b2⟩ := best_none (g := g) hne
  obtain ⟨z, hz, rfl⟩ := List.mem_map.mp b1
  have hzF := (mem_law hC hI).mp hz
  have hmin : ∀ w, isF S P w → ¬ btP g (stArea S w, w) (stArea S z, z) := fun w hw => b2 _ (List.mem_map.mpr ⟨w, (mem_law hC hI).mpr hw, rfl⟩)
  have hzH := best_half hC hI hzF hmin
  refine ⟨z, hzH, ?_, e1, hmin⟩
  have hne2 : ((halved S P).map fun s => (stArea S s, s)) ≠ [] := fun e => by
    have := (mem_halved hC hI).mpr hzH
    rw [List.map_eq_nil_iff] at e
    rw [e] at this
    cases this
  obtain ⟨b', e2, b1', b2'⟩ := best_none (g := g) hne2
  obtain ⟨z', hz', rfl⟩ := List.mem_map.mp b1'
  have hz'H := (mem_halved hC hI).mp hz'
  have k1 := hmin z' hz'H.isF
  have k2 := b2' _ (List.mem_map.mpr ⟨z, (mem_halved hC hI).mpr hzH, rfl⟩)
  obtain ⟨_, el⟩ := btP_tri k1 k2
  have e : z' = z := cand_eq hC hI hz'H.isF hzF el
  subst e
  exact e2
/-- every stand through the point lies between -/
theorem least_le (hC : Conv S) (hI : Ins S P) {z w : Stand} (hz : ∀ w, isF S P w → ¬ btP true (stArea S w, w) (stArea S z, z)) (h : Chord S P w m) : stArea S z ≤ stArea S w := by
  obtain ⟨w', hw', le⟩ := h.weak hI
  have k := hz w' hw'
  have : ¬ stArea S w' < stArea S z := fun q => k (.inl q)
  rw [hw'.area hI] at this
  rw [h.area hI]
  grind
theorem le_most (hC : Conv S) (hI : Ins S P) {z w : Stand} (hz : ∀ w, isF S P w → ¬ btP false (stArea S w, w) (stArea S z, z)) (h : Chord S P w m) : stArea S w ≤ stArea S z := by
  obtain ⟨w', hw', le⟩ := h.flip.weak hI
  have k := hz _ hw'.flip
  have : ¬ stArea S z < stArea S (w'.2, w'.1) := fun q => k (.inl q)
  rw [hw'.areaF hI, hw'.area hI] at this
  rw [cA_flip hI h] at le
  rw [h.area hI]
  grind
theorem both (hC : Conv S) (hI : Ins S P) {z w : Stand} (hz0 : isF S P z) (hw0 : isF S P w) (hz : ∀ w, isF S P w → ¬ btP true (stArea S w, w) (stArea S z, z)) (hw : ∀ z, isF S P z → ¬ btP false (stArea S z, z) (stArea S w, w)) : stArea S z + stArea S w = G S P S.length / 2 := by
  have k1 : ¬ stArea S (w.2, w.1) < stArea S z := fun q => hz _ hw0.flip (.inl q)
  have k2 : ¬ stArea S w < stArea S (z.2, z.1) := fun q => hw _ hz0.flip (.inl q)
  rw [hw0.areaF hI] at k1
  rw [hz0.areaF hI] at k2
  grind
/-! the whole area -/
theorem path_round (S : List P2) (P : P2) : ∀ d : Nat, pathP P ((List.range (d + 1)).map (cn S)) = G S P d
  | 0 => rfl
  | d + 1 => by
    have ih := path_round S P d
    rw [List.range_succ, List.map_append, List.map_cons, List.map_nil] at ih ⊢
    rw [List.range_succ, List.map_append, List.map_cons, List.map_nil, List.append_assoc]
    show pathP P ((List.range d).map (cn S) ++ [cn S d, cn S (d + 1)]) = _
    rw [path_app, ih]
    rfl
theorem list_cn (S : List P2) : (List.range S.length).map (cn S) = S := by
  apply List.ext_getElem?
  intro i
  rw [List.getElem?_map]
  by_cases h : i < S.length
  · rw [List.getElem?_range h, cn_get h]; rfl
  · rw [List.getElem?_eq_none (l := List.range S.length) (by rw [List.length_range]; omega), List.getElem?_eq_none (l := S) (by omega)]; rfl
theorem area_G (S : List P2) (P : P2) (h0 : 0 < S.length) : area S = G S P S.length / 2 := by
  unfold area
  congr 1
  rw [← path_round]
  have e : (List.range (S.length + 1)).map (cn S) = S ++ [cn S 0] := by
    rw [List.range_succ, List.map_append, list_cn, List.map_cons, List.map_nil]
    have := cn_add S 0
    rw [Nat.zero_add] at this
    rw [this]
  rw [e]
  match S, h0 with
  | x :: l, _ =>
    rw [shoe_path P]
    rfl
/-! the water line at a height -/
theorem step_Q (Q : Nat → Prop) : ∀ n a, ¬ Q a → Q (a + n) → ∃ k, k < n ∧ ¬ Q (a + k) ∧ Q (a + k + 1)
  | 0, a, h, h' => absurd h' (by rw [Nat.add_zero]; exact h)
  | n + 1, a, h, h' => by
    by_cases q : Q (a + n)
    · obtain ⟨k, hk, h1, h2⟩ := step_Q Q n a h q
      exact ⟨k, by omega, h1, h2⟩
    · exact ⟨n, by omega, q, h'⟩
theorem lev_lin (u : Int × Int) (S : List P2) (P : P2) (r : Rim) : lev u (rp S r) - lev u P = (1 - r.2) * (lev u (cn S r.1) - lev u P) + r.2 * (lev u (cn S (r.1 + 1)) - lev u P) := by simp only [lev, rp, eg, P2.add, P2.mul, P2.sub]; grind
/-- all corners on one side: the up is nought -/
theorem up_zero (hC : Conv S) (hI : Ins S P) {a b : Rat} (h : ∀ k, k < S.length → 0 ≤ a * ((cn S k).x - P.x) + b * ((cn S k).y - P.y)) : a = 0 ∧ b = 0 := by
  have h3 := hC.1
  have h0 : 0 < S.length := by omega
  have hz : ∀ k, k < S.length → a * ((cn S k).x - P.x) + b * ((cn S k).y - P.y) = 0 := fun k hk => by
    obtain ⟨r, m, _, c⟩ := exit_some hC hI hk
    have hm := c.lk.m0
    have e0 : rp S (k, 0) = cn S k := P2.eq (by simp only [rp, P2.add, P2.mul]; grind) (by simp only [rp, P2.add, P2.mul]; grind)
    obtain ⟨x1, y1⟩ := c.xs
    rw [e0] at x1 y1
    have p1 := h r.1 c.i2
    have p2 := h ((r.1 + 1) % S.length) (Nat.mod_lt _ h0)
    rw [cn_mod] at p2
    have q1 : 0 ≤ (1 - r.2) * (a * ((cn S r.1).x - P.x) + b * ((cn S r.1).y - P.y)) := mul_nn (by have := c.b1; grind) p1
    have q2 : 0 ≤ r.2 * (a * ((cn S (r.1 + 1)).x - P.x) + b * ((cn S (r.1 + 1)).y - P.y)) := mul_nn c.b0 p2
    have e : a * ((rp S r).sub P).x + b * ((rp S r).sub P).y = (1 - r.2) * (a * ((cn S r.1).x - P.x) + b * ((cn S r.1).y - P.y)) + r.2 * (a * ((cn S (r.1 + 1)).x - P.x) + b * ((cn S (r.1 + 1)).y - P.y)) := by simp only [rp, eg, P2.add, P2.mul, P2.sub]; grind
    have q3 : 0 ≤ m * (a * ((rp S r).sub P).x + b * ((rp S r).sub P).y) := mul_nn (Rat.le_of_lt hm) (by rw [e]; grind)
    have e2 : a * ((cn S k).x - P.x) + b * ((cn S k).y - P.y) = -(m * (a * ((rp S r).sub P).x + b * ((rp S r).sub P).y)) := by
      have x1 : (cn S k).x - P.x = -(m * ((rp S r).sub P).x) := x1
      have y1 : (cn S k).y - P.y = -(m * ((rp S r).sub P).y) := y1
      rw [x1, y1]; grind
    have := h k hk
    grind
  have z0 := hz 0 h0
  have z1 := hz 1 (by omega)
  have ht := hI.tau h0 0
  unfold tau tri cr at ht
  simp only [P2.sub] at ht
  generalize (cn S 0).x - P.x = x0 at *
  generalize (cn S 0).y - P.y = y0 at *
  generalize (cn S (0 + 1)).x - P.x = x1 at *
  generalize (cn S (0 + 1)).y - P.y = y1 at *
  have hd : x0 * y1 - y0 * x1 ≠ 0 := by grind
  have ka : a * (x0 * y1 - y0 * x1) = 0 := by grind
  have kb : b * (x0 * y1 - y0 * x1) = 0 := by grind
  rcases Rat.mul_eq_zero.mp ka with ka | ka
  · rcases Rat.mul_eq_zero.mp kb with kb | kb
    · exact ⟨ka, kb⟩
    · exact absurd kb hd
  · exact absurd ka hd
theorem cross_link (hI : Ins S P) {u : Int × Int} (hi : i < S.length) (hj : j < S.length) (hL : lev u (cn S (i + 1)) < lev u P ∧ ¬ lev u (cn S i) < lev u P) (hR : lev u (cn S j) < lev u P ∧ ¬ lev u (cn S (j + 1)) < lev u P) :
    ∃ m, Chord S P (cross1 S u (lev u P) i, cross1 S u (lev u P) j) m := by
  have h0 : 0 < S.length := by omega
  have hti := hI.tau h0 i
  have htj := hI.tau h0 j
  have hdi : lev u (cn S (i + 1)) - lev u (cn S i) < 0 := by grind
  have hdj : 0 < lev u (cn S (j + 1)) - lev u (cn S j) := by grind
  have key : ∀ k, lev u (cn S (k + 1)) - lev u (cn S k) ≠ 0 → ((cn S k).sub P).x + (lev u P - lev u (cn S k)) / (lev u (cn S (k + 1)) - lev u (cn S k)) * (eg S k).x = u.2 * (tau S P k / (lev u (cn S (k + 1)) - lev u (cn S k))) ∧ ((cn S k).sub P).y + (lev u P - lev u (cn S k)) / (lev u (cn S (k + 1)) - lev u (cn S k)) * (eg S k).y = -(u.1 * (tau S P k / (lev u (cn S (k + 1)) - lev u (cn S k)))) := fun k hk => by
    have e1 : ((cn S k).sub P).x * (lev u (cn S (k + 1)) - lev u (cn S k)) + (lev u P - lev u (cn S k)) * (eg S k).x = u.2 * tau S P k := by simp only [lev, tau, tri, cr, eg, P2.sub]; grind
    have e2 : ((cn S k).sub P).y * (lev u (cn S (k + 1)) - lev u (cn S k)) + (lev u P - lev u (cn S k)) * (eg S k).y = -(u.1 * tau S P k) := by simp only [lev, tau, tri, cr, eg, P2.sub]; grind
    generalize lev u (cn S (k + 1)) - lev u (cn S k) = d at *
    generalize lev u P - lev u (cn S k) = f at *
    constructor <;> grind
  obtain ⟨xi, yi⟩ := key i (by grind)
  obtain ⟨xj, yj⟩ := key j (by grind)
  have shr : ∀ f d : Rat, 0 ≤ f → f ≤ d → 0 < d → 0 ≤ f / d ∧ f / d ≤ 1 := fun f d h1 h2 h3 => ⟨by rw [Rat.div_def]; exact mul_nn h1 (Rat.le_of_lt (Rat.inv_pos.mpr h3)), by
    by_cases q : f = d
    · have : d ≠ 0 := by grind
      rw [q]; grind
    · exact Rat.le_of_lt ((Rat.div_lt_iff h3).mpr (by grind))⟩
  have si := shr (lev u (cn S i) - lev u P) (lev u (cn S i) - lev u (cn S (i + 1))) (by grind) (by grind) (by grind)
  have sj := shr (lev u P - lev u (cn S j)) (lev u (cn S (j + 1)) - lev u (cn S j)) (by grind) (by grind) (by grind)
  have ei : (lev u P - lev u (cn S i)) / (lev u (cn S (i + 1)) - lev u (cn S i)) = (lev u (cn S i) - lev u P) / (lev u (cn S i) - lev u (cn S (i + 1))) := by
    have : lev u (cn S i) - lev u (cn S (i + 1)) ≠ 0 := by grind
    have : lev u (cn S (i + 1)) - lev u (cn S i) ≠ 0 := by grind
    grind
  have hA : tau S P i / (lev u (cn S (i + 1)) - lev u (cn S i)) = -(tau S P i / (lev u (cn S i) - lev u (cn S (i + 1)))) := by
    have : lev u (cn S i) - lev u (cn S (i + 1)) ≠ 0 := by grind
    have : lev u (cn S (i + 1)) - lev u (cn S i) ≠ 0 := by grind
    grind
  have pA : 0 < tau S P i / (lev u (cn S i) - lev u (cn S (i + 1))) := by rw [Rat.div_def]; exact mul_pos' hti (Rat.inv_pos.mpr (by grind))
  have pB : 0 < tau S P j / (lev u (cn S (j + 1)) - lev u (cn S j)) := by rw [Rat.div_def]; exact mul_pos' htj (Rat.inv_pos.mpr hdj)
  rw [hA] at xi yi
  generalize tau S P i / (lev u (cn S i) - lev u (cn S (i + 1))) = A at *
  generalize tau S P j / (lev u (cn S (j + 1)) - lev u (cn S j)) = B at *
  have hB0 : B ≠ 0 := by grind
  have lk : Link S P i ((lev u P - lev u (cn S i)) / (lev u (cn S (i + 1)) - lev u (cn S i))) j ((lev u P - lev u (cn S j)) / (lev u (cn S (j + 1)) - lev u (cn S j))) (A / B) := by
    refine ⟨by rw [Rat.div_def]; exact mul_pos' pA (Rat.inv_pos.mpr pB), ?_, ?_⟩
    · rw [xi, xj]; grind
    · rw [yi, yj]; grind
  rw [ei] at lk
  exact ⟨_, by
    have := lk.chord hi hj si.1 si.2 sj.1 sj.2
    rw [← ei] at this
    exact this⟩
theorem fold_last {α : Type} (c : Nat → Prop) [DecidablePred c] (f : Nat → α) : ∀ n, (∃ i, i < n ∧ c i) → ∃ i, i < n ∧ c i ∧ (List.range n).foldl (fun a i => if c i then some (f i) else a) none = some (f i)
  | 0, h => by obtain ⟨i, h, _⟩ := h; omega
  | n + 1, h => by
    rw [List.range_succ, List.foldl_append, List.foldl_cons, List.foldl_nil]
    by_cases q : c n
    · exact ⟨n, by omega, q, by rw [if_pos q]⟩
    · obtain ⟨i, hi, hc⟩ := h
      have hi2 : i < n := by
        rcases (by omega : i < n ∨ i = n) with z | z
        · exact z
        · subst z; exact absurd hc q
      obtain ⟨i', h1, h2, h3⟩ := fold_last c f n ⟨i, hi2, hc⟩
      exact ⟨i', by omega, h2, by rw [if_neg q, h3]⟩
theorem line_chord (hC : Conv S) (hI : Ins S P) {u : Int × Int} (hu : u.1 ≠ 0 ∨ u.2 ≠ 0) : ∃ l r m, lineL S u (lev u P) S.length = some l ∧ lineR S u (lev u P) S.length = some r ∧ (∃ p ∈ S, lev u P < lev u p) ∧ Chord S P (l, r) m := by
  have h3 := hC.1
  have h0 : 0 < S.length := by omega
  have hu' : ¬ ((u.1 : Rat) = 0 ∧ (u.2 : Rat) = 0) := fun z => by
    rcases hu with h | h
    · exact h (Rat.intCast_eq_zero_iff.mp z.1)
    · exact h (Rat.intCast_eq_zero_iff.mp z.2)
  have el : ∀ k, lev u (cn S k) - lev u P = u.1 * ((cn S k).x - P.x) + u.2 * ((cn S k).y - P.y) := fun k => by simp only [lev]; grind
  have hlow : ∃ k, k < S.length ∧ lev u (cn S k) < lev u P := by
    by_cases q : ∃ k, k < S.length ∧ lev u (cn S k) < lev u P
    · exact q
    · exfalso
      refine hu' (up_zero hC hI fun k hk => ?_)
      have : ¬ lev u (cn S k) < lev u P := fun z => q ⟨k, hk, z⟩
      rw [← el]
      grind
  have hhigh : ∃ k, k < S.length ∧ lev u P < lev u (cn S k) := by
    by_cases q : ∃ k, k < S.length ∧ lev u P < lev u (cn S k)
    · exact q
    · exfalso
      have := up_zero hC hI (a := -(u.1 : Rat)) (b := -(u.2 : Rat)) fun k hk => by
        have : ¬ lev u P < lev u (cn S k) := fun z => q ⟨k, hk, z⟩
        have e := el k
        grind
      exact hu' ⟨by grind, by grind⟩
  obtain ⟨p, hp, hpl⟩ := hlow
  obtain ⟨q, hq, hqh⟩ := hhigh
  have hL : ∃ i, i < S.length ∧ (lev u (cn S (i + 1)) < lev u P ∧ ¬ lev u (cn S i) < lev u P) := by
    obtain ⟨k, _, k1, k2⟩ := step_Q (fun x => lev u (cn S x) < lev u P) (p + S.length - q) q (fun z => by have z : lev u (cn S q) < lev u P := z; grind) (by
      show lev u (cn S (q + (p + S.length - q))) < _
      rw [show q + (p + S.length - q) = p + S.length by omega, cn_add]
      exact hpl)
    exact ⟨(q + k) % S.length, Nat.mod_lt _ h0, by rw [cn_wrap]; exact k2, by rw [cn_mod]; exact k1⟩
  have hR : ∃ i, i < S.length ∧ (lev u (cn S i) < lev u P ∧ ¬ lev u (cn S (i + 1)) < lev u P) := by
    obtain ⟨k, _, k1, k2⟩ := step_Q (fun x => ¬ lev u (cn S x) < lev u P) (q + S.length - p) p (fun z => z hpl) (by
      show ¬ lev u (cn S (p + (q + S.length - p))) < _
      rw [show p + (q + S.length - p) = q + S.length by omega, cn_add]
      intro z
      grind)
    exact ⟨(p + k) % S.length, Nat.mod_lt _ h0, by rw [cn_mod]; exact Decidable.of_not_not k1, by rw [cn_wrap]; exact k2⟩
  obtain ⟨i, hi, ci, ei⟩ := fold_last (fun i => lev u (cn S (i + 1)) < lev u P ∧ ¬ lev u (cn S i) < lev u P) (cross1 S u (lev u P)) S.length hL
  obtain ⟨j, hj, cj, ej⟩ := fold_last (fun i => lev u (cn S i) < lev u P ∧ ¬ lev u (cn S (i + 1)) < lev u P) (cross1 S u (lev u P)) S.length hR
  obtain ⟨m, c⟩ := cross_link hI hi hj ci cj
  exact ⟨_, _, m, ei, ej, ⟨cn S q, cn_mem h0, hqh⟩, c⟩
/-! moved sections -/
theorem cn_map (h0 : 0 < S.length) (w : P2) (i : Nat) : cn (S.map fun q => q.add w) i = (cn S i).add w := by
  have h := Nat.mod_lt i h0
  unfold cn
  rw [List.length_map, List.getD_eq_getElem?_getD, List.getElem?_map, List.getElem?_eq_getElem h, List.getD_eq_getElem?_getD, List.getElem?_eq_getElem h]
  rfl
theorem tri_mv (p q r w : P2) : tri (p.add w) (q.add w) (r.add w) = tri p q r := by simp only [tri, cr, P2.sub, P2.add]; grind
theorem sub_mv (p q w : P2) : (p.add w).sub (q.add w) = p.sub q := P2.eq (by simp only [P2.sub, P2.add]; grind) (by simp only [P2.sub, P2.add]; grind)
theorem eg_mv (h0 : 0 < S.length) (w : P2) (i : Nat) : eg (S.map fun q => q.add w) i = eg S i := by unfold eg; rw [cn_map h0, cn_map h0, sub_mv]
theorem Conv.mv (hC : Conv S) (w : P2) : Conv (S.map fun q => q.add w) := by
  have h0 : 0 < S.length := by have := hC.1; omega
  refine ⟨by rw [List.length_map]; exact hC.1, fun i j k h1 h2 h3 => ?_⟩
  rw [List.length_map] at h3
  rw [cn_map h0, cn_map h0, cn_map h0, tri_mv]
  exact hC.2 i j k h1 h2 h3
theorem Ins.mv (hI : Ins S P) (h0 : 0 < S.length) (w : P2) : Ins (S.map fun q => q.add w) (P.add w) := fun i hi => by
  rw [List.length_map] at hi
  rw [cn_map h0, cn_map h0, tri_mv]
  exact hI i hi
theorem tau_mv (h0 : 0 < S.length) (w : P2) (k : Nat) : tau (S.map fun q => q.add w) (P.add w) k = tau S P k := by
  unfold tau
  rw [cn_map h0, cn_map h0, tri_mv]
theorem G_mv (h0 : 0 < S.length) (w : P2) : ∀ k, G (S.map fun q => q.add w) (P.add w) k = G S P k
  | 0 => rfl
  | k + 1 => by
    show G _ _ k + tau _ _ k = G S P k + tau S P k
    rw [G_mv h0 w k, tau_mv h0]
theorem Chord.mv {z : Stand} (h : Chord S P z m) (h0 : 0 < S.length) (w : P2) : Chord (S.map fun q => q.add w) (P.add w) z m := by
  refine ⟨by rw [List.length_map]; exact h.i1, by rw [List.length_map]; exact h.i2, h.a0, h.a1, h.b0, h.b1, ?_⟩
  unfold Link
  rw [cn_map h0, cn_map h0, sub_mv, sub_mv, eg_mv h0, eg_mv h0]
  exact h.lk
theorem isF.mv {z : Stand} (h : isF S P z) (h0 : 0 < S.length) (w : P2) : isF (S.map fun q => q.add w) (P.add w) z := by
  obtain ⟨m, c, h⟩ := h
  refine ⟨m, c.mv h0 w, ?_⟩
  rw [eg_mv h0, eg_mv h0]
  exact h
theorem mv_mv (w : P2) : (S.map fun q => q.add w).map (fun q => q.add ⟨-w.x, -w.y⟩) = S := by
  rw [List.map_map]
  conv => rhs; rw [← List.map_id S]
  refine List.map_congr_left fun q _ => ?_
  exact P2.eq (by simp only [Function.comp, P2.add, id]; grind) (by simp only [Function.comp, P2.add, id]; grind)
theorem isF.mv_iff (h0 : 0 < S.length) (w : P2) {z : Stand} : isF (S.map fun q => q.add w) (P.add w) z ↔ isF S P z := by
  refine ⟨fun h => ?_, fun h => h.mv h0 w⟩
  have := h.mv (by rw [List.length_map]; exact h0) ⟨-w.x, -w.y⟩
  rw [mv_mv] at this
  have e : (P.add w).add ⟨-w.x, -w.y⟩ = P := P2.eq (by simp only [P2.add]; grind) (by simp only [P2.add]; grind)
  rw [e] at this
  exact this
theorem cA_mv (h0 : 0 < S.length) (w : P2) (z : Stand) : cA (S.map fun q => q.add w) (P.add w) z = cA S P z := by
  unfold cA ar2
  rw [G_mv h0, G_mv h0, tau_mv h0, tau_mv h0, G_mv h0, List.length_map]
/-- a moved section tells the same -/
theorem extreme_mv (hC : Conv S) (hI : Ins S P) (w : P2) (g : Bool) : extreme (S.map fun q => q.add w) (P.add w) g = extreme S P g := by
  have h0 : 0 < S.length := by have := hC.1; omega
  obtain ⟨z, hz, e, _, hm⟩ := extreme_law hC hI g
  obtain ⟨z', hz', e', _, hm'⟩ := extreme_law (hC.mv w) (hI.mv h0 w) g
  have ea : ∀ y, isF S P y → stArea (S.map fun q => q.add w) y = stArea S y := fun y hy => by
    rw [(hy.mv h0 w).area (hI.mv h0 w), hy.area hI, cA_mv h0]
  have hzF := (isF.mv_iff h0 w).mp hz'.isF
  have k1 := hm z' hzF
  have k2 := hm' z (hz.isF.mv h0 w)
  rw [ea _ hz.isF, ea _ hzF] at k2
  obtain ⟨_, el⟩ := btP_tri k1 k2
  have := cand_eq hC hI hzF hz.isF el
  subst this
  rw [e', e, ea _ hzF]
end
end Hull
namespace Hull
open PySem
/-! the order by x, then by y -/
def LP (v : P2) : Prop := 0 < v.x ∨ (v.x = 0 ∧ 0 < v.y)
theorem ltP_iff {p q : P2} : ltP p q = true ↔ LP (q.sub p) := by
  unfold ltP LP
  rw [decide_eq_true_iff]
  simp only [P2.sub]
  constructor
  · rintro (h | ⟨h, h'⟩)
    · exact .inl (by grind)
    · exact .inr ⟨by grind, by grind⟩
  · rintro (h | ⟨h, h'⟩)
    · exact .inl (by grind)
    · exact .inr ⟨by grind, by grind⟩
theorem LP.comb {v w : P2} {a b : Rat} (hv : LP v) (hw : LP w) (ha : 0 < a) (hb : 0 ≤ b) : LP ⟨a * v.x + b * w.x, a * v.y + b * w.y⟩ := by
  have key : ∀ x : Rat, 0 < x → 0 < a * x := fun x h => mul_pos' ha h
  have key2 : ∀ x : Rat, 0 ≤ x → 0 ≤ b * x := fun x h => mul_nn hb h
  rcases hv with h | ⟨h, h'⟩
  · refine .inl ?_
    have := key _ h
    have : 0 ≤ w.x := by rcases hw with k | ⟨k, _⟩ <;> grind
    have := key2 _ this
    show 0 < a * v.x + b * w.x
    grind
  · rcases hw with k | ⟨k, k'⟩
    · by_cases q : b = 0
      · subst q
        refine .inr ⟨by show a * v.x + 0 * w.x = 0; grind, ?_⟩
        have := key _ h'
        show 0 < a * v.y + 0 * w.y
        grind
      · refine .inl ?_
        have := mul_pos' (show 0 < b by grind) k
        show 0 < a * v.x + b * w.x
        rw [h, Rat.mul_zero, Rat.zero_add]
        exact this
    · refine .inr ⟨by show a * v.x + b * w.x = 0; grind, ?_⟩
      have := key _ h'
      have := key2 _ (show 0 ≤ w.y by grind)
      show 0 < a * v.y + b * w.y
      grind
theorem LP.scale {v : P2} {k : Rat} (hv : LP v) (h : LP ⟨k * v.x, k * v.y⟩) : 0 < k := by
  rcases hv with a | ⟨a, b⟩
  · rcases h with c | ⟨c, d⟩
    · have c : 0 < k * v.x := c
      exact pos_of_mul (x := v.x) (by grind) a
    · have c : k * v.x = 0 := c
      have d : 0 < k * v.y := d
      rcases Rat.mul_eq_zero.mp c with z | z
      · rw [z] at d; grind
      · grind
  · rcases h with c | ⟨c, d⟩
    · have c : 0 < k * v.x := c
      rw [a] at c; grind
    · have d : 0 < k * v.y := d
      exact pos_of_mul (x := v.y) (by grind) b
theorem LP.tr {p q r : P2} (h : LP (q.sub p)) (k : LP (r.sub q)) : LP (r.sub p) := by
  have := h.comb k (a := 1) (b := 1) (by decide) (by decide)
  have e : (⟨1 * (q.sub p).x + 1 * (r.sub q).x, 1 * (q.sub p).y + 1 * (r.sub q).y⟩ : P2) = r.sub p := P2.eq (by simp only [P2.sub]; grind) (by simp only [P2.sub]; grind)
  rw [e] at this
  exact this
/-- two left turns behind one another -/
theorem turns {p q r s : P2} (h1 : LP (q.sub p)) (h2 : LP (r.sub q)) (h3 : LP (s.sub r)) (t1 : 0 < tri p q r) (t2 : 0 < tri q r s) : 0 < tri p q s ∧ 0 < tri p r s := by
  have e1 : tri p q r = cr (q.sub p) (r.sub q) := by simp only [tri, cr, P2.sub]; grind
  have e2 : tri q r s = cr (r.sub q) (s.sub r) := by simp only [tri, cr, P2.sub]; grind
  rw [e1] at t1
  rw [e2] at t2
  have hc := h3.comb h1 t1 (Rat.le_of_lt t2)
  have e3 : (⟨cr (q.sub p) (r.sub q) * (s.sub r).x + cr (r.sub q) (s.sub r) * (q.sub p).x, cr (q.sub p) (r.sub q) * (s.sub r).y + cr (r.sub q) (s.sub r) * (q.sub p).y⟩ : P2) = ⟨cr (q.sub p) (s.sub r) * (r.sub q).x, cr (q.sub p) (s.sub r) * (r.sub q).y⟩ := P2.eq (by simp only [cr]; grind) (by simp only [cr]; grind)
  rw [e3] at hc
  have := h2.scale hc
  have f1 : tri p q s = cr (q.sub p) (r.sub q) + cr (q.sub p) (s.sub r) := by simp only [tri, cr, P2.sub]; grind
  have f2 : tri p r s = cr (q.sub p) (s.sub r) + cr (r.sub q) (s.sub r) := by simp only [tri, cr, P2.sub]; grind
  rw [f1, f2]
  exact ⟨by grind, by grind⟩
/-- a point above the line of both ends lies to the left of each way of the lower chain -/
theorem above {m M a b c : P2} (hD : LP (M.sub m)) (hd : LP (b.sub a)) (h1 : LP (c.sub m)) (h2 : LP (M.sub c)) (t1 : 0 ≤ tri a b m) (t2 : 0 ≤ tri a b M) (hc : 0 < tri m M c) : 0 < tri a b c := by
  have e0 : tri m M c = cr (M.sub m) (c.sub m) := rfl
  rw [e0] at hc
  by_cases q : cr (M.sub m) (b.sub a) ≤ 0
  · have hk := hd.comb h1 hc (b := -(cr (M.sub m) (b.sub a))) (by grind)
    have e : (⟨cr (M.sub m) (c.sub m) * (b.sub a).x + -(cr (M.sub m) (b.sub a)) * (c.sub m).x, cr (M.sub m) (c.sub m) * (b.sub a).y + -(cr (M.sub m) (b.sub a)) * (c.sub m).y⟩ : P2) = ⟨cr (b.sub a) (c.sub m) * (M.sub m).x, cr (b.sub a) (c.sub m) * (M.sub m).y⟩ := P2.eq (by simp only [cr]; grind) (by simp only [cr]; grind)
    rw [e] at hk
    have := hD.scale hk
    have f : tri a b c = tri a b m + cr (b.sub a) (c.sub m) := by simp only [tri, cr, P2.sub]; grind
    rw [f]; grind
  · have hk := hd.comb h2 hc (b := cr (M.sub m) (b.sub a)) (by grind)
    have e : (⟨cr (M.sub m) (c.sub m) * (b.sub a).x + cr (M.sub m) (b.sub a) * (M.sub c).x, cr (M.sub m) (c.sub m) * (b.sub a).y + cr (M.sub m) (b.sub a) * (M.sub c).y⟩ : P2) = ⟨cr (b.sub a) (c.sub M) * (M.sub m).x, cr (b.sub a) (c.sub M) * (M.sub m).y⟩ := P2.eq (by simp only [cr, P2.sub]; grind) (by simp only [cr, P2.sub]; grind)
    rw [e] at hk
    have := hD.scale hk
    have f : tri a b c = tri a b M + cr (b.sub a) (c.sub M) := by simp only [tri, cr, P2.sub]; grind
    rw [f]; grind
/-! the chain bends left everywhere; the stack's top is its head -/
structure Stk (st : List P2) : Prop where
  dec : st.Pairwise fun b a => LP (b.sub a)
  tr : ∀ (i j k : Nat) (a b c : P2), i < j → j < k → st[i]? = some c → st[j]? = some b → st[k]? = some a → 0 < tri a b c
theorem Stk.tail {x : P2} {st : List P2} (h : Stk (x :: st)) : Stk st := ⟨(List.pairwise_cons.mp h.dec).2, fun i j k a b c h1 h2 e1 e2 e3 => h.tr (i + 1) (j + 1) (k + 1) a b c (by omega) (by omega) (by simpa using e1) (by simpa using e2) (by simpa using e3)⟩
theorem pw_at {α : Type} {R : α → α → Prop} {l : List α} (h : l.Pairwise R) {i j : Nat} {x y : α} (hij : i < j) (hx : l[i]? = some x) (hy : l[j]? = some y) : R x y := by
  obtain ⟨hi, rfl⟩ := List.getElem?_eq_some_iff.mp hx
  obtain ⟨hj, rfl⟩ := List.getElem?_eq_some_iff.mp hy
  exact List.pairwise_iff_getElem.mp h i j hi hj hij
/-- all ways of the stack bend left at what comes -/
theorem Stk.all : ∀ {st : List P2} {x : P2}, Stk st → (∀ b, st[0]? = some b → LP (x.sub b)) → (∀ b a, st[0]? = some b → st[1]? = some a → 0 < tri a b x) → ∀ (j k : Nat) (a b : P2), j < k → st[j]? = some b → st[k]? = some a → 0 < tri a b x
  | [], _, _, _, _, j, k, a, b, _, e, _ => by simp at e
  | [_], _, _, _, _, j, k, a, b, h, e1, e2 => by
    obtain ⟨h2, _⟩ := List.getElem?_eq_some_iff.mp e2
    simp at h2
    omega
  | b0 :: a0 :: r, x, hs, hx, ht, j, k, a, b, hjk, e1, e2 => by
    have t0 := ht b0 a0 rfl rfl
    have x0 := hx b0 rfl
    have hd := List.pairwise_cons.mp hs.dec
    have l1 : LP (b0.sub a0) := hd.1 a0 List.mem_cons_self
    have ih := Stk.all (x := x) hs.tail (fun b e => by
      cases Option.some.inj e
      exact l1.tr x0) (fun b a e1 e2 => by
      cases Option.some.inj e1
      have l2 : LP (a0.sub a) := pw_at hs.tail.dec (i := 0) (j := 1) (by omega) rfl e2
      exact (turns l2 l1 x0 (hs.tr 0 1 2 a a0 b0 (by omega) (by omega) rfl rfl (by simpa using e2)) t0).1)
    cases j with
    | succ j =>
      cases k with
      | zero => omega
      | succ k => exact ih j k a b (by omega) (by simpa using e1) (by simpa using e2)
    | zero =>
      cases Option.some.inj e1
      match k, hjk, e2 with
      | 1, _, e2 =>
        cases Option.some.inj e2
        exact t0
      | k + 2, _, e2 =>
        have e3 : (a0 :: r)[k + 1]? = some a := by simpa using e2
        have l2 : LP (a0.sub a) := pw_at hs.tail.dec (i := 0) (j := k + 1) (by omega) rfl e3
        exact (turns l2 l1 x0 (hs.tr 0 1 (k + 2) a a0 b0 (by omega) (by omega) rfl rfl e2) t0).2
theorem Stk.pop : ∀ {st : List P2} {x : P2}, Stk st → (∀ b ∈ st, LP (x.sub b)) → Stk (x :: popR bendP x st)
  | [], x, h, hx => ⟨by unfold popR; simp, fun i j k a b c h1 h2 e1 e2 e3 => by
    unfold popR at e2
    obtain ⟨h2, _⟩ := List.getElem?_eq_some_iff.mp e2
    simp at h2
    omega⟩
  | [y], x, h, hx => ⟨by unfold popR; simp; exact hx y List.mem_cons_self, fun i j k a b c h1 h2 e1 e2 e3 => by
    unfold popR at e3
    obtain ⟨h2, _⟩ := List.getElem?_eq_some_iff.mp e3
    simp at h2
    omega⟩
  | b :: a :: r, x, h, hx => by
    unfold popR
    split
    · rename_i q
      have q : 0 < tri a b x := of_decide_eq_true q
      have al := h.all (x := x) (fun c e => by cases Option.some.inj e; exact hx b List.mem_cons_self) (fun c d e1 e2 => by cases Option.some.inj e1; cases Option.some.inj e2; exact q)
      refine ⟨List.pairwise_cons.mpr ⟨hx, h.dec⟩, fun i j k a' b' c h1 h2 e1 e2 e3 => ?_⟩
      cases j with
      | zero => omega
      | succ j =>
        cases k with
        | zero => omega
        | succ k =>
          have e2 : (b :: a :: r)[j]? = some b' := by simpa using e2
          have e3 : (b :: a :: r)[k]? = some a' := by simpa using e3
          cases i with
          | zero =>
            cases Option.some.inj e1
            exact al j k a' b' (by omega) e2 e3
          | succ i => exact h.tr i j k a' b' c (by omega) (by omega) (by simpa using e1) e2 e3
    · exact Stk.pop h.tail fun c hc => hx c (List.mem_cons_of_mem _ hc)
theorem popR_last {x : P2} : ∀ {st : List P2}, st ≠ [] → (popR bendP x st).getLast? = st.getLast?
  | [], h => absurd rfl h
  | [y], _ => rfl
  | b :: a :: r, _ => by
    unfold popR
    split
    · rfl
    · rw [popR_last (by simp)]
      rfl
theorem popR_ne {x : P2} : ∀ {st : List P2}, st ≠ [] → popR bendP x st ≠ []
  | [], h => absurd rfl h
  | [y], h => h
  | b :: a :: r, _ => by
    unfold popR
    split
    · simp
    · exact popR_ne (by simp)
theorem fold_stk : ∀ (l st : List P2), st ≠ [] → Stk st → l.Pairwise (fun a b => LP (b.sub a)) → (∀ a ∈ l, ∀ b ∈ st, LP (a.sub b)) →
    Stk (l.foldl (stepR bendP) st) ∧ (l.foldl (stepR bendP) st).getLast? = st.getLast? ∧ l.foldl (stepR bendP) st ≠ [] ∧ (∀ z, l.getLast? = some z → (l.foldl (stepR bendP) st).head? = some z)
  | [], st, h0, h, _, _ => ⟨h, rfl, h0, fun z e => by simp at e⟩
  | x :: l, st, h0, h, hp, hx => by
    obtain ⟨p1, p2⟩ := List.pairwise_cons.mp hp
    have hst : Stk (stepR bendP st x) := h.pop (hx x List.mem_cons_self)
    have hne : stepR bendP st x ≠ [] := by unfold stepR; simp
    obtain ⟨k1, k2, k3, k4⟩ := fold_stk l (stepR bendP st x) hne hst p2 fun a ha b hb => by
      unfold stepR at hb
      rcases List.mem_cons.mp hb with z | z
      · rw [z]; exact p1 a ha
      · exact hx a (List.mem_cons_of_mem _ ha) b (popR_sub x z)
    refine ⟨k1, k2.trans ?_, k3, fun z e => ?_⟩
    · unfold stepR
      rw [List.getLast?_cons, popR_last h0]
      cases q : st.getLast? with
      | none => rw [List.getLast?_eq_none_iff] at q; exact absurd q h0
      | some w => rfl
    · cases l with
      | nil =>
        simp at e
        subst e
        rfl
      | cons y l => exact k4 z (by rw [List.getLast?_cons_cons] at e; exact e)
theorem stk_one (x : P2) : Stk [x] := ⟨by simp, fun i j k a b c h1 h2 e1 e2 e3 => by
  obtain ⟨h2, _⟩ := List.getElem?_eq_some_iff.mp e2
  simp at h2
  omega⟩
/-- the lower chain of a sorted list -/
structure Low (c : List P2) (m M : P2) : Prop where
  inc : c.Pairwise fun a b => LP (b.sub a)
  tr : ∀ (i j k : Nat) (a b d : P2), i < j → j < k → c[i]? = some a → c[j]? = some b → c[k]? = some d → 0 < tri a b d
  fst : c.head? = some m
  lst : c.getLast? = some M
theorem chain_low {l : List P2} {m M : P2} (hl : l.Pairwise fun a b => LP (b.sub a)) (h1 : l.head? = some m) (h2 : l.getLast? = some M) : Low (chain bendP l) m M := by
  match l, hl, h1, h2 with
  | x :: l, hl, h1, h2 =>
    have ex : x = m := Option.some.inj h1
    subst ex
    obtain ⟨p1, p2⟩ := List.pairwise_cons.mp hl
    have e : chainR bendP (x :: l) = l.foldl (stepR bendP) [x] := rfl
    obtain ⟨k1, k2, k3, k4⟩ := fold_stk l [x] (by simp) (stk_one x) p2 fun a ha b hb => by rw [List.mem_singleton.mp hb]; exact p1 a ha
    have hh : (l.foldl (stepR bendP) [x]).head? = some M := by
      cases l with
      | nil =>
        simp at h2
        subst h2
        rfl
      | cons y l => exact k4 M (by rw [List.getLast?_cons_cons] at h2; exact h2)
    unfold chain
    rw [e]
    generalize l.foldl (stepR bendP) [x] = st at k1 k2 k3 hh
    refine ⟨List.pairwise_reverse.mpr k1.dec, fun i j k a b d hij hjk e1 e2 e3 => ?_, by rw [List.head?_reverse, k2]; rfl, by rw [List.getLast?_reverse]; exact hh⟩
    have hk := (List.getElem?_eq_some_iff.mp e3).1
    rw [List.length_reverse] at hk
    rw [List.getElem?_reverse (by omega)] at e1 e2 e3
    exact k1.tr _ _ _ a b d (by omega) (by omega) e3 e2 e1
theorem neg_tri (a b c : P2) : tri a.neg b.neg c.neg = tri a b c := by simp only [tri, cr, P2.sub, P2.neg]; grind
theorem neg_neg' (a : P2) : a.neg.neg = a := P2.eq (by simp only [P2.neg]; grind) (by simp only [P2.neg]; grind)
theorem neg_LP {a b : P2} : LP (b.neg.sub a.neg) ↔ LP (a.sub b) := by
  have : b.neg.sub a.neg = a.sub b := P2.eq (by simp only [P2.sub, P2.neg]; grind) (by simp only [P2.sub, P2.neg]; grind)
  rw [this]
theorem chain_neg (l : List P2) : chain bendP (l.map P2.neg) = (chain bendP l).map P2.neg := chain_map fun a _ b _ c _ => by unfold bendP; rw [neg_tri]
/-- the upper chain, from the greatest point on -/
structure Upp (c : List P2) (m M : P2) : Prop where
  dec : c.Pairwise fun a b => LP (a.sub b)
  tr : ∀ (i j k : Nat) (a b d : P2), i < j → j < k → c[i]? = some a → c[j]? = some b → c[k]? = some d → 0 < tri a b d
  fst : c.head? = some M
  lst : c.getLast? = some m
theorem chain_upp {l : List P2} {m M : P2} (hl : l.Pairwise fun a b => LP (b.sub a)) (h1 : l.head? = some m) (h2 : l.getLast? = some M) : Upp (chain bendP l.reverse) m M := by
  have hn : (l.reverse.map P2.neg).Pairwise fun a b => LP (b.sub a) := by
    rw [List.pairwise_map, List.pairwise_reverse]
    exact hl.imp fun {a b} h => neg_LP.mpr h
  have L := chain_low (m := M.neg) (M := m.neg) hn (by rw [List.head?_map, List.head?_reverse, h2]; rfl) (by rw [List.getLast?_map, List.getLast?_reverse, h1]; rfl)
  rw [chain_neg] at L
  generalize chain bendP l.reverse = c at L
  refine ⟨(List.pairwise_map.mp L.inc).imp fun {a b} h => neg_LP.mp h, fun i j k a b d h1 h2 e1 e2 e3 => ?_, ?_, ?_⟩
  · rw [← neg_tri]
    exact L.tr i j k _ _ _ h1 h2 (by rw [List.getElem?_map, e1]; rfl) (by rw [List.getElem?_map, e2]; rfl) (by rw [List.getElem?_map, e3]; rfl)
  · have := L.fst
    rw [List.head?_map] at this
    cases q : c.head? with
    | none => rw [q] at this; cases this
    | some z => rw [q] at this; have := congrArg P2.neg (Option.some.inj this); rw [neg_neg', neg_neg'] at this; rw [this]
  · have := L.lst
    rw [List.getLast?_map] at this
    cases q : c.getLast? with
    | none => rw [q] at this; cases this
    | some z => rw [q] at this; have := congrArg P2.neg (Option.some.inj this); rw [neg_neg', neg_neg'] at this; rw [this]
/-! both chains together -/
/-- corners go up to the greatest one and down again -/
structure Uni (S : List P2) (p : Nat) : Prop where
  p0 : 0 < p
  pn : p < S.length
  up : ∀ i j, i < j → j ≤ p → LP ((cn S j).sub (cn S i))
  dn : ∀ i j, p ≤ i → i < j → j < S.length → LP ((cn S i).sub (cn S j))
  lo : ∀ j, 0 < j → j < S.length → LP ((cn S j).sub (cn S 0))
theorem getD_at {l : List P2} {i : Nat} (h : i < l.length) : l[i]? = some (l.getD i ⟨0, 0⟩) := by
  rw [List.getD_eq_getElem?_getD, List.getElem?_eq_getElem h]; rfl
theorem join_conv {lo up : List P2} {m M : P2} (L : Low lo m M) (U : Upp up m M) (hmM : LP (M.sub m)) (h3 : 3 ≤ (lo.dropLast ++ up.dropLast).length) : Conv (lo.dropLast ++ up.dropLast) ∧ Uni (lo.dropLast ++ up.dropLast) (lo.length - 1) := by
  have hlo : 2 ≤ lo.length := by
    match lo, L with
    | [], L => exact absurd L.fst (by simp)
    | [x], L =>
      have e1 := L.fst
      have e2 := L.lst
      simp at e1 e2
      subst e1 e2
      exfalso
      unfold LP at hmM
      simp only [P2.sub] at hmM
      grind
    | x :: y :: l, _ => simp
  have hup : 2 ≤ up.length := by
    match up, U with
    | [], U => exact absurd U.fst (by simp)
    | [x], U =>
      have e1 := U.fst
      have e2 := U.lst
      simp at e1 e2
      subst e1 e2
      exfalso
      unfold LP at hmM
      simp only [P2.sub] at hmM
      grind
    | x :: y :: l, _ => simp
  obtain ⟨p, hp⟩ : ∃ p, lo.length = p + 1 := ⟨lo.length - 1, by omega⟩
  obtain ⟨q, hq⟩ : ∃ q, up.length = q + 1 := ⟨up.length - 1, by omega⟩
  have hn : (lo.dropLast ++ up.dropLast).length = p + q := by rw [List.length_append, List.length_dropLast, List.length_dropLast]; omega
  have lo0 : lo[0]? = some m := by have := L.fst; rw [List.head?_eq_getElem?] at this; exact this
  have loM : lo[p]? = some M := by have := L.lst; rw [List.getLast?_eq_getElem?, hp] at this; exact this
  have up0 : up[0]? = some M := by have := U.fst; rw [List.head?_eq_getElem?] at this; exact this
  have upm : up[q]? = some m := by have := U.lst; rw [List.getLast?_eq_getElem?, hq] at this; exact this
  generalize eS : lo.dropLast ++ up.dropLast = S at *
  have cl : ∀ k, k ≤ p → lo[k]? = some (cn S k) := fun k hk => by
    by_cases z : k = p
    · subst z
      have h := cn_get (S := S) (i := k) (by omega)
      rw [← eS, List.getElem?_append_right (by rw [List.length_dropLast]; omega), List.length_dropLast, hp, show k - (k + 1 - 1) = 0 by omega, List.getElem?_dropLast, if_pos (by omega), up0] at h
      rw [loM, h, eS]
    · have h := cn_get (S := S) (i := k) (by omega)
      rw [← eS, List.getElem?_append_left (by rw [List.length_dropLast]; omega), List.getElem?_dropLast, if_pos (by omega)] at h
      rw [h, eS]
  have cu : ∀ k, p ≤ k → k < p + q → up[k - p]? = some (cn S k) := fun k hk hk2 => by
    have h := cn_get (S := S) (i := k) (by omega)
    rw [← eS, List.getElem?_append_right (by rw [List.length_dropLast]; omega), List.length_dropLast, hp, show p + 1 - 1 = p by omega, List.getElem?_dropLast, if_pos (by omega)] at h
    rw [h, eS]
  have cm : cn S 0 = m := by have := cl 0 (by omega); rw [lo0] at this; exact (Option.some.inj this).symm
  have cM : cn S p = M := by have := cl p (by omega); rw [loM] at this; exact (Option.some.inj this).symm
  have inc : ∀ i j, i < j → j ≤ p → LP ((cn S j).sub (cn S i)) := fun i j h1 h2 => pw_at L.inc h1 (cl i (by omega)) (cl j h2)
  have dec : ∀ i j, p ≤ i → i < j → j < p + q → LP ((cn S i).sub (cn S j)) := fun i j h1 h2 h3 => pw_at U.dec (show i - p < j - p by omega) (cu i h1 (by omega)) (cu j (by omega) h3)
  have decm : ∀ i, p ≤ i → i < p + q → LP ((cn S i).sub m) := fun i h1 h2 => pw_at U.dec (show i - p < q by omega) (cu i h1 h2) upm
  have T1 : ∀ i j k, i < j → j < k → k ≤ p → 0 < tri (cn S i) (cn S j) (cn S k) := fun i j k h1 h2 h3 => L.tr i j k _ _ _ h1 h2 (cl i (by omega)) (cl j (by omega)) (cl k h3)
  have T2 : ∀ i j k, p ≤ i → i < j → j < k → k < p + q → 0 < tri (cn S i) (cn S j) (cn S k) := fun i j k h0 h1 h2 h3 => U.tr (i - p) (j - p) (k - p) _ _ _ (by omega) (by omega) (cu i h0 (by omega)) (cu j (by omega) (by omega)) (cu k (by omega) h3)
  have T2m : ∀ i j, p ≤ i → i < j → j < p + q → 0 < tri (cn S i) (cn S j) m := fun i j h0 h1 h2 => U.tr (i - p) (j - p) q _ _ _ (by omega) (by omega) (cu i h0 (by omega)) (cu j (by omega) h2) upm
  have e1 : lo.length - 1 = p := by omega
  rw [e1]
  refine ⟨⟨h3, fun i j k hij hjk hk => ?_⟩, by omega, by omega, inc, fun i j h1 h2 h3 => dec i j h1 h2 (by omega), fun j h1 h2 => ?_⟩
  · rw [hn] at hk
    by_cases c1 : k ≤ p
    · exact T1 i j k hij hjk c1
    by_cases c2 : p ≤ i
    · exact T2 i j k c2 hij hjk hk
    by_cases c3 : j ≤ p
    · refine above hmM (inc i j hij c3) (decm k (by omega) hk) (by rw [← cM]; exact dec p k (by omega) (by omega) hk) ?_ ?_ ?_
      · by_cases z : i = 0
        · subst z
          rw [← cm, (tri_self _ _).1]
          exact Rat.le_refl
        · have := T1 0 i j (by omega) hij c3
          rw [cm, tri_rot] at this
          exact Rat.le_of_lt this
      · by_cases z : j = p
        · subst z
          rw [← cM, (tri_self _ _).2.1]
          exact Rat.le_refl
        · have := T1 i j p hij (by omega) (by omega)
          rw [cM] at this
          exact Rat.le_of_lt this
      · have := T2m p k (by omega) (by omega) hk
        rw [cM] at this
        rw [tri_rot]
        exact this
    · by_cases z : i = 0
      · subst z
        have := T2m j k (by omega) hjk hk
        rw [cm, tri_rot]
        exact this
      · rw [tri_rot, ← neg_tri]
        refine above (m := M.neg) (M := m.neg) (neg_LP.mpr hmM) (neg_LP.mpr (dec j k (by omega) hjk hk)) (neg_LP.mpr ?_) (neg_LP.mpr ?_) ?_ ?_ ?_
        · rw [← cM]; exact inc i p (by omega) (by omega)
        · rw [← cm]; exact inc 0 i (by omega) (by omega)
        · rw [neg_tri, ← cM]
          have := T2 p j k (by omega) (by omega) hjk hk
          rw [tri_rot] at this
          exact Rat.le_of_lt this
        · rw [neg_tri]
          exact Rat.le_of_lt (T2m j k (by omega) hjk hk)
        · rw [neg_tri]
          have := T1 0 i p (by omega) (by omega) (by omega)
          rw [cm, cM] at this
          rw [tri_rot]
          exact this
  · rw [cm]
    by_cases z : j ≤ p
    · rw [← cm]; exact inc 0 j h1 z
    · exact decm j (by omega) (by omega)
theorem srt_LP (ps : List P2) : (srtB ltP ps).Pairwise fun a b => LP (b.sub a) := (srtB_sorted ordP ps).imp fun {a b} h => ltP_iff.mp h
/-- a hull of three corners and more is a section -/
theorem hull_conv {ps : List P2} (h : 3 ≤ (hullP ps).length) : Conv (hullP ps) ∧ ∃ p, Uni (hullP ps) p := by
  have hs := srt_LP ps
  unfold hullP at h ⊢
  by_cases h1 : (srtB ltP ps).length = 1
  · rw [if_pos h1] at h
    omega
  · rw [if_neg h1] at h ⊢
    generalize srtB ltP ps = l at *
    match l, hs, h1, h with
    | [], _, _, h => simp [chain, chainR] at h
    | [_], _, h1, _ => exact absurd rfl h1
    | x :: y :: l, hs, h1, h =>
      obtain ⟨M, hM⟩ : ∃ M, (x :: y :: l).getLast? = some M := by
        cases q : (x :: y :: l).getLast? with
        | none => simp at q
        | some z => exact ⟨z, rfl⟩
      have hxM : LP (M.sub x) := by
        rw [List.getLast?_cons_cons] at hM
        exact (List.pairwise_cons.mp hs).1 M (List.mem_of_getLast? hM)
      have := join_conv (chain_low hs rfl hM) (chain_upp hs rfl hM) hxM h
      exact ⟨this.1, _, this.2⟩
end Hull
namespace Hull
open PySem
theorem last_split {α : Type} {l : List α} {z : α} (h : l.getLast? = some z) : l.dropLast ++ [z] = l := by
  have hne : l ≠ [] := fun e => by rw [e] at h; cases h
  have := List.dropLast_concat_getLast hne
  rw [List.getLast?_eq_some_getLast hne] at h
  rw [← Option.some.inj h]
  exact this
/-! the chain of a sorted list whose lower points are known -/
theorem sub3 {α : Type} {a b x : α} {f : α → Bool} {pre : List α} {r : List α} (h : (pre.filter f).reverse = b :: a :: r) : [a, b, x].Sublist (pre ++ [x]) := by
  have e : pre.filter f = (b :: a :: r).reverse := by rw [← h, List.reverse_reverse]
  have s1 : [a, b].Sublist (pre.filter f) := by
    rw [e]
    have : (b :: a :: r).reverse = r.reverse ++ [a, b] := by simp
    rw [this]
    exact List.sublist_append_right _ _
  exact (s1.trans List.filter_sublist).append (List.Sublist.refl [x])
theorem chain_filter {lw : P2 → Bool} : ∀ (post pre : List P2) (st : List P2), pre ≠ [] →
    (∀ a b c, [a, b, c].Sublist (pre ++ post) → lw a = true → lw b = true → bendP a b c = true) →
    (∀ a b c, [a, b, c].Sublist (pre ++ post) → lw a = true → lw b = false → bendP a b c = false) →
    (∃ x0 r, pre = x0 :: r ∧ lw x0 = true) →
    ((∃ z, pre.getLast? = some z ∧ lw z = true ∧ st = (pre.filter lw).reverse) ∨ ∃ u, pre.getLast? = some u ∧ lw u = false ∧ st = u :: (pre.filter lw).reverse) →
    (∀ z, (pre ++ post).getLast? = some z → lw z = true) → post.foldl (stepR bendP) st = ((pre ++ post).filter lw).reverse
  | [], pre, st, hne, _, _, _, hst, hl => by
    rw [List.append_nil] at hl ⊢
    rcases hst with ⟨z, hz, h1, h2⟩ | ⟨u, hz, h1, h2⟩
    · exact h2
    · rw [hl u hz] at h1
      cases h1
  | x :: post, pre, st, hne, H1, H2, h0, hst, hl => by
    obtain ⟨x0, r0, e0, hx0⟩ := h0
    have base : ∀ b : List P2, b = (pre.filter lw).reverse → popR bendP x b = b := fun b hb => by
      match b, hb with
      | [], _ => rfl
      | [_], _ => rfl
      | b :: a :: r, hb =>
        have hs := sub3 (x := x) hb.symm
        have hs2 : [a, b, x].Sublist (pre ++ x :: post) := by
          have : pre ++ x :: post = (pre ++ [x]) ++ post := by simp
          rw [this]
          exact hs.trans (List.sublist_append_left _ _)
        have hm : ∀ z, z ∈ (pre.filter lw) → lw z = true := fun z hz => (List.mem_filter.mp hz).2
        have ha : lw a = true := hm a (List.mem_reverse.mp (by rw [← hb]; simp))
        have hbb : lw b = true := hm b (List.mem_reverse.mp (by rw [← hb]; simp))
        unfold popR
        rw [H1 a b x hs2 ha hbb]
        rfl
    have hpop : popR bendP x st = (pre.filter lw).reverse := by
      rcases hst with ⟨z, hz, h1, h2⟩ | ⟨u, hz, h1, h2⟩
      · rw [h2]; exact base _ rfl
      · have hfne : (pre.filter lw).reverse ≠ [] := by
          rw [e0, List.filter_cons, if_pos hx0]; simp
        obtain ⟨a, r, ea⟩ := List.exists_cons_of_ne_nil hfne
        have ha : lw a = true := (List.mem_filter.mp (List.mem_reverse.mp (by rw [ea]; exact List.mem_cons_self))).2
        have hs : [a, u, x].Sublist (pre ++ x :: post) := by
          have hp : pre = pre.dropLast ++ [u] := by
            have := last_split hz
            exact this.symm
          have hau : a ≠ u := fun z => by rw [z, h1] at ha; cases ha
          have hmem : a ∈ pre := (List.mem_filter.mp (List.mem_reverse.mp (by rw [ea]; exact List.mem_cons_self))).1
          rw [hp] at hmem
          have hmem : a ∈ pre.dropLast := by
            rcases List.mem_append.mp hmem with w | w
            · exact w
            · exact absurd (List.mem_singleton.mp w) hau
          have s1 : [a].Sublist pre.dropLast := List.singleton_sublist.mpr hmem
          have s2 : ([a] ++ [u]).Sublist pre := by rw [hp]; exact s1.append (List.Sublist.refl _)
          have s3 : ([a] ++ [u] ++ [x]).Sublist (pre ++ x :: post) := s2.append (by simp)
          exact s3
        rw [h2, ea]
        unfold popR
        rw [H2 a u x hs ha h1, ← ea]
        exact base _ rfl
    have eq : pre ++ x :: post = (pre ++ [x]) ++ post := by simp
    rw [List.foldl_cons, eq]
    rw [eq] at H1 H2 hl
    have hstep : stepR bendP st x = x :: (pre.filter lw).reverse := by unfold stepR; rw [hpop]
    refine chain_filter post (pre ++ [x]) _ (by simp) H1 H2 ⟨x0, r0 ++ [x], by rw [e0]; rfl, hx0⟩ ?_ hl
    rw [hstep]
    cases q : lw x with
    | true => exact .inl ⟨x, by simp, q, by rw [List.filter_append, List.reverse_append]; simp [q]⟩
    | false => exact .inr ⟨x, by simp, q, by rw [List.filter_append, List.reverse_append]; simp [q]⟩
theorem chain_is {lw : P2 → Bool} {x0 : P2} {l : List P2} (h0 : lw x0 = true)
    (H1 : ∀ a b c, [a, b, c].Sublist (x0 :: l) → lw a = true → lw b = true → bendP a b c = true)
    (H2 : ∀ a b c, [a, b, c].Sublist (x0 :: l) → lw a = true → lw b = false → bendP a b c = false)
    (hl : ∀ z, (x0 :: l).getLast? = some z → lw z = true) : chain bendP (x0 :: l) = (x0 :: l).filter lw := by
  have := chain_filter (lw := lw) l [x0] [x0] (by simp) H1 H2 ⟨x0, [], rfl, h0⟩ (.inl ⟨x0, rfl, h0, by simp [h0]⟩) hl
  unfold chain
  show (l.foldl (stepR bendP) [x0]).reverse = _
  rw [this, List.reverse_reverse]
  rfl
theorem LP.irr {p : P2} (h : LP (p.sub p)) : False := by
  unfold LP at h
  simp only [P2.sub] at h
  grind
theorem LP.asym {p q : P2} (h : LP (p.sub q)) (k : LP (q.sub p)) : False := LP.irr (h.tr k)
theorem sub_pw {R : P2 → P2 → Prop} {l : List P2} {a b c : P2} (hl : l.Pairwise R) (h : [a, b, c].Sublist l) : R a b ∧ R b c ∧ R a c ∧ a ∈ l ∧ b ∈ l ∧ c ∈ l := by
  have := hl.sublist h
  simp at this
  exact ⟨this.1.1, this.2, this.1.2, h.subset (by simp), h.subset (by simp), h.subset (by simp)⟩
/-- the corners of a section are their own hull -/
theorem hull_id {S : List P2} {p : Nat} (hC : Conv S) (hU : Uni S p) : hullP S = S := by
  have h3 := hC.1
  have h0 : 0 < S.length := by omega
  have hp0 := hU.p0
  have hpn := hU.pn
  have hs := srt_LP S
  have hmem : ∀ z, z ∈ srtB ltP S ↔ z ∈ S := fun z => mem_srtB ordP
  have idx : ∀ z, z ∈ S → ∃ k, k < S.length ∧ z = cn S k := fun z hz => by
    obtain ⟨k, hk, e⟩ := List.getElem_of_mem hz
    refine ⟨k, hk, ?_⟩
    have := cn_get hk
    rw [List.getElem?_eq_getElem hk, e] at this
    exact Option.some.inj this
  -- order of corners tells the order of indexes
  have i1 : ∀ i j, i ≤ p → j ≤ p → LP ((cn S j).sub (cn S i)) → i < j := fun i j hi hj h => by
    rcases Nat.lt_trichotomy i j with w | w | w
    · exact w
    · subst w; exact (LP.irr h).elim
    · exact (LP.asym h (hU.up j i w hi)).elim
  have i2 : ∀ i j, p ≤ i → i < S.length → p ≤ j → j < S.length → LP ((cn S j).sub (cn S i)) → j < i := fun i j hi hi2 hj hj2 h => by
    rcases Nat.lt_trichotomy j i with w | w | w
    · exact w
    · subst w; exact (LP.irr h).elim
    · exact (LP.asym h (hU.dn i j hi w hj2)).elim
  have top : ∀ k, k < S.length → k ≠ p → LP ((cn S p).sub (cn S k)) := fun k hk hkp => by
    rcases (by omega : k < p ∨ p < k) with w | w
    · exact hU.up k p w (Nat.le_refl _)
    · exact hU.dn p k (Nat.le_refl _) w hk
  let lo : List P2 := (List.range (p + 1)).map (cn S)
  let hi : List P2 := ((List.range (S.length - p)).map fun k => cn S (p + k)) ++ [cn S 0]
  have mlo : ∀ z, z ∈ lo ↔ ∃ k, k ≤ p ∧ z = cn S k := fun z => by
    show z ∈ (List.range (p + 1)).map (cn S) ↔ _
    rw [List.mem_map]
    constructor
    · rintro ⟨k, hk, e⟩; exact ⟨k, by have := List.mem_range.mp hk; omega, e.symm⟩
    · rintro ⟨k, hk, e⟩; exact ⟨k, List.mem_range.mpr (by omega), e.symm⟩
  have mhi : ∀ z, z ∈ hi ↔ (∃ k, p ≤ k ∧ k < S.length ∧ z = cn S k) ∨ z = cn S 0 := fun z => by
    show z ∈ ((List.range (S.length - p)).map fun k => cn S (p + k)) ++ [cn S 0] ↔ _
    rw [List.mem_append, List.mem_map, List.mem_singleton]
    constructor
    · rintro (⟨k, hk, e⟩ | e)
      · exact .inl ⟨p + k, by omega, by have := List.mem_range.mp hk; omega, e.symm⟩
      · exact .inr e
    · rintro (⟨k, hk, hk2, e⟩ | e)
      · exact .inl ⟨k - p, List.mem_range.mpr (by omega), by rw [e]; congr 1; omega⟩
      · exact .inr e
  have ilo : lo.Pairwise fun a b => LP (b.sub a) := by
    show ((List.range (p + 1)).map (cn S)).Pairwise _
    rw [List.pairwise_map]
    refine List.Pairwise.imp_of_mem (fun {i j} hi hj h => ?_) List.pairwise_lt_range
    exact hU.up i j h (by have := List.mem_range.mp hj; omega)
  have ihi : hi.Pairwise fun a b => LP (a.sub b) := by
    show (((List.range (S.length - p)).map fun k => cn S (p + k)) ++ [cn S 0]).Pairwise _
    rw [List.pairwise_append]
    refine ⟨?_, by simp, fun a ha b hb => ?_⟩
    · rw [List.pairwise_map]
      refine List.Pairwise.imp_of_mem (fun {i j} hi hj h => ?_) List.pairwise_lt_range
      exact hU.dn (p + i) (p + j) (by omega) (by omega) (by have := List.mem_range.mp hj; omega)
    · rw [List.mem_singleton.mp hb]
      obtain ⟨k, hk, e⟩ := List.mem_map.mp ha
      rw [← e]
      exact hU.lo _ (by omega) (by have := List.mem_range.mp hk; omega)
  let lw : P2 → Bool := fun z => decide (z ∈ lo)
  let uw : P2 → Bool := fun z => decide (z ∈ hi)
  have flo : (srtB ltP S).filter lw = lo := by
    refine sorted_eq ordP ((srtB_sorted ordP S).filter _) (ilo.imp fun {a b} h => ltP_iff.mpr h) fun z => ?_
    rw [List.mem_filter, hmem]
    show z ∈ S ∧ decide (z ∈ lo) = true ↔ _
    rw [decide_eq_true_iff]
    refine ⟨fun h => h.2, fun h => ⟨?_, h⟩⟩
    obtain ⟨k, hk, e⟩ := (mlo z).mp h
    rw [e]
    exact cn_mem h0
  have fhi : (srtB ltP S).filter uw = hi.reverse := by
    refine sorted_eq ordP ((srtB_sorted ordP S).filter _) (List.pairwise_reverse.mpr (ihi.imp fun {a b} h => ltP_iff.mpr h)) fun z => ?_
    rw [List.mem_filter, hmem, List.mem_reverse]
    show z ∈ S ∧ decide (z ∈ hi) = true ↔ _
    rw [decide_eq_true_iff]
    refine ⟨fun h => h.2, fun h => ⟨?_, h⟩⟩
    rcases (mhi z).mp h with ⟨k, hk, hk2, e⟩ | e
    · rw [e]; exact cn_mem h0
    · rw [e]; exact cn_mem h0
  -- the first and the last
  have hfirst : ∀ z, (srtB ltP S).head? = some z → z = cn S 0 := fun z hz => by
    obtain ⟨k, hk, e⟩ := idx z ((hmem z).mp (List.mem_of_mem_head? hz))
    by_cases w : k = 0
    · rw [e, w]
    · exfalso
      have h1 := hU.lo k (by omega) hk
      have hc0 : cn S 0 ∈ srtB ltP S := (hmem _).mpr (cn_mem h0)
      cases q : srtB ltP S with
      | nil => rw [q] at hz; cases hz
      | cons y l =>
        rw [q] at hz hc0 hs
        have hyz : y = z := Option.some.inj hz
        subst hyz
        rcases List.mem_cons.mp hc0 with v | v
        · rw [← e, ← v] at h1; exact LP.irr h1
        · have := (List.pairwise_cons.mp hs).1 _ v
          rw [e] at this
          exact LP.asym h1 this
  have hlast : ∀ z, (srtB ltP S).getLast? = some z → z = cn S p := fun z hz => by
    obtain ⟨k, hk, e⟩ := idx z ((hmem z).mp (List.mem_of_getLast? hz))
    by_cases w : k = p
    · rw [e, w]
    · exfalso
      have h1 := top k hk w
      have hc0 : cn S p ∈ srtB ltP S := (hmem _).mpr (cn_mem h0)
      have hsp : srtB ltP S = (srtB ltP S).dropLast ++ [z] := (last_split hz).symm
      rw [hsp] at hc0 hs
      rcases List.mem_append.mp hc0 with v | v
      · have := (List.pairwise_append.mp hs).2.2 _ v z (by simp)
        rw [e] at this
        exact LP.asym h1 this
      · rw [List.mem_singleton.mp v, e] at h1
        exact LP.irr h1
  have hne : srtB ltP S ≠ [] := fun z => by
    have : cn S 0 ∈ srtB ltP S := (hmem _).mpr (cn_mem h0)
    rw [z] at this
    cases this
  have hlen : (srtB ltP S).length ≠ 1 := fun z => by
    obtain ⟨y, ey⟩ := List.length_eq_one_iff.mp z
    have a : cn S 0 ∈ srtB ltP S := (hmem _).mpr (cn_mem h0)
    have b : cn S p ∈ srtB ltP S := (hmem _).mpr (cn_mem h0)
    rw [ey] at a b
    have := hU.lo p hp0 hpn
    rw [List.mem_singleton.mp a, List.mem_singleton.mp b] at this
    exact LP.irr this
  have c1 : chain bendP (srtB ltP S) = lo := by
    rw [← flo]
    obtain ⟨x0, l, e⟩ := List.exists_cons_of_ne_nil hne
    have hx0 := hfirst x0 (by rw [e]; rfl)
    rw [e]
    rw [e] at hs hlast hmem
    refine chain_is ?_ (fun a b c hsub ha hb => ?_) (fun a b c hsub ha hb => ?_) fun z hz => ?_
    · exact decide_eq_true ((mlo x0).mpr ⟨0, by omega, hx0⟩)
    · obtain ⟨ab, bc, ac, ma, mb, mc⟩ := sub_pw hs hsub
      obtain ⟨i, hi, ei⟩ := (mlo a).mp (of_decide_eq_true ha)
      obtain ⟨j, hj, ej⟩ := (mlo b).mp (of_decide_eq_true hb)
      obtain ⟨k, hk, ek⟩ := idx c ((hmem c).mp mc)
      subst ei ej ek
      have hij := i1 i j hi hj ab
      refine decide_eq_true (hC.2 i j k hij ?_ hk)
      by_cases w : k ≤ p
      · exact i1 j k hj w bc
      · omega
    · obtain ⟨ab, bc, ac, ma, mb, mc⟩ := sub_pw hs hsub
      obtain ⟨i, hi, ei⟩ := (mlo a).mp (of_decide_eq_true ha)
      have hb := of_decide_eq_false hb
      obtain ⟨j, hj, ej⟩ := idx b ((hmem b).mp mb)
      obtain ⟨k, hk, ek⟩ := idx c ((hmem c).mp mc)
      subst ei ej ek
      have hjp : p < j := by
        rcases (by omega : j ≤ p ∨ p < j) with w | w
        · exact absurd ((mlo _).mpr ⟨j, w, rfl⟩) hb
        · exact w
      have hik : i < k ∧ k < j := by
        by_cases w : k ≤ p
        · exact ⟨i1 i k hi w ac, by omega⟩
        · exact ⟨by omega, i2 j k (by omega) hj (by omega) hk bc⟩
      have := hC.2 i k j hik.1 hik.2 hj
      rw [tri_swap] at this
      exact decide_eq_false (by grind)
    · rw [hlast z hz]
      exact decide_eq_true ((mlo _).mpr ⟨p, Nat.le_refl _, rfl⟩)
  have c2 : chain bendP (srtB ltP S).reverse = hi := by
    have e0 : (srtB ltP S).reverse.filter uw = hi := by rw [List.filter_reverse, fhi, List.reverse_reverse]
    rw [← e0]
    have hner : (srtB ltP S).reverse ≠ [] := by simpa using hne
    obtain ⟨x0, l, e⟩ := List.exists_cons_of_ne_nil hner
    have hx0 := hlast x0 (by rw [← List.head?_reverse, e]; rfl)
    have hsr : (x0 :: l).Pairwise fun a b => LP (a.sub b) := by rw [← e]; exact List.pairwise_reverse.mpr hs
    have hmr : ∀ z, z ∈ x0 :: l → z ∈ S := fun z hz => by rw [← e] at hz; exact (hmem z).mp (List.mem_reverse.mp hz)
    rw [e]
    refine chain_is ?_ (fun a b c hsub ha hb => ?_) (fun a b c hsub ha hb => ?_) fun z hz => ?_
    · exact decide_eq_true ((mhi x0).mpr (.inl ⟨p, Nat.le_refl _, hpn, hx0⟩))
    · obtain ⟨ab, bc, ac, ma, mb, mc⟩ := sub_pw hsr hsub
      obtain ⟨k, hk, ek⟩ := idx c (hmr c mc)
      have notm : ∀ z, z ∈ hi → LP (z.sub c) → ∃ i, p ≤ i ∧ i < S.length ∧ z = cn S i := fun z hz hlt => by
        rcases (mhi z).mp hz with h | h
        · exact h
        · exfalso
          by_cases w : k = 0
          · rw [h, ek, w] at hlt; exact LP.irr hlt
          · rw [h, ek] at hlt; exact LP.asym hlt (hU.lo k (by omega) hk)
      obtain ⟨i, hi1, hi2, ei⟩ := notm a (of_decide_eq_true ha) ac
      obtain ⟨j, hj1, hj2, ej⟩ := notm b (of_decide_eq_true hb) bc
      subst ei ej ek
      have hij := i2 j i hj1 hj2 hi1 hi2 ab
      by_cases w : k ≤ p
      · have hkp : k < p := by
          rcases (by omega : k < p ∨ k = p) with v | v
          · exact v
          · subst v
            exfalso
            by_cases v2 : j = k
            · subst v2; exact LP.irr bc
            · exact LP.asym bc (top j hj2 v2)
        have := hC.2 k i j (by omega) hij hj2
        rw [tri_rot] at this
        exact decide_eq_true this
      · have := i2 j k hj1 hj2 (by omega) hk
        refine decide_eq_true (hC.2 i j k hij ?_ hk)
        exact i2 k j (by omega) hk hj1 hj2 bc
    · obtain ⟨ab, bc, ac, ma, mb, mc⟩ := sub_pw hsr hsub
      obtain ⟨k, hk, ek⟩ := idx c (hmr c mc)
      obtain ⟨j, hj, ej⟩ := idx b (hmr b mb)
      have hb := of_decide_eq_false hb
      have hjp : 0 < j ∧ j < p := by
        constructor
        · rcases (by omega : j = 0 ∨ 0 < j) with w | w
          · exact absurd ((mhi b).mpr (.inr (by rw [ej, w]))) hb
          · exact w
        · rcases (by omega : p ≤ j ∨ j < p) with w | w
          · exact absurd ((mhi b).mpr (.inl ⟨j, w, hj, ej⟩)) hb
          · exact w
      have ⟨i, hi1, hi2, ei⟩ : ∃ i, p ≤ i ∧ i < S.length ∧ a = cn S i := by
        rcases (mhi a).mp (of_decide_eq_true ha) with h | h
        · exact h
        · exfalso
          rw [h, ej] at ab
          exact LP.asym ab (hU.lo j hjp.1 hj)
      subst ei ej ek
      have fin : 0 < tri (cn S i) (cn S k) (cn S j) → bendP (cn S i) (cn S j) (cn S k) = false := fun h => by
        rw [tri_swap] at h
        exact decide_eq_false (by grind)
      by_cases w : k ≤ p
      · have hkj := i1 k j w (by omega) bc
        have := hC.2 k j i hkj (by omega) hi2
        rw [← tri_rot] at this
        exact fin this
      · have hki := i2 k i (by omega) hk hi1 hi2 ac
        have := hC.2 j i k (by omega) hki hk
        rw [tri_rot] at this
        exact fin this
    · have : z = cn S 0 := hfirst z (by rw [← List.getLast?_reverse, e]; exact hz)
      exact decide_eq_true ((mhi z).mpr (.inr this))
  unfold hullP
  rw [if_neg hlen, c1, c2]
  show ((List.range (p + 1)).map (cn S)).dropLast ++ (((List.range (S.length - p)).map fun k => cn S (p + k)) ++ [cn S 0]).dropLast = S
  rw [List.dropLast_concat, List.range_succ, List.map_append, List.map_cons, List.map_nil, List.dropLast_concat]
  conv => rhs; rw [← list_cn S]
  have er : List.range S.length = List.range p ++ (List.range (S.length - p)).map (p + ·) := by
    rw [← List.range_add]
    congr 1
    omega
  rw [er, List.map_append, List.map_map]
  rfl
/-! hulls of moved points, few corners -/
theorem ltP_mv (p q w : P2) : ltP (p.add w) (q.add w) = ltP p q := by
  cases h : ltP p q with
  | true => rw [ltP_iff, sub_mv]; exact ltP_iff.mp h
  | false =>
    cases k : ltP (p.add w) (q.add w) with
    | false => rfl
    | true => rw [ltP_iff, sub_mv, ← ltP_iff, h] at k; cases k
theorem hull_mv (ps : List P2) (w : P2) : hullP (ps.map fun q => q.add w) = (hullP ps).map fun q => q.add w := by
  have e : srtB ltP (ps.map fun q => q.add w) = (srtB ltP ps).map fun q => q.add w := srtB_map ordP ordP fun x _ y _ => ltP_mv x y w
  have c1 : ∀ l : List P2, chain bendP (l.map fun q => q.add w) = (chain bendP l).map fun q => q.add w := fun l => chain_map fun a _ b _ c _ => by unfold bendP; rw [tri_mv]
  unfold hullP
  rw [e, List.length_map]
  split
  · rfl
  · rw [← List.map_reverse, c1, c1, List.map_append, List.map_dropLast, List.map_dropLast]
theorem cn_inj {S : List P2} (hC : Conv S) {i j : Nat} (hi : i < S.length) (hj : j < S.length) (h : cn S i = cn S j) : i = j := by
  have h3 := hC.1
  have key : ∀ i j, i < j → j < S.length → cn S i ≠ cn S j := fun i j hij hj h => by
    by_cases q : j + 1 < S.length
    · have := hC.2 i j (j + 1) hij (by omega) q
      rw [h, (tri_self _ _).2.2] at this
      exact absurd this (by decide)
    · by_cases q2 : 0 < i
      · have := hC.2 0 i j q2 hij hj
        rw [h, (tri_self _ _).2.1] at this
        exact absurd this (by decide)
      · have := hC.2 i (i + 1) j (by omega) (by omega) hj
        rw [h, (tri_self _ _).1] at this
        exact absurd this (by decide)
  rcases Nat.lt_trichotomy i j with w | w | w
  · exact absurd h (key i j w hj)
  · exact w
  · exact absurd h.symm (key j i w hi)
theorem conv_nodup {S : List P2} (hC : Conv S) : S.Nodup := by
  rw [← list_cn S]
  refine List.pairwise_map.mpr (List.Pairwise.imp_of_mem (fun {i j} hi hj (h : i < j) e => ?_) List.pairwise_lt_range)
  have := cn_inj hC (List.mem_range.mp hi) (List.mem_range.mp hj) e
  omega
theorem nodup_le {l : List P2} : ∀ {s : List P2}, s.Nodup → (∀ z ∈ s, z ∈ l) → s.length ≤ l.length := by
  intro s
  induction s generalizing l with
  | nil => intro _ _; exact Nat.zero_le _
  | cons x s ih =>
    intro h1 h2
    obtain ⟨a, b⟩ := List.nodup_cons.mp h1
    have hx := h2 x List.mem_cons_self
    have := ih (l := l.erase x) b fun z hz => (List.mem_erase_of_ne (fun (e : z = x) => a (by rw [← e]; exact hz))).mpr (h2 z (List.mem_cons_of_mem _ hz))
    rw [List.length_erase_of_mem hx] at this
    have : 0 < l.length := List.length_pos_of_mem hx
    rw [List.length_cons]
    omega
theorem hull_few {ps : List P2} (h : 3 ≤ (hullP ps).length) : (hullP ps).length ≤ ps.length := nodup_le (conv_nodup (hull_conv h).1) fun z hz => hullP_sub hz
/-- three points that do not lie on a line -/
theorem hull_three {a b c : P2} (hab : LP (b.sub a)) (ht : 0 < tri a b c) : 3 ≤ (hullP [a, b, c]).length := by
  have hC : ∀ x y z : P2, LP (y.sub x) → LP (z.sub y) → tri x y z ≠ 0 → ∀ ps : List P2, (∀ w, w ∈ ps ↔ w = x ∨ w = y ∨ w = z) → 3 ≤ (hullP ps).length := fun x y z h1 h2 h3 ps hm => by
    have e : srtB ltP ps = [x, y, z] := by
      refine srtB_of ordP ?_ fun w => ?_
      · simp only [List.pairwise_cons, List.mem_cons, List.not_mem_nil, or_false, forall_eq_or_imp, forall_eq]
        exact ⟨⟨ltP_iff.mpr h1, ltP_iff.mpr (h1.tr h2)⟩, ltP_iff.mpr h2, by simp⟩
      · rw [hm]; simp
    unfold hullP
    rw [e]
    have e2 : chain bendP [x, y, z] = if 0 < tri x y z then [x, y, z] else [x, z] := by
      unfold chain chainR
      simp only [List.foldl_cons, List.foldl_nil, stepR, popR]
      unfold bendP
      by_cases q : 0 < tri x y z
      · rw [if_pos q, if_pos (decide_eq_true q)]; rfl
      · rw [if_neg q, if_neg (by rw [decide_eq_false q]; decide)]; rfl
    have e3 : chain bendP [z, y, x] = if 0 < tri z y x then [z, y, x] else [z, x] := by
      unfold chain chainR
      simp only [List.foldl_cons, List.foldl_nil, stepR, popR]
      unfold bendP
      by_cases q : 0 < tri z y x
      · rw [if_pos q, if_pos (decide_eq_true q)]; rfl
      · rw [if_neg q, if_neg (by rw [decide_eq_false q]; decide)]; rfl
    have es : tri z y x = -tri x y z := by rw [tri_rot, tri_rot, tri_swap]
    show 3 ≤ (if [x, y, z].length = 1 then [x, y, z] else (chain bendP [x, y, z]).dropLast ++ (chain bendP [z, y, x]).dropLast).length
    rw [if_neg (by simp), e2, e3, es]
    by_cases q : 0 < tri x y z
    · rw [if_pos q, if_neg (by grind)]; simp
    · rw [if_neg q, if_pos (by grind)]; simp
  have tot : ∀ p q : P2, p ≠ q → LP (q.sub p) ∨ LP (p.sub q) := fun p q h => by
    unfold LP
    simp only [P2.sub]
    by_cases e : p.x = q.x
    · have : p.y ≠ q.y := fun w => h (P2.eq e w)
      grind
    · grind
  have hac : a ≠ c := fun z => by rw [z, (tri_self _ _).1] at ht; exact absurd ht (by decide)
  have hbc : b ≠ c := fun z => by rw [z, (tri_self _ _).2.1] at ht; exact absurd ht (by decide)
  rcases tot b c hbc with h | h
  · exact hC a b c hab h (by grind) _ (by simp)
  · rcases tot a c hac with k | k
    · exact hC a c b k h (by rw [tri_swap]; grind) _ (by simp; grind)
    · exact hC c a b k hab (by rw [tri_rot]; grind) _ (by simp; grind)
end Hull
namespace Hull
open PySem
/-! small points: sixths -/
structure Gp (m : Nat) (p : P2) : Prop where
  ex : ∃ x : Int, p.x = (x : Rat) / 6 ∧ x.natAbs ≤ m
  ey : ∃ y : Int, p.y = (y : Rat) / 6 ∧ y.natAbs ≤ m
def Gs (m : Nat) (S : List P2) : Prop := ∀ p ∈ S, Gp m p
theorem Gp.mono {m k : Nat} {p : P2} (h : Gp m p) (hk : m ≤ k) : Gp k p := by
  obtain ⟨⟨x, e, hx⟩, ⟨y, e', hy⟩⟩ := h
  exact ⟨⟨x, e, Nat.le_trans hx hk⟩, ⟨y, e', Nat.le_trans hy hk⟩⟩
theorem Gp.add {m k : Nat} {p q : P2} (h : Gp m p) (h2 : Gp k q) : Gp (m + k) (p.add q) := by
  obtain ⟨⟨x, e, hx⟩, ⟨y, e', hy⟩⟩ := h
  obtain ⟨⟨u, f, hu⟩, ⟨v, f', hv⟩⟩ := h2
  refine ⟨⟨x + u, ?_, by omega⟩, ⟨y + v, ?_, by omega⟩⟩
  · show p.x + q.x = _
    rw [e, f, Rat.intCast_add]; grind
  · show p.y + q.y = _
    rw [e', f', Rat.intCast_add]; grind
theorem Gp.mir {m : Nat} {p : P2} (h : Gp m p) : Gp m p.mir := by
  obtain ⟨⟨x, e, hx⟩, hy⟩ := h
  refine ⟨⟨-x, ?_, by omega⟩, hy⟩
  show -p.x = _
  rw [e, Rat.intCast_neg]; grind
theorem Gp.int {m : Nat} {a b : Int} (ha : 6 * a.natAbs ≤ m) (hb : 6 * b.natAbs ≤ m) : Gp m ⟨(a : Rat), (b : Rat)⟩ := by
  refine ⟨⟨6 * a, ?_, by omega⟩, ⟨6 * b, ?_, by omega⟩⟩
  · show (a : Rat) = _
    rw [Rat.intCast_mul]
    show (a : Rat) = (6 : Rat) * a / 6
    grind
  · show (b : Rat) = _
    rw [Rat.intCast_mul]
    show (b : Rat) = (6 : Rat) * b / 6
    grind
theorem Gp.part {k : Nat} {a b d : Int} (hd : d = 1 ∨ d = 2 ∨ d = 3) (ha : a.natAbs ≤ k * d.natAbs) (hb : b.natAbs ≤ k * d.natAbs) : Gp (6 * k) ⟨(a : Rat) / (d : Rat), (b : Rat) / (d : Rat)⟩ := by
  have key : ∀ a : Int, a.natAbs ≤ k * d.natAbs → ∃ x : Int, (a : Rat) / (d : Rat) = (x : Rat) / 6 ∧ x.natAbs ≤ 6 * k := fun a ha => by
    rcases hd with rfl | rfl | rfl
    · have ha : a.natAbs ≤ k * 1 := ha
      refine ⟨6 * a, ?_, by omega⟩
      rw [Rat.intCast_mul]
      show (a : Rat) / (1 : Rat) = (6 : Rat) * a / 6
      grind
    · have ha : a.natAbs ≤ k * 2 := ha
      refine ⟨3 * a, ?_, by omega⟩
      rw [Rat.intCast_mul]
      show (a : Rat) / (2 : Rat) = (3 : Rat) * a / 6
      grind
    · have ha : a.natAbs ≤ k * 3 := ha
      refine ⟨2 * a, ?_, by omega⟩
      rw [Rat.intCast_mul]
      show (a : Rat) / (3 : Rat) = (2 : Rat) * a / 6
      grind
  exact ⟨key a ha, key b hb⟩
theorem B_le {k m : Nat} {a : Int} (h : a.natAbs ≤ m) (hm : m < 2 ^ k) : B k a := Nat.lt_of_le_of_lt h hm
theorem Gp.pm {m k : Nat} {p : P2} (h : Gp m p) (hm : m < 2 ^ k) (hk : 6 < 2 ^ k) : Pm k p := by
  obtain ⟨⟨x, e, hx⟩, ⟨y, e', hy⟩⟩ := h
  have : p = ⟨(x : Rat) / ((6 : Int) : Rat), (y : Rat) / ((6 : Int) : Rat)⟩ := P2.eq e e'
  rw [this]
  exact Pm_mk (by decide) (B_le hx hm) (B_le hy hm) (B_le (m := 6) (by decide) hk)
theorem Gs.ps {m k : Nat} {S : List P2} (h : Gs m S) (hm : m < 2 ^ k) (hk : 6 < 2 ^ k) : Ps k S := fun p hp => (h p hp).pm hm hk
theorem prodW_le {k : Nat} : ∀ {S : List P2}, Ps k S → prodW S ≤ 2 ^ (k * S.length)
  | [], _ => by show 1 ≤ 2 ^ (k * 0); simp
  | p :: S, h => by
    have ih := prodW_le (S := S) fun q hq => h q (List.mem_cons_of_mem _ hq)
    have hw := (h p List.mem_cons_self).w
    unfold B at hw
    rw [Int.natAbs_natCast] at hw
    show p.W * prodW S ≤ 2 ^ (k * (S.length + 1))
    rw [Nat.mul_add, Nat.mul_one, Nat.add_comm, Nat.pow_add]
    exact Nat.mul_le_mul (Nat.le_of_lt hw) ih
theorem grid_small {k l : Nat} {S : List P2} (h : Ps k S) (hl : S.length ≤ l) (hk : k * l < 3000) : grid S < 2 ^ 3000 := by
  refine Nat.lt_of_le_of_lt (grid_le S) (Nat.lt_of_le_of_lt (prodW_le h) ?_)
  exact Nat.pow_lt_pow_right (by decide) (Nat.lt_of_le_of_lt (Nat.mul_le_mul_left k hl) hk)
theorem Gs.grid {m : Nat} {S : List P2} (h : Gs m S) (hm : m < 2 ^ 10) (hl : S.length ≤ 64) : Hull.grid S < 2 ^ 3000 := grid_small (h.ps hm (by decide)) hl (by decide)
theorem Gs.app {m : Nat} {S T : List P2} (h : Gs m S) (h2 : Gs m T) : Gs m (S ++ T) := fun p hp => (List.mem_append.mp hp).elim (h p) (h2 p)
theorem Gs.sub {m : Nat} {S T : List P2} (h : Gs m S) (hs : ∀ p ∈ T, p ∈ S) : Gs m T := fun p hp => h p (hs p hp)
theorem Gs.hull {m : Nat} {S : List P2} (h : Gs m S) : Gs m (hullP S) := fun p hp => h p (hullP_sub hp)
theorem encP_int (a b : Int) : encP ⟨(a : Rat), (b : Rat)⟩ = .tuple [.int a, .int b, .int 1] := by
  have h := red_pt (x := a) (y := b) (w := 1) (by decide) (Nat.gcd_one_right _)
  have e : ∀ c : Int, (c : Rat) / ((1 : Nat) : Rat) = (c : Rat) := fun c => by
    show (c : Rat) / (1 : Rat) = c
    grind
  rw [e, e] at h
  unfold encP
  rw [h.1, h.2.1, h.2.2]
  rfl
theorem mir_pt (p : P2) : (⟨((0 - p.X : Int) : Rat) / (((p.W : Nat) : Int) : Rat), (p.Y : Rat) / (((p.W : Nat) : Int) : Rat)⟩ : P2) = p.mir := by
  refine P2.eq ?_ ?_
  · show _ = -p.x
    rw [x_of p, Int.zero_sub, Rat.intCast_neg, Rat.intCast_natCast]
    have := W_ne p
    grind
  · show _ = p.y
    rw [y_of p, Rat.intCast_natCast]
end Hull
namespace Hull
open PySem
/-! areas by triangles -/
abbrev pz : P2 := ⟨0, 0⟩
def fan (ps : List P2) : Nat → Rat
  | 0 => 0
  | k + 1 => fan ps k + tri (ps.getD 0 pz) (ps.getD (k + 1) pz) (ps.getD (k + 2) pz)
theorem fan_path (x : P2) (l : List P2) : ∀ k, k + 2 ≤ (x :: l).length → fan (x :: l) k = pathP x ((x :: l).take (k + 2))
  | 0, h => by
    match l, h with
    | y :: l, _ =>
      show (0 : Rat) = tri x x y + 0
      rw [(tri_self _ _).2.2]
      grind
  | k + 1, h => by
    have ih := fan_path x l k (by omega)
    have e : (x :: l).take (k + 3) = (x :: l).take (k + 1) ++ [(x :: l).getD (k + 1) pz, (x :: l).getD (k + 2) pz] := by
      rw [List.take_succ, List.take_succ, List.append_assoc]
      congr 1
      rw [getD_at (l := x :: l) (i := k + 1) (by omega), getD_at (l := x :: l) (i := k + 1 + 1) (by omega)]
      rfl
    have e2 : (x :: l).take (k + 2) = (x :: l).take (k + 1) ++ [(x :: l).getD (k + 1) pz] := by
      rw [List.take_succ]
      congr 1
      rw [getD_at (l := x :: l) (i := k + 1) (by omega)]
      rfl
    rw [show k + 1 + 2 = k + 3 from rfl, e, path_app, ← e2, ← ih]
    rfl
theorem fan_shoe (ps : List P2) (h : 2 ≤ ps.length) : fan ps (ps.length - 2) = shoe ps := by
  match ps, h with
  | x :: y :: l, h =>
    rw [fan_path x (y :: l) _ (by simp only [List.length_cons]; omega), shoe_path x]
    have e : (x :: y :: l).length - 2 + 2 = (x :: y :: l).length := by simp only [List.length_cons]; omega
    rw [e, List.take_length]
    obtain ⟨m, z, hz⟩ : ∃ m z, x :: y :: l = m ++ [z] := by
      have hne : x :: y :: l ≠ [] := by simp
      exact ⟨_, _, (List.dropLast_concat_getLast hne).symm⟩
    rw [hz, List.append_assoc]
    show _ = pathP x (m ++ [z, x])
    rw [path_app, (tri_self _ _).1]
    grind
theorem fan_area (ps : List P2) (h : 2 ≤ ps.length) : fan ps (ps.length - 2) * (1 / 2) = area ps := by
  rw [fan_shoe ps h]
  unfold area
  grind
/-! the middle -/
def midX (ps : List P2) : Nat → Rat
  | 0 => 0
  | k + 1 => midX ps k + tri (ps.getD 0 pz) (ps.getD (k + 1) pz) (ps.getD (k + 2) pz) * (((ps.getD 0 pz).add (ps.getD (k + 1) pz)).add (ps.getD (k + 2) pz)).x
def midY (ps : List P2) : Nat → Rat
  | 0 => 0
  | k + 1 => midY ps k + tri (ps.getD 0 pz) (ps.getD (k + 1) pz) (ps.getD (k + 2) pz) * (((ps.getD 0 pz).add (ps.getD (k + 1) pz)).add (ps.getD (k + 2) pz)).y
def middle (ps : List P2) : P2 := ⟨midX ps (ps.length - 2) / (fan ps (ps.length - 2) * 3), midY ps (ps.length - 2) / (fan ps (ps.length - 2) * 3)⟩
theorem getD_cn {S : List P2} {i : Nat} (h : i < S.length) : S.getD i pz = cn S i := by
  have := cn_get h
  rw [getD_at h] at this
  exact Option.some.inj this
theorem fan_pos {S : List P2} (hC : Conv S) : ∀ k, k + 2 ≤ S.length → 0 ≤ fan S k ∧ (0 < k → 0 < fan S k)
  | 0, _ => ⟨Rat.le_refl, fun h => absurd h (Nat.lt_irrefl 0)⟩
  | k + 1, h => by
    have ih := (fan_pos hC k (by omega)).1
    have := hC.2 0 (k + 1) (k + 2) (by omega) (by omega) (by omega)
    have e : fan S (k + 1) = fan S k + tri (cn S 0) (cn S (k + 1)) (cn S (k + 2)) := by
      show fan S k + tri (S.getD 0 pz) (S.getD (k + 1) pz) (S.getD (k + 2) pz) = _
      rw [getD_cn (by omega), getD_cn (by omega), getD_cn (by omega)]
    rw [e]
    exact ⟨by grind, fun _ => by grind⟩
/-- the line of an edge over the sums -/
theorem mid_edge {S : List P2} (hC : Conv S) {i : Nat} (hi : i < S.length) : ∀ k, k + 2 ≤ S.length →
    0 ≤ tri (cn S i) (cn S (i + 1)) pz * (fan S k * 3) + ((eg S i).x * midY S k - (eg S i).y * midX S k) ∧ (0 < k → 0 < tri (cn S i) (cn S (i + 1)) pz * (fan S k * 3) + ((eg S i).x * midY S k - (eg S i).y * midX S k))
  | 0, _ => by
    refine ⟨?_, fun h => absurd h (Nat.lt_irrefl 0)⟩
    simp only [fan, midX, midY]
    grind
  | k + 1, h => by
    have ih := (mid_edge hC hi k (by omega)).1
    have w := hC.2 0 (k + 1) (k + 2) (by omega) (by omega) (by omega)
    have a := hC.edge hi (k := 0) (by omega)
    have b := hC.edge hi (k := k + 1) (by omega)
    have c := hC.edge hi (k := k + 2) (by omega)
    have hs : 0 < tri (cn S i) (cn S (i + 1)) (cn S 0) + tri (cn S i) (cn S (i + 1)) (cn S (k + 1)) + tri (cn S i) (cn S (i + 1)) (cn S (k + 2)) := by
      have a1 := a.1
      have b1 := b.1
      have c1 := c.1
      by_cases qa : tri (cn S i) (cn S (i + 1)) (cn S 0) = 0
      · by_cases qb : tri (cn S i) (cn S (i + 1)) (cn S (k + 1)) = 0
        · by_cases qc : tri (cn S i) (cn S (i + 1)) (cn S (k + 2)) = 0
          · have ka := a.2 qa
            have kb := b.2 qb
            have kc := c.2 qc
            exfalso
            omega
          · grind
        · grind
      · grind
    have e1 : fan S (k + 1) = fan S k + tri (cn S 0) (cn S (k + 1)) (cn S (k + 2)) := by
      show fan S k + tri (S.getD 0 pz) (S.getD (k + 1) pz) (S.getD (k + 2) pz) = _
      rw [getD_cn (by omega), getD_cn (by omega), getD_cn (by omega)]
    have e2 : midX S (k + 1) = midX S k + tri (cn S 0) (cn S (k + 1)) (cn S (k + 2)) * ((cn S 0).x + (cn S (k + 1)).x + (cn S (k + 2)).x) := by
      show midX S k + tri (S.getD 0 pz) (S.getD (k + 1) pz) (S.getD (k + 2) pz) * _ = _
      rw [getD_cn (by omega), getD_cn (by omega), getD_cn (by omega)]
      rfl
    have e3 : midY S (k + 1) = midY S k + tri (cn S 0) (cn S (k + 1)) (cn S (k + 2)) * ((cn S 0).y + (cn S (k + 1)).y + (cn S (k + 2)).y) := by
      show midY S k + tri (S.getD 0 pz) (S.getD (k + 1) pz) (S.getD (k + 2) pz) * _ = _
      rw [getD_cn (by omega), getD_cn (by omega), getD_cn (by omega)]
      rfl
    have hp := mul_pos' w hs
    have key : ∀ p : P2, tri (cn S i) (cn S (i + 1)) p = tri (cn S i) (cn S (i + 1)) pz + ((eg S i).x * p.y - (eg S i).y * p.x) := fun p => by simp only [tri, eg, cr, P2.sub]; grind
    rw [key (cn S 0), key (cn S (k + 1)), key (cn S (k + 2))] at hp
    rw [e1, e2, e3]
    generalize tri (cn S 0) (cn S (k + 1)) (cn S (k + 2)) = w at *
    generalize tri (cn S i) (cn S (i + 1)) pz = z at *
    constructor
    · grind
    · intro _; grind
theorem middle_in {S : List P2} (hC : Conv S) : Ins S (middle S) := fun i hi => by
  have h3 := hC.1
  have hT := (fan_pos hC (S.length - 2) (by omega)).2 (by omega)
  have hE := (mid_edge hC hi (S.length - 2) (by omega)).2 (by omega)
  have key : tri (cn S i) (cn S (i + 1)) (middle S) = tri (cn S i) (cn S (i + 1)) pz + ((eg S i).x * (middle S).y - (eg S i).y * (middle S).x) := by simp only [tri, eg, cr, P2.sub]; grind
  rw [key]
  unfold middle
  generalize tri (cn S i) (cn S (i + 1)) pz = z at *
  generalize fan S (S.length - 2) = T at *
  generalize midX S (S.length - 2) = X at *
  generalize midY S (S.length - 2) = Y at *
  have hT3 : 0 < T * 3 := by grind
  have e : z + ((eg S i).x * (Y / (T * 3)) - (eg S i).y * (X / (T * 3))) = (z * (T * 3) + ((eg S i).x * Y - (eg S i).y * X)) / (T * 3) := by
    have : T * 3 ≠ 0 := by grind
    grind
  show 0 < z + ((eg S i).x * (Y / (T * 3)) - (eg S i).y * (X / (T * 3)))
  rw [e, Rat.div_def]
  exact mul_pos' hE (Rat.inv_pos.mpr hT3)
def along (p q : P2) (t : Rat) : P2 := p.add ((q.sub p).mul t)
theorem along_in {S : List P2} {P : P2} (hC : Conv S) (hI : Ins S P) {k : Nat} (hk : k < S.length) {t : Rat} (h0 : 0 ≤ t) (h1 : t < 1) : Ins S (along P (cn S k) t) := fun i hi => by
  have a := hI i hi
  have b := (hC.edge hi hk).1
  have e : tri (cn S i) (cn S (i + 1)) (along P (cn S k) t) = (1 - t) * tri (cn S i) (cn S (i + 1)) P + t * tri (cn S i) (cn S (i + 1)) (cn S k) := by simp only [tri, cr, along, P2.sub, P2.add, P2.mul]; grind
  rw [e]
  have p1 : 0 < (1 - t) * tri (cn S i) (cn S (i + 1)) P := mul_pos' (by grind) a
  have p2 : 0 ≤ t * tri (cn S i) (cn S (i + 1)) (cn S k) := mul_nn h0 b
  grind
/-! sizes -/
theorem Sm_int {k : Nat} {a : Int} (h : B k a) (hk : 0 < k) : Sm k (a : Rat) := by
  refine ⟨by rw [Rat.num_intCast]; exact h, ?_⟩
  rw [Rat.den_intCast]
  exact B.one hk
theorem Pm.sx {k : Nat} {p : P2} (h : Pm k p) : Sm k p.x := by
  rw [x_of p]
  have := Sm_div (n := p.X) (m := (p.W : Int)) (W_ne' p) h.x h.w
  rw [Rat.intCast_natCast] at this
  exact this
theorem Pm.sy {k : Nat} {p : P2} (h : Pm k p) : Sm k p.y := by
  rw [y_of p]
  have := Sm_div (n := p.Y) (m := (p.W : Int)) (W_ne' p) h.y h.w
  rw [Rat.intCast_natCast] at this
  exact this
/-- twice the area of a triangle of sixths -/
theorem tri_gp {m : Nat} {p q r : P2} (hp : Gp m p) (hq : Gp m q) (hr : Gp m r) : ∃ n : Int, tri p q r = (n : Rat) / 36 ∧ n.natAbs ≤ 8 * (m * m) := by
  obtain ⟨⟨a, ea, ha⟩, ⟨b, eb, hb⟩⟩ := hp
  obtain ⟨⟨c, ec, hc⟩, ⟨d, ed, hd⟩⟩ := hq
  obtain ⟨⟨e, ee, he⟩, ⟨f, ef, hf⟩⟩ := hr
  refine ⟨(c - a) * (f - b) - (d - b) * (e - a), ?_, ?_⟩
  · simp only [tri, cr, P2.sub, ea, eb, ec, ed, ee, ef, Rat.intCast_sub, Rat.intCast_mul]
    grind
  · have h1 : ((c - a) * (f - b)).natAbs ≤ (2 * m) * (2 * m) := by
      rw [Int.natAbs_mul]; exact Nat.mul_le_mul (by omega) (by omega)
    have h2 : ((d - b) * (e - a)).natAbs ≤ (2 * m) * (2 * m) := by
      rw [Int.natAbs_mul]; exact Nat.mul_le_mul (by omega) (by omega)
    have e4 : (2 * m) * (2 * m) = 4 * (m * m) := by rw [Nat.mul_mul_mul_comm]
    omega
theorem sum_gp {m : Nat} {p q r : P2} (hp : Gp m p) (hq : Gp m q) (hr : Gp m r) : Gp (m + m + m) ((p.add q).add r) := (hp.add hq).add hr
theorem getD_gs {m : Nat} {S : List P2} (h : Gs m S) {i : Nat} (hi : i < S.length) : Gp m (S.getD i pz) := h _ (by
  have := getD_at hi
  exact List.mem_of_getElem? this)
theorem fan_gp {S : List P2} (h : Gs 100 S) : ∀ k, k + 2 ≤ S.length → ∃ n : Int, fan S k = (n : Rat) / 36 ∧ n.natAbs ≤ k * 80000
  | 0, _ => ⟨0, by show (0 : Rat) = (0 : Rat) / 36; grind, by decide⟩
  | k + 1, hk => by
    obtain ⟨n, e, hn⟩ := fan_gp h k (by omega)
    obtain ⟨t, et, ht⟩ := tri_gp (getD_gs h (i := 0) (by omega)) (getD_gs h (i := k + 1) (by omega)) (getD_gs h (i := k + 2) (by omega))
    refine ⟨n + t, ?_, by omega⟩
    show fan S k + _ = _
    rw [e, et, Rat.intCast_add]
    grind
theorem mid_gp {S : List P2} (h : Gs 100 S) : ∀ k, k + 2 ≤ S.length → (∃ n : Int, midX S k = (n : Rat) / 216 ∧ n.natAbs ≤ k * 24000000) ∧ ∃ n : Int, midY S k = (n : Rat) / 216 ∧ n.natAbs ≤ k * 24000000
  | 0, _ => ⟨⟨0, by show (0 : Rat) = (0 : Rat) / 216; grind, by decide⟩, ⟨0, by show (0 : Rat) = (0 : Rat) / 216; grind, by decide⟩⟩
  | k + 1, hk => by
    obtain ⟨⟨n, e, hn⟩, ⟨n', e', hn'⟩⟩ := mid_gp h k (by omega)
    obtain ⟨t, et, ht⟩ := tri_gp (getD_gs h (i := 0) (by omega)) (getD_gs h (i := k + 1) (by omega)) (getD_gs h (i := k + 2) (by omega))
    obtain ⟨⟨x, ex, hx⟩, ⟨y, ey, hy⟩⟩ := sum_gp (getD_gs h (i := 0) (by omega)) (getD_gs h (i := k + 1) (by omega)) (getD_gs h (i := k + 2) (by omega))
    have hm : ∀ z : Int, z.natAbs ≤ 100 + 100 + 100 → (t * z).natAbs ≤ 24000000 := fun z hz => by
      rw [Int.natAbs_mul]
      exact Nat.le_trans (Nat.mul_le_mul ht hz) (by decide)
    have h1 := hm x hx
    have h2 := hm y hy
    constructor
    · refine ⟨n + t * x, ?_, by omega⟩
      show midX S k + _ * _ = _
      rw [e, et, ex, Rat.intCast_add, Rat.intCast_mul]
      grind
    · refine ⟨n' + t * y, ?_, by omega⟩
      show midY S k + _ * _ = _
      rw [e', et, ey, Rat.intCast_add, Rat.intCast_mul]
      grind
theorem fan_sm {S : List P2} (h : Gs 100 S) (h8 : S.length ≤ 8) {k : Nat} (hk : k + 2 ≤ S.length) : Sm 20 (fan S k) := by
  obtain ⟨n, e, hn⟩ := fan_gp h k hk
  rw [e]
  exact Sm_div (m := 36) (by decide) (B_le (m := 600000) (by omega) (by decide)) (B.lit (by decide))
theorem mid_sm {S : List P2} (h : Gs 100 S) (h8 : S.length ≤ 8) {k : Nat} (hk : k + 2 ≤ S.length) : Sm 30 (midX S k) ∧ Sm 30 (midY S k) := by
  obtain ⟨⟨n, e, hn⟩, ⟨n', e', hn'⟩⟩ := mid_gp h k hk
  rw [e, e']
  exact ⟨Sm_div (m := 216) (by decide) (B_le (m := 200000000) (by omega) (by decide)) (B.lit (by decide)), Sm_div (m := 216) (by decide) (B_le (m := 200000000) (by omega) (by decide)) (B.lit (by decide))⟩
theorem middle_pm {S : List P2} (hC : Conv S) (h : Gs 100 S) (h8 : S.length ≤ 8) : Pm 28 (middle S) := by
  have h3 := hC.1
  have hT := (fan_pos hC (S.length - 2) (by omega)).2 (by omega)
  obtain ⟨t, et, ht⟩ := fan_gp h (S.length - 2) (by omega)
  obtain ⟨⟨n, e, hn⟩, ⟨n', e', hn'⟩⟩ := mid_gp h (S.length - 2) (by omega)
  have ht0 : t ≠ 0 := fun z => by
    rw [et, z] at hT
    have : ((0 : Int) : Rat) = 0 := rfl
    rw [this] at hT
    grind
  have ht' := int_ne ht0
  have e1 : middle S = ⟨(n : Rat) / ((18 * t : Int) : Rat), (n' : Rat) / ((18 * t : Int) : Rat)⟩ := by
    have e18 : ((18 * t : Int) : Rat) = 18 * (t : Rat) := by rw [Rat.intCast_mul]; rfl
    rw [e18]
    refine P2.eq ?_ ?_
    · show midX S _ / (fan S _ * 3) = _
      rw [et, e]
      grind
    · show midY S _ / (fan S _ * 3) = _
      rw [et, e']
      grind
  rw [e1]
  exact Pm_mk (by omega) (B_le (m := 144000000) (by omega) (by decide)) (B_le (m := 144000000) (by omega) (by decide)) (B_le (m := 9000000) (by omega) (by decide))
/-- on the way to a corner, in sixths -/
theorem along_pm {k : Nat} {p q : P2} (hp : Pm k p) (hq : Gp 100 q) {j : Nat} (hj : j ≤ 6) : Pm (k + 10) (along p q ((j : Rat) / 6)) := by
  obtain ⟨⟨x, ex, hx⟩, ⟨y, ey, hy⟩⟩ := hq
  have hW := W_ne p
  have hW' := W_ne' p
  have e : along p q ((j : Rat) / 6) = ⟨((6 * (6 - (j : Int)) * p.X + (j : Int) * x * (p.W : Int) : Int) : Rat) / ((36 * (p.W : Int) : Int) : Rat), ((6 * (6 - (j : Int)) * p.Y + (j : Int) * y * (p.W : Int) : Int) : Rat) / ((36 * (p.W : Int) : Int) : Rat)⟩ := by
    have e36 : ((36 * (p.W : Int) : Int) : Rat) = 36 * (p.W : Rat) := by rw [Rat.intCast_mul, Rat.intCast_natCast]; rfl
    have e6 : ((6 - (j : Int) : Int) : Rat) = 6 - (j : Rat) := by rw [Rat.intCast_sub, Rat.intCast_natCast]; rfl
    have e66 : ((6 : Int) : Rat) = 6 := rfl
    rw [e36]
    simp only [Rat.intCast_add, Rat.intCast_mul, Rat.intCast_natCast, e6, e66]
    refine P2.eq ?_ ?_
    · show p.x + (q.x - p.x) * ((j : Rat) / 6) = _
      rw [ex, x_of p]
      grind
    · show p.y + (q.y - p.y) * ((j : Rat) / 6) = _
      rw [ey, y_of p]
      grind
  rw [e]
  have hj1 : B 3 (6 - (j : Int)) := B_le (m := 6) (by omega) (by decide)
  have hj2 : B 3 (j : Int) := B_le (m := 6) (by omega) (by decide)
  have h6 : B 3 (6 : Int) := B.lit (by decide)
  have hb : ∀ a c : Int, B k a → c.natAbs ≤ 100 → B (k + 10) (6 * (6 - (j : Int)) * a + (j : Int) * c * (p.W : Int)) := fun a c ha hc => by
    have h36 : (6 * (6 - (j : Int))).natAbs ≤ 36 := by omega
    have h600 : ((j : Int) * c).natAbs ≤ 600 := by
      rw [Int.natAbs_mul, Int.natAbs_natCast]
      exact Nat.mul_le_mul hj hc
    have hw := hp.w
    unfold B at *
    have a1 : (6 * (6 - (j : Int)) * a).natAbs ≤ 36 * a.natAbs := by rw [Int.natAbs_mul]; exact Nat.mul_le_mul_right _ h36
    have a2 : ((j : Int) * c * (p.W : Int)).natAbs ≤ 600 * (p.W : Int).natAbs := by rw [Int.natAbs_mul]; exact Nat.mul_le_mul_right _ h600
    have := Int.natAbs_add_le (6 * (6 - (j : Int)) * a) ((j : Int) * c * (p.W : Int))
    have e1 : 2 ^ (k + 10) = 2 ^ k * 1024 := by rw [Nat.pow_add]
    omega
  refine Pm_mk (by omega) (hb _ _ hp.x hx) (hb _ _ hp.y hy) ?_
  have hw := hp.w
  unfold B at *
  have e1 : 2 ^ (k + 10) = 2 ^ k * 1024 := by rw [Nat.pow_add]
  omega
end Hull
set_option maxHeartbeats 4000000
namespace Hull
open PySem PySem.Spec PyProof.Rows L2

/-! further rules -/
def CDivX (_ j : Int) : Prop := j ≠ 0 ∧ j.natAbs.log2 < 9000
theorem op_fdivX {X : Cx} : OpR X (binaryOp .FloorDiv) (rI CDivX fun i j => .int (i.fdiv j)) := opI fun _ _ _ _ _ _ _ hc q => floordiv_int hc.1 q (.inl (PyProof.noPylong_of_log2 hc.2))
theorem dv {i j : Int} {k : Nat} (h : j ≠ 0) (hb : B k j) (h0 : 0 < k) (hk : k ≤ 9000) : CDivX i j := ⟨h, Nat.lt_of_lt_of_le (PySem.Flt.log2_lt_of h0 hb) hk⟩
theorem cm {i j : Int} {a b : Nat} (ha : B a i) (hb : B b j) (h0 : 0 < a) (h1 : 0 < b) (h : a + b ≤ 1000000) : CMulW i j := wide_mul ha hb h0 h1 h
section
variable {α : Type} {a b c : α} {l : List α}
theorem at0 : atI (a :: l) 0 = some a := by
  unfold atI ixN
  rw [if_pos (by decide), if_pos (by simp only [List.length_cons]; omega)]
  rfl
theorem at1 : atI (a :: b :: l) 1 = some b := by
  unfold atI ixN
  rw [if_pos (by decide), if_pos (by simp only [List.length_cons]; omega)]
  rfl
theorem at2 : atI (a :: b :: c :: l) 2 = some c := by
  unfold atI ixN
  rw [if_pos (by decide), if_pos (by simp only [List.length_cons]; omega)]
  rfl
theorem atN {j : Nat} {v : α} (h : l[j]? = some v) : atI l (j : Int) = some v := atI_nat h
end
section
variable {K : Frag} {te ta tb tc tl : TE} {t u : TT} {e e1 e2 e3 e' : List EK} {d d1 d2 : PyData} {ds rs : List PyData} {b c : Bool} {tr : TA}
theorem ed_fdiv {i j : Int} (ha : ED K ta e (.int i) e1) (hb : ED K tb e1 (.int j) e2) (hc : CDivX i j) : ED K (tOp (rI CDivX fun i j => .int (i.fdiv j)) ta tb) e (.int (i.fdiv j)) e2 := ed_iC (g := fun i j => i.fdiv j) ha hb hc
abbrev ZR (K : Frag) (a : Addr) : Prop := ∀ H, SqT K H a [.int 0, .int 1]
abbrev ONR (K : Frag) (a : Addr) : Prop := ∀ H, SqT K H a [.int 1, .int 1]
theorem ed_ZERO {a : Addr} (h : ZR K a) : ED K (tC (.ref a)) e (encR 0) e := ed_tupK h fun _ => .cons (.int _) (.cons (.int _) .nil)
theorem ed_ONE {a : Addr} (h : ONR K a) : ED K (tC (.ref a)) e (encR 1) e := ed_tupK h fun _ => .cons (.int _) (.cons (.int _) .nil)
theorem kit_int_int : kitB "int" "int" = some true := by decide +kernel
theorem kit_int_bool : kitB "int" "bool" = some false := by decide +kernel
theorem kit_tuple_tuple : kitB "tuple" "tuple" = some true := by decide +kernel
theorem bt_len : bootBuiltins "len" = some (.builtin "len") := by decide +kernel
theorem bt_abs : bootBuiltins "abs" = some (.builtin "abs") := by decide +kernel
theorem bt_sum : bootBuiltins "sum" = some (.builtin "sum") := by decide +kernel
theorem bt_all : bootBuiltins "all" = some (.builtin "all") := by decide +kernel
theorem bt_any : bootBuiltins "any" = some (.builtin "any") := by decide +kernel
theorem bt_isinstance : bootBuiltins "isinstance" = some (.builtin "isinstance") := by decide +kernel
theorem bt_divmod : bootBuiltins "divmod" = some (.builtin "divmod") := by decide +kernel
theorem bt_sorted : bootBuiltins "sorted" = some (.builtin "sorted") := by decide +kernel
theorem bt_repr : bootBuiltins "repr" = some (.builtin "repr") := by decide +kernel
theorem bt_int : bootBuiltins "int" = some (.type "int") := by decide +kernel
theorem bt_bool : bootBuiltins "bool" = some (.type "bool") := by decide +kernel
theorem bt_tuple : bootBuiltins "tuple" = some (.type "tuple") := by decide +kernel
theorem bt_set : bootBuiltins "set" = some (.type "set") := by decide +kernel
theorem bt_range : bootBuiltins "range" = some (.type "range") := by decide +kernel
theorem bt_enumerate : bootBuiltins "enumerate" = some (.type "enumerate") := by decide +kernel
theorem bt_zip : bootBuiltins "zip" = some (.type "zip") := by decide +kernel
theorem sd_retD {N B C : List EK → Prop} (h : ED K te e d e1) : SD K (tRet te) e N (fun r _ => r = d) B C := sd_ret h rfl
theorem sd_skip {B C : List EK → Prop} {Rt : PyData → List EK → Prop} {ts : TS} (h : TD K t e false e1) : SD K (tIfS t ts tNext) e (fun z => z = e1) Rt B C := sd_if h (fun q => nomatch q) fun _ => sd_next rfl
theorem sd_skipN {N B C : List EK → Prop} {Rt : PyData → List EK → Prop} {ts : TS} (h : TD K t e false e1) (hn : N e1) : SD K (tIfS t ts tNext) e N Rt B C := sd_if h (fun q => nomatch q) fun _ => sd_next hn
theorem sd_leave {N B C : List EK → Prop} {Rt : PyData → List EK → Prop} {ts us : TS} (h : TD K t e b e1) (h1 : b = true → SD K ts e1 (fun _ => False) Rt B C) (h2 : b = false → SD K us e1 N Rt B C) : SD K (tSeq (tIfS t ts tNext) us) e N Rt B C :=
  fun H0 M X0 ps σ H g D n r bk ct => h H0 M X0 ps σ H g _ fun H1 g1 => by
    cases b with
    | true => exact h1 rfl H0 M X0 ps σ H1 g1 _ (fun _ _ _ z => z.elim) r bk ct
    | false => exact h2 rfl H0 M X0 ps σ H1 g1 D n r bk ct
/-- what is known less of -/
def Wk : List EK → List EK → Prop
  | [], [] => True
  | a :: as, b :: bs => (b = .any ∨ b = a) ∧ Wk as bs
  | _, _ => False
theorem Wk.at_ : ∀ {a b : List EK}, Wk a b → b.length = a.length ∧ ∀ (i : Nat) k, b[i]? = some k → k = .any ∨ a[i]? = some k
  | [], [], _ => ⟨rfl, fun _ _ h => by simp at h⟩
  | x :: a, y :: b, h => by
    obtain ⟨h1, h2⟩ := h
    obtain ⟨h3, h4⟩ := Wk.at_ h2
    refine ⟨by simp [h3], fun i k q => ?_⟩
    cases i with
    | zero =>
      cases Option.some.inj q
      rcases h1 with z | z
      · exact .inl z
      · exact .inr (by rw [z]; rfl)
    | succ i => exact h4 i k q
  | [], _ :: _, h => h.elim
  | _ :: _, [], h => h.elim
theorem ed_wk (h : ED K te e d e1) (hw : Wk e1 e2) : ED K te e d e2 := fun H0 M X0 ps σ H g Q k => h H0 M X0 ps σ H g _ fun v H1 g1 => k v H1 (by
  obtain ⟨hl, hw⟩ := hw.at_
  obtain ⟨X, g⟩ := g1
  exact ⟨X, { g with len := g.len.trans hl.symm, slot := fun i k q => (hw i k q).elim (fun z => z ▸ True.intro) (fun z => g.slot i k z) }⟩)
theorem sd_wk {N B C : List EK → Prop} {Rt : PyData → List EK → Prop} {ts : TS} (h : SD K ts e1 N Rt B C) (hw : Wk e e1) : SD K ts e N Rt B C := sd_weak h hw.at_.1 hw.at_.2
/-! equal data -/
theorem shR (q : Rat) : SeqAt.shaped (encR q) = true := rfl
theorem shP (p : P2) : SeqAt.shaped (encP p) = true := rfl
theorem eqvR (a b : Rat) : PyData.eqv (encR a) (encR b) = decide (a = b) := by
  have e : PyData.eqv (encR a) (encR b) = ((a.num == b.num) && (((a.den : Int) == (b.den : Int)) && true)) := by simp only [encR, PyData.eqv, PyData.eqvAll]
  rw [e]
  by_cases h : a = b
  · subst h; simp
  · rw [decide_eq_false h]
    by_cases h1 : a.num = b.num
    · have h2 : ¬ a.den = b.den := fun z => h (Rat.ext h1 z)
      simp [h1]
      omega
    · simp [h1]
theorem encP_inj {p q : P2} (hx : p.X = q.X) (hy : p.Y = q.Y) (hw : p.W = q.W) : p = q := by
  refine P2.eq ?_ ?_
  · rw [x_of p, x_of q, hx, hw]
  · rw [y_of p, y_of q, hy, hw]
theorem eqvP (a b : P2) : PyData.eqv (encP a) (encP b) = decide (a = b) := by
  have e : PyData.eqv (encP a) (encP b) = ((a.X == b.X) && ((a.Y == b.Y) && (((a.W : Int) == (b.W : Int)) && true))) := by simp only [encP, PyData.eqv, PyData.eqvAll]
  rw [e]
  by_cases h : a = b
  · subst h; simp
  · rw [decide_eq_false h]
    by_cases h1 : a.X = b.X
    · by_cases h2 : a.Y = b.Y
      · have h3 : ¬ a.W = b.W := fun z => h (encP_inj h1 h2 z)
        simp [h1, h2]
        omega
      · simp [h2]
    · simp [h1]
end
end Hull
namespace Hull
open PySem PySem.Spec PyProof.Rows L2

/-! enumerate(a tuple) -/
theorem meets_enum1 {v : Value} {o : Obj} {G : Heap → Prop} (B : Begins v o G) :
    Meets (Builtin.«enumerate.__new__» ⟨[.type "enumerate", v], []⟩) (fun _ R s => G s.heap ∧
      R (.ok (.ret (.ref (s.heap.push o).objs.size))) { s with heap := (s.heap.push o).push { cls := .type "enumerate", data := .fields #[.none, .bool false, .ref s.heap.objs.size, rawInt 0, .none, .none] } }) :=
  .of_wp fun prog w A R s h => by
    obtain ⟨hp, g, d, tk, os⟩ := s
    obtain ⟨h1, h⟩ := h
    have hsub := sub_enumerate
    have q1 : ∀ {A' : Around} {E : Value → Shared → Prop} {Q : Value → Shared → Prop}, Q (.ref hp.objs.size) ⟨hp.push o, g, d, tk, os⟩ → wpAny (model prog w) A' (pyIter v) Q E ⟨hp, g, d, tk, os⟩ :=
      fun q => B.iter prog w _ _ ⟨hp, g, d, tk, os⟩ _ h1 q
    wp_walk
    refine wpAny_stack_any fun st => wpAny_pure ?_
    split
    · rename_i c _ _ _ _ _
      cases (c == Value.type "enumerate") <;>
      · wp_walk using q1
        exact ⟨_, rfl, h⟩
    · wp_walk using q1
      exact ⟨_, rfl, h⟩
section
variable {prog : Program} {w : World} {A : Around} {E : Value → Shared → Prop} {s : Shared}
theorem enum1_begins {v : Value} {o : Obj} {G : Heap → Prop} {Q : Value → Shared → Prop} (B : Begins v o G) (h1 : G s.heap)
    (h : ∀ h', IsEnum h' (s.heap.objs.size + 1) s.heap.objs.size 0 .none → h'.get? s.heap.objs.size = some o → h'.objs.size = s.heap.objs.size + 2 → (∀ b o, s.heap.get? b = some o → h'.get? b = some o) → Q (.ref (s.heap.objs.size + 1)) { s with heap := h' }) :
    wpAny (model prog w) A (call (.type "enumerate") [v]) Q E s := by
  refine callType_new F.called_enumerate (by decide) (F.typeCall_enumerate_1 _) (F.newCall_enumerate_1 _) (fun obj => F.args_object_init_2 obj _) F.entry_enumerate_new (meets_enum1 B) ⟨h1, ?_⟩
  have hz : (s.heap.push o).objs.size = s.heap.objs.size + 1 := Heap.size_push ..
  show _ ∧ _
  rw [hz]
  have he : IsEnum ((s.heap.push o).push { cls := .type "enumerate", data := .fields #[.none, .bool false, .ref s.heap.objs.size, rawInt 0, .none, .none] })
      (s.heap.objs.size + 1) s.heap.objs.size 0 .none := by
    have := Heap.get?_push_size (s.heap.push o) (o := { cls := .type "enumerate", data := .fields #[.none, .bool false, .ref s.heap.objs.size, rawInt 0, .none, .none] }) rfl
    rw [hz] at this
    exact this
  exact ⟨⟨_, he, rfl⟩, h _ he (Heap.get?_push_of_some _ (Heap.get?_push_size _ B.free)) (by rw [Heap.size_push, hz]) fun b o x => Heap.get?_push_of_some _ (Heap.get?_push_of_some _ x)⟩
end
/-- the tuple at a, each item in a new pair -/
def IteT (K : Frag) (a : Addr) : It where
  go := fun i H => ∃ (xs : List V) (x : V), SqT K H a xs ∧ xs[i]? = some x
  yld := fun i H v H' => ∃ T x, v = .ref T ∧ H T = none ∧ H' = upd H T (.tup [.int (i : Nat), x]) ∧ ∀ xs, SqT K H a xs → xs[i]? = some x
  stop := fun i H => ∃ xs : List V, SqT K H a xs ∧ xs.length ≤ i
theorem tupIter_ne {h : Heap} {it a : Addr} {i : Nat} {its : Array Value} (p : h.IsTuple a its) (q : h.IsTupleIter it a i) : a ≠ it := fun z => by
  obtain ⟨o, e1, c1, _⟩ := p
  obtain ⟨o', e2, c2, _⟩ := q
  rw [z, e2] at e1
  cases e1
  rw [c1] at c2
  injection c2 with c2
  exact absurd c2 (by decide)
theorem turn_enumT {P : Program} {w : World} {K : Frag} {elts : List Expr} {kk : Nat} {tpos : Pos} (a e it : Addr) :
    Turn P w K (.Tuple elts kk tpos) (IteT K a) [e, it] e (fun i h => (∃ old, IsEnum h e it ((i : Nat) : Int) old) ∧ h.IsTupleIter it a i ∧ e ≠ it) where
  mem := by simp
  obj := fun i h st b hb => by
    obtain ⟨⟨old, he⟩, ⟨o, ho, hc, hd⟩, _⟩ := st
    rcases List.mem_cons.mp hb with z | z
    · rw [z]; exact ⟨_, he, fun v q => nomatch q⟩
    · rw [List.mem_singleton.mp z]; exact ⟨o, ho, fun v q => by rw [hd] at q; cases q⟩
  keep := fun i h h' st k => by
    obtain ⟨⟨old, he⟩, hi, hne⟩ := st
    exact ⟨⟨old, k e (by simp) _ he⟩, hi.at fun o q => k it (by simp) o q, hne⟩
  item := by
    intro X hP hw hK hc i pins s σ H E I hf st hg
    subst hP hw hK
    obtain ⟨⟨old, he⟩, hit, hne⟩ := st
    obtain ⟨xs, x, hq, hx⟩ := hg
    obtain ⟨its, rv, p, hz⟩ := I.tuple hq
    have pt : s.heap.IsTuple a its.toArray := p
    obtain ⟨u, hu, ru⟩ := rv.get hx
    have hel : e < s.heap.objs.size := Heap.lt_size he
    have hil : it < s.heap.objs.size := by
      obtain ⟨_, q, _⟩ := hit
      exact Heap.lt_size q
    have hai := tupIter_ne pt hit
    have hiu : its.toArray[i]? = some u := by simpa using hu
    have hlt : i < its.toArray.size := (Array.getElem?_eq_some_iff.mp hiu).1
    have hei : e ∉ ([it, a] : List Addr) := fun z => by
      rcases List.mem_cons.mp z with z | z
      · exact hne z
      · have z := List.mem_singleton.mp z
        obtain ⟨o, q1, q2, _⟩ := pt
        rw [← z] at q1
        have he' : s.heap.get? e = some _ := he
        rw [he'] at q1
        cases q1
        have q3 : Value.type "enumerate" = Value.type "tuple" := q2
        injection q3 with q3
        exact absurd q3 (by decide)
    refine wpAny_pyNext_enum_itemD (Draws.tuple (A := X.A.in1) (I.ok.hd hc) it a hai its.toArray) he ⟨hit, pt⟩ hlt hne hei fun y h' tk hy ho hst hT hsz hk => ?_
    have hyu : y = u := by
      have hy : its.toArray[i]? = some y := hy
      rw [hiu] at hy
      exact (Option.some.inj hy).symm
    subst hyu
    refine ⟨_, rfl, wpAny_letOwnedTupleGo_enum (s := { s with heap := h', toks := tk + 1 }) ho fun h'' he' sb => ?_⟩
    have hT2 : h''.get? s.heap.objs.size = some { cls := .type "tuple", data := .seq #[.int i tk, y] } := (sb.2 _ (Nat.ne_of_gt hel)).trans hT
    have new : ObjOk X.prog X.w (upd H s.heap.objs.size (.tup [.int (i : Nat), x])) h'' s.heap.objs.size (.tup [.int (i : Nat), x]) :=
      ⟨by show 2 ≤ sizeLine; decide, [.int i tk, y], .cons ⟨_, rfl⟩ (.cons ru .nil), ⟨_, hT2, rfl, _, rfl⟩⟩
    have I1 : Inv X pins σ (upd H s.heap.objs.size (.tup [.int (i : Nat), x])) { s with heap := h'', toks := tk + 1 } :=
      I.turnedNew (ch := [e, it]) (fun b ob hb q => (sb.2 b (fun z => hb (by simp [z]))).trans (hk b ob (fun z => hb (by simp [z])) (fun z => hb (by simp [z])) q)) hf (Nat.le_refl _) new
    refine ⟨.ref s.heap.objs.size, _, I1, rfl, ⟨_, x, rfl, I.hok.fresh (Nat.le_refl _), rfl, fun ys hy => by rw [I.tuple_inj hy hq]; exact hx⟩, ⟨⟨y, ?_⟩, hst.1.at fun o q => (sb.2 it (Ne.symm hne)).trans q, hne⟩, fun b hb => ?_⟩
    · rw [show ((i + 1 : Nat) : Int) = (i : Int) + 1 by omega]
      exact he'
    · have hb' : b < s.heap.objs.size := by
        rcases List.mem_cons.mp hb with z | z
        · rw [z]; exact hel
        · rw [List.mem_singleton.mp z]; exact hil
      rw [upd_ne (Nat.ne_of_lt hb')]
      exact (hf b hb).1
  done := by
    intro X hP hw hK hc i pins s σ H E I hf st hg
    subst hP hw hK
    obtain ⟨⟨old, he⟩, hit, hne⟩ := st
    obtain ⟨xs, hq, hx⟩ := hg
    obtain ⟨its, rv, p, hz⟩ := I.tuple hq
    have pt : s.heap.IsTuple a its.toArray := p
    obtain ⟨f0, f1, f2, f3, f4, f5⟩ := hf it (by simp)
    have hl := rv.length
    have hT : s.TypeIs (.ref e) "enumerate" := ⟨_, he, rfl⟩
    unfold pyNext
    refine wpAny_bind (wpAny_attempt (wpAny_callSpecial?_slot (name := Str.ofString "__next__") hT F.slot_enumerate_next (wpAny_call_entry F.slot_enumerate_next hT F.entry_enumerate_next ?_ (F.args_enumerate_next_1 _))))
    show wpAny _ _ (field (.ref e) 2 >>= _) _ _ _
    refine wpAny_bind (wpAny_field he rfl (x := .ref it) rfl ?_)
    refine wpAny_bind (wpAny_nextOf_tuple_end (I.ok.hd hc) hit pt (by simp; omega) fun h' x he' hx' => ?_)
    obtain ⟨o, ho, hc⟩ := hx'
    refine wpAny_bind (wpAny_isInstance (T := "StopIteration") (b := true) ⟨o, ho, hc⟩ isSubtype_stop ?_)
    exact wpAny_pure ⟨rfl, I.turned (t' := s.toks) (fun b o hb e => he' b o hb e) f0 f1 f3 f4 f5⟩
  self := fun A i s Q E st h => let ⟨⟨_, he⟩, _⟩ := st; wpAny_pyIter_enum he h
def iEnumT (K : Frag) (ta : TA) : TI := fun σ H R => ta σ H fun vs H1 => ∃ a xs, vs = [.ref a] ∧ SqT K H1 a xs ∧ R (IteT K a) H1
theorem pi_enumT {X : Cx} {e : Expr} {ta : TA} {p pos tpos : Pos} {elts : List Expr} {kk : Nat} (hg : Gl X "enumerate") (hm : X.mg "enumerate" = none) (ha : PA X [e] ta) (hs : starEach [e] X.env = [(false, eval e X.env)] := by rfl) :
    PI X (.Tuple elts kk tpos) (.Call (.Name "enumerate" p) [e] [] pos) (iEnumT X.K ta) := by
  refine ⟨fun pins s σ H R I h => ?_⟩
  refine Call_ (ld_blt I hg hm boot_enumerate (PyProof.Rows.callWith_type1 (thn (ha.run pos pins s σ H _ I h) fun us s1 ⟨vs, H1, I1, r1, q1⟩ => ?_) hs rfl))
  obtain ⟨a, xs, ex, hq, q⟩ := q1
  subst ex
  cases r1 with
  | cons r rr =>
    cases rr
    cases r
    obtain ⟨its, rv, p', hz⟩ := I1.tuple hq
    refine enum1_begins (begins_tuple a its.toArray) (show s1.heap.IsTuple a its.toArray from p') fun h' he hit hsz hk => wpAny_pyIter_enum he ?_
    have I2 : Inv X pins σ H1 { s1 with heap := h' } := I1.kept (t' := s1.toks) hk
    refine ⟨s1.heap.objs.size + 1, [s1.heap.objs.size + 1, s1.heap.objs.size], _, _, H1, rfl, I2, turn_enumT a (s1.heap.objs.size + 1) s1.heap.objs.size, ⟨⟨.none, he⟩, ⟨_, hit, rfl, rfl⟩, Nat.succ_ne_self _⟩, fun b hb => ?_, q⟩
    have hle : s1.heap.objs.size ≤ b := by
      rcases List.mem_cons.mp hb with z | z
      · rw [z]; exact Nat.le_succ _
      · rw [List.mem_singleton.mp z]; exact Nat.le_refl _
    exact I1.fpOk hle (I1.hok.fresh hle)
def iEnumS (K : Frag) (ta : TA) : TI := fun σ H R => iEnum K ta σ H R ∨ iEnumT K ta σ H R
theorem pi_enumS {X : Cx} {e : Expr} {ta : TA} {p pos tpos : Pos} {elts : List Expr} {kk : Nat} (hg : Gl X "enumerate") (hm : X.mg "enumerate" = none) (ha : PA X [e] ta) (hs : starEach [e] X.env = [(false, eval e X.env)] := by rfl) :
    PI X (.Tuple elts kk tpos) (.Call (.Name "enumerate" p) [e] [] pos) (iEnumS X.K ta) :=
  ⟨fun pins s σ H R I h => h.elim (fun q => (pi_enum hg hm ha hs).run pins s σ H R I q) fun q => (pi_enumT hg hm ha hs).run pins s σ H R I q⟩
section
variable {K : Frag} {te : TE} {e e1 : List EK} {ds : List PyData}
theorem id_enumT (h : ED K te e (.tuple ds) e1) : ID K (iEnumT K (tCons te tNil)) e (enumD ds) e1 := fun H0 M X0 ps σ H g R k => h H0 M X0 ps σ H g _ fun v H1 g1 => by
  have r := g1.top
  cases r with
  | tup s r =>
    rename_i a xs
    refine ⟨a, xs, rfl, s, k _ [(.ref a, .tuple ds)] H1 ⟨fun H0 M X0 ps e σ H i d hi g => ?_, fun H0 M X0 ps e σ H g => ?_⟩ g1⟩
    · obtain ⟨d0, hd, rfl⟩ := enumD_at hi
      obtain ⟨X, g⟩ := g
      have r := g.tmp _ List.mem_cons_self
      cases r with
      | tup s r =>
        obtain ⟨v, hv, rv⟩ := r.get hd
        refine ⟨⟨_, v, hide_sub.sqT s, hv⟩, fun x H' ⟨T, y, q1, q2, q3, q4⟩ => ?_⟩
        subst q1 q3
        have hx := q4 _ (hide_sub.sqT s)
        rw [hv] at hx
        cases hx
        exact ⟨Sub.new q2, pair_sk ((Sk.int ⟨X, g.push rv⟩ _)) q2⟩
    · have r := g.top
      cases r with
      | tup s r => exact ⟨_, s, by rw [r.len, enumD_len]; exact Nat.le_refl _⟩
theorem id_enumST (h : ED K te e (.tuple ds) e1) : ID K (iEnumS K (tCons te tNil)) e (enumD ds) e1 := fun H0 M X0 ps σ H g R k => .inr (id_enumT h H0 M X0 ps σ H g R k)
theorem id_enumSL (h : ED K te e (.list ds) e1) : ID K (iEnumS K (tCons te tNil)) e (enumD ds) e1 := fun H0 M X0 ps σ H g R k => .inl (id_enumL h H0 M X0 ps σ H g R k)
end
end Hull
namespace Hull
open PySem PySem.Spec PyProof.Rows L2
/-! loops over lists that are maps -/
def EK.isAny : EK → Bool
  | .any => true
  | _ => false
def anyB (e : List EK) (vs : List Nat) : Bool := vs.all fun i => match e[i]? with
  | some k => k.isAny
  | none => true
theorem any_at {e : List EK} {vs : List Nat} (h : anyB e vs = true) : ∀ (i : Nat) (k : EK), e[i]? = some k → i ∈ vs → k = .any := fun i k q hm => by
  have := List.all_eq_true.mp h i hm
  simp only [q] at this
  cases k with
  | any => rfl
  | _ => cases this
section
variable {K : Frag} {te ta tb tc tl : TE} {t u : TT} {e e1 e2 e3 e' : List EK} {d d1 d2 : PyData} {ds rs : List PyData} {b c : Bool} {tr : TA} {α : Type} {N B C : List EK → Prop} {Rt : PyData → List EK → Prop} {ts : TS}
theorem ed_lcM {wi : TI} {g : TG} {vs : List Nat} {l : List α} {f : α → PyData} (h : α → PyData) (hi : ID K wi e (l.map f) e1) (hv : anyB e1 vs = true) (hz : l.length ≤ 1000)
    (ht : ∀ x, x ∈ l → ∃ e2 js, (∀ j ∈ js, j ∈ vs) ∧ GD K g js (strip e1) (f x) e2 ∧ ED K te e2 (h x) e2) : ED K (tLc wi g tYes te vs) e (.list (l.map h)) e1 :=
  ed_lc hi (any_at hv) (by rw [List.length_map, List.length_map]) (by rw [List.length_map]; exact hz) fun i d r hd hr => by
    rw [List.getElem?_map] at hd hr
    cases q : l[i]? with
    | none => rw [q] at hd; cases hd
    | some x =>
      rw [q] at hd hr
      cases Option.some.inj hd
      cases Option.some.inj hr
      exact ht x (List.mem_of_getElem? q)
theorem sd_forM {wi : TI} {g : TG} {l : List α} {f : α → PyData} (Inv : List α → List EK → Prop) (h : ID K wi e (l.map f) e1) (h0 : Inv [] e1)
    (hs : ∀ pre x post e', l = pre ++ x :: post → Inv pre e' → ∃ e2 js, GD K g js e' (f x) e2 ∧ SD K ts e2 (Inv (pre ++ [x])) Rt N (Inv (pre ++ [x]))) (hd : ∀ e', Inv l e' → N e') : SD K (tFor wi g ts) e N Rt B C :=
  sd_for (fun i e' => Inv (l.take i) e') h h0 (fun i d e' hd hI => by
    rw [List.getElem?_map] at hd
    cases q : l[i]? with
    | none => rw [q] at hd; cases hd
    | some x =>
      rw [q] at hd
      cases Option.some.inj hd
      obtain ⟨hi, hx⟩ := List.getElem?_eq_some_iff.mp q
      have e : l.take (i + 1) = l.take i ++ [x] := by rw [List.take_succ, q]; rfl
      rw [e]
      refine hs _ x (l.drop (i + 1)) e' ?_ hI
      conv => lhs; rw [← List.take_append_drop i l]
      rw [List.drop_eq_getElem_cons hi, hx]) fun e' hI => hd e' (by rw [List.length_map, List.take_length] at hI; exact hI)
theorem sd_forR {wi : TI} {g : TG} {n : Nat} {f : Nat → PyData} (Inv : Nat → List EK → Prop) (h : ID K wi e ((List.range n).map f) e1) (h0 : Inv 0 e1)
    (hs : ∀ i e', i < n → Inv i e' → ∃ e2 js, GD K g js e' (f i) e2 ∧ SD K ts e2 (Inv (i + 1)) Rt N (Inv (i + 1))) (hd : ∀ e', Inv n e' → N e') : SD K (tFor wi g ts) e N Rt B C :=
  sd_for Inv h h0 (fun i d e' hd hI => by
    rw [List.getElem?_map] at hd
    by_cases q : i < n
    · rw [List.getElem?_range q] at hd
      cases Option.some.inj hd
      exact hs i e' q hI
    · rw [List.getElem?_eq_none (by simpa using q)] at hd
      cases hd) fun e' hI => hd e' (by rw [List.length_map, List.length_range] at hI; exact hI)
theorem id_eq {wi : TI} (h : ID K wi e ds e1) (q : ds = rs) : ID K wi e rs e1 := q ▸ h
theorem ed_eq {te : TE} (h : ED K te e d e1) (q : d = d2) : ED K te e d2 e1 := q ▸ h
theorem rngD_N (n : Nat) : rngD 0 n = (List.range n).map encN := by
  unfold rngD
  refine List.map_congr_left fun i _ => ?_
  show PyData.int (0 + (i : Int)) = .int (i : Int)
  rw [Int.zero_add]
theorem id_rngN {n : Nat} (h : AD K tr e [.int (n : Int)] e1) (hn : n ≤ 100000) : ID K (iRng1 tr) e ((List.range n).map encN) e1 := by
  have := id_rng1 h ⟨by omega, by omega⟩
  rw [Int.toNat_natCast, rngD_N] at this
  exact this
theorem id_rng1N {n : Nat} {m : Int} (h : AD K tr e [.int 1, .int m] e1) (hm : m = (n : Int) + 1) (hn : n ≤ 10000) : ID K (iRng2 tr) e ((List.range n).map fun i => encN (i + 1)) e1 := by
  subst hm
  have := id_rng2 h ⟨by omega, by omega, by omega, by omega⟩
  have e : rngD 1 (((n : Int) + 1 - 1).toNat) = (List.range n).map fun i => encN (i + 1) := by
    rw [show (((n : Int) + 1 - 1).toNat) = n by omega]
    unfold rngD
    refine List.map_congr_left fun i _ => ?_
    show PyData.int (1 + (i : Int)) = .int ((i + 1 : Nat) : Int)
    congr 1
    omega
  rw [e] at this
  exact this
theorem enumD_map (l : List α) (f : α → PyData) (g : Nat → PyData) (h : ∀ i x, l[i]? = some x → f x = g i) : enumD (l.map f) = (List.range l.length).map fun i => .tuple [.int (i : Int), g i] := by
  unfold enumD
  rw [List.length_map]
  apply List.ext_getElem?
  intro i
  rw [List.getElem?_zipWith, List.getElem?_map, List.getElem?_map]
  by_cases q : i < l.length
  · rw [List.getElem?_range q, List.getElem?_eq_getElem q]
    show some _ = some _
    rw [h i l[i] (List.getElem?_eq_getElem q)]
  · rw [List.getElem?_eq_none (l := l) (by omega), List.getElem?_eq_none (l := List.range l.length) (by rw [List.length_range]; omega)]
    rfl
theorem id_enumP {S : List P2} (h : ED K te e (encS S) e1) : ID K (iEnumS K (tCons te tNil)) e ((List.range S.length).map fun (i : Nat) => .tuple [.int (i : Int), encP (cn S i)]) e1 :=
  id_eq (id_enumST h) (enumD_map S encP (fun (i : Nat) => encP (cn S i)) fun i x q => by
    have hi := (List.getElem?_eq_some_iff.mp q).1
    rw [cn_get hi] at q
    rw [Option.some.inj q])
/-! a list or a tuple -/
abbrev sq (b : Bool) (ds : List PyData) : PyData := match b with
  | true => .list ds
  | false => .tuple ds
theorem id_sq {b : Bool} (h : ED K te e (sq b ds) e1) : ID K (iSeq K te) e ds e1 := by
  cases b with
  | true => exact id_seqL h
  | false => exact id_seqT h
/-! slices of lists -/
theorem ixD_nat {n k : Nat} (d : Nat) (h : k ≤ n) : HT.sIx n d (some (k : Int)) = k := by
  rw [HT.sIx_nat]; omega
theorem ixD_big {n k : Nat} (d : Nat) (h : n ≤ k) : HT.sIx n d (some (k : Int)) = n := by
  rw [HT.sIx_nat]; omega
theorem cut_drop {k : Nat} : cutD ds (some (k : Int)) none = ds.drop k := by
  unfold cutD
  show (ds.drop _).take (ds.length - _) = _
  rcases (by omega : k ≤ ds.length ∨ ds.length ≤ k) with h | h
  · rw [ixD_nat 0 h, ← List.length_drop, List.take_length]
  · rw [ixD_big 0 h, Nat.sub_self, List.take_zero, List.drop_of_length_le h]
theorem cut_take {k : Nat} : cutD ds none (some (k : Int)) = ds.take k := by
  unfold cutD
  show (ds.drop 0).take (_ - 0) = _
  rw [List.drop_zero, Nat.sub_zero]
  rcases (by omega : k ≤ ds.length ∨ ds.length ≤ k) with h | h
  · rw [ixD_nat _ h]
  · rw [ixD_big _ h, List.take_length, List.take_of_length_le h]
theorem cut_most : cutD ds none (some (-1)) = ds.dropLast := by
  unfold cutD
  show (ds.drop 0).take (_ - 0) = _
  rw [List.drop_zero, Nat.sub_zero, List.dropLast_eq_take]
  congr 1
  unfold HT.sIx
  simp
  omega
end
end Hull
namespace Hull
open PySem PySem.Spec PyProof.Rows L2
/-! sorted(set(xs)), xs a list of pairs of ints, of either sign -/
def prk (C : Int) (ns : List Int) : Int := ns.getD 0 0 * (2 * C) + ns.getD 1 0
def LexP (p q : Int × Int) : Prop := p.1 < q.1 ∨ (p.1 = q.1 ∧ p.2 < q.2)
instance (p q : Int × Int) : Decidable (LexP p q) := by unfold LexP; infer_instance
abbrev p2l (p : Int × Int) : List Int := [p.1, p.2]
def Bp (C : Int) (p : Int × Int) : Prop := -C < p.2 ∧ p.2 < C
theorem prk_lt {C : Int} {p q : Int × Int} (hp : Bp C p) (hq : Bp C q) : prk C (p2l p) < prk C (p2l q) ↔ LexP p q := by
  obtain ⟨x, y⟩ := p
  obtain ⟨x', y'⟩ := q
  obtain ⟨h1, h2⟩ := hp
  obtain ⟨h3, h4⟩ := hq
  show x * (2 * C) + y < x' * (2 * C) + y' ↔ x < x' ∨ (x = x' ∧ y < y')
  have e1 : -C < y := h1
  have e2 : y < C := h2
  have e3 : -C < y' := h3
  have e4 : y' < C := h4
  have up : ∀ a b : Int, a < b → a * (2 * C) + 2 * C ≤ b * (2 * C) := fun a b h => by
    have := Int.mul_le_mul_of_nonneg_right (show a + 1 ≤ b by omega) (show (0 : Int) ≤ 2 * C by omega)
    rw [Int.add_mul, Int.one_mul] at this
    exact this
  rcases Int.lt_trichotomy x x' with c | c | c
  · have := up x x' c
    exact ⟨fun _ => .inl c, fun _ => by omega⟩
  · subst c
    exact ⟨fun h => .inr ⟨rfl, by omega⟩, fun h => by omega⟩
  · have := up x' x c
    exact ⟨fun h => by omega, fun h => by omega⟩
def PairsOk (h : Heap) (C : Int) (vs : List Value) : Prop := ∀ v, v ∈ vs → ∃ p : Int × Int, TS.TupInts h v (p2l p) ∧ Bp C p
theorem PairsOk.keeps {h h' : Heap} {C : Int} {vs : List Value} (x : PairsOk h C vs) (k : ∀ b o, h.get? b = some o → o.cls = .type "tuple" → h'.get? b = some o) : PairsOk h' C vs := fun v hv =>
  let ⟨p, t, r⟩ := x v hv; ⟨p, t.keeps k, r⟩
theorem two_ints {xs : List Value} {a b : Int} (h : IntsAre xs [a, b]) : ∃ t u, xs = [.int a t, .int b u] := by
  cases h with
  | cons n t h =>
    cases h with
    | cons m u h =>
      cases h
      exact ⟨t, u, rfl⟩
theorem firstsP {h : Heap} {C : Int} : ∀ vs : List Value, PairsOk h C vs → ∃ fs, PySem.W.KatTups h vs fs ∧ fs.length = vs.length ∧ ∀ f, f ∈ fs → ∃ n t, f = Value.int n t
  | [], _ => ⟨[], PySem.W.KatTups.nil, rfl, fun _ hf => nomatch hf⟩
  | v :: vs, x => by
    obtain ⟨fs, k, hl, hi⟩ := firstsP vs fun u hu => x u (List.mem_cons_of_mem _ hu)
    obtain ⟨p, ⟨a, xs, rfl, ⟨o, ho, hc, n, hdt⟩, i⟩, _⟩ := x v List.mem_cons_self
    obtain ⟨t, u, e⟩ := two_ints i
    refine ⟨.int p.1 t :: fs, PySem.W.KatTups.cons ho hc hdt ?_ k, by simp [hl], fun f hf => ?_⟩
    · rw [← Array.getElem?_toList, e]; rfl
    · rcases List.mem_cons.mp hf with z | hf
      · exact ⟨_, _, z⟩
      · exact hi f hf
section
variable {prog : Program} {w : World} {A : Around} {E : Value → Shared → Prop} {s : Shared}
theorem kindP {C : Int} {vs : List Value} (h2 : 2 ≤ vs.length) (x : PairsOk s.heap C vs) (r : Value → Int) (hr : ∀ v, v ∈ vs → ∀ ns, TS.TupInts s.heap v ns → r v = prk C ns) (Q : SortKind → Shared → Prop)
    (h : ∀ κ, TS.Cmp prog w A s κ (pairsOf vs) r → Q κ s) : wpAny (model prog w) A (keyKind' vs.toArray) Q E s := by
  obtain ⟨fs, k, hl, hi⟩ := firstsP vs x
  refine PySem.W.kat_kind (T := Value.type "int") k (by rw [hl]; exact Nat.lt_of_lt_of_le (by decide) h2) (fun f hf => ?_) rfl (h _ fun u v hu hv Q' E' hQ => ?_)
  · obtain ⟨n, t, rfl⟩ := hi f hf; exact PySem.W.Looks.of_pure rfl
  · rw [pairsOf_toList] at hu hv
    obtain ⟨p, tp, bp⟩ := x _ (mem_zip_self hu).2
    obtain ⟨q, tq, bq⟩ := x _ (mem_zip_self hv).2
    have e1 := hr _ (mem_zip_self hu).2 _ tp
    have e2 := hr _ (mem_zip_self hv).2 _ tq
    have hQ' : Q' (decide (LexP p q)) s := by
      have z : decide (r u.1 < r v.1) = decide (LexP p q) := decide_eq_decide.mpr (by rw [e1, e2]; exact prk_lt bp bq)
      rw [← z]; exact hQ
    clear hQ e1 e2
    obtain ⟨a, xs, ea, ⟨o, ho, hc, n, hdt⟩, i⟩ := tp
    obtain ⟨b, ys, eb, ⟨o', ho', hc', n', hdt'⟩, i'⟩ := tq
    obtain ⟨t1, t2, ex⟩ := two_ints i
    obtain ⟨u1, u2, ey⟩ := two_ints i'
    rw [ea, eb]
    refine PySem.W.kat_lt ho hdt ho' hdt' ?_
    have sz : decide (xs.size < ys.size) = false := by
      rw [← Array.length_toList, ← Array.length_toList, ex, ey]
      rfl
    rw [sz, ex, ey]
    show PySem.W.KatLex prog w A _ false Q' [(Value.int p.1 t1, Value.int q.1 u1), (Value.int p.2 t2, Value.int q.2 u2)] 0 s
    refine PySem.W.kat_cons (wpAny_eqBool_int ?_)
    by_cases c : p.1 = q.1
    · rw [c, beq_self_eq_true]
      refine PySem.W.kat_yes (PySem.W.kat_cons (wpAny_eqBool_int ?_))
      by_cases c2 : p.2 = q.2
      · rw [c2, beq_self_eq_true]
        refine PySem.W.kat_yes (PySem.W.kat_nil ?_)
        rw [decide_eq_false (show ¬ LexP p q from fun z => by unfold LexP at z; omega)] at hQ'
        exact hQ'
      · rw [beq_eq_false_iff_ne.mpr c2]
        refine PySem.W.kat_no (TS.oneLt_ints _ ?_)
        rw [decide_eq_decide.mpr (show LexP p q ↔ p.2 < q.2 by unfold LexP; omega)] at hQ'
        exact hQ'
    · rw [beq_eq_false_iff_ne.mpr c]
      refine PySem.W.kat_no (TS.oneLt_ints _ ?_)
      rw [decide_eq_decide.mpr (show LexP p q ↔ p.1 < q.1 by unfold LexP; omega)] at hQ'
      exact hQ'
theorem sortP {a : Addr} {vs : List Value} {n : Nat} {C : Int} {Q : Value → Shared → Prop} (ho : s.heap.get? a = some (seqObj "list" vs.toArray n)) (h64 : vs.length < 64) (x : PairsOk s.heap C vs)
    (h : ∀ out : Array Value, out.toList.Perm vs → out.toList.Pairwise (fun u v => prk C (TS.intsOf s.heap u) ≤ prk C (TS.intsOf s.heap v)) → Q .none { s with heap := sortedHeap s.heap a vs out }) :
    wpAny (model prog w) A (call (.builtin "list.sort") [.ref a]) Q E s := by
  refine wpAny_call_entry slot_list_sort ⟨_, ho, rfl⟩ entry_list_sort ?_ (args_list_sort _)
  have keep : ∀ b o, s.heap.get? b = some o → o.cls = .type "tuple" → (TS.midHeap s.heap a vs).get? b = some o := fun b o e hc => by
    refine TS.midHeap_old (fun z => ?_) e
    rw [z, ho] at e
    rw [← Option.some.inj e] at hc
    have c' : Value.type "list" = Value.type "tuple" := hc
    injection c' with c'
    exact absurd c' (by decide)
  refine SK.plain_sort (r := fun v => prk C (TS.intsOf s.heap v)) ho h64 (fun h2 Q hQ => ?_) fun ps out h1 h2 h3 => ?_
  · refine kindP (s := { s with heap := TS.midHeap s.heap a vs }) h2 (x.keeps keep) _ (fun v hv ns t => ?_) Q hQ
    obtain ⟨p, t0, _⟩ := x v hv
    show prk C (TS.intsOf s.heap v) = prk C ns
    rw [t0.ints, ← (t0.keeps keep).ints, t.ints]
  · obtain ⟨p, o⟩ := TS.out_rank (r := fun v => prk C (TS.intsOf s.heap v)) h1 h2 h3
    exact ⟨_, rfl, h out p o⟩
end
section
variable {X : Cx}
/-- the rows of a set in some order: the addresses tell the rows -/
theorem rows_of {L : List (Addr × List Int)} : ∀ vs : List Value, (∀ v ∈ vs, ∃ q ∈ L, v = Value.ref q.1) → ∃ L1 : List (Addr × List Int), vs = L1.map (fun q => Value.ref q.1) ∧ ∀ q ∈ L1, q ∈ L
  | [], _ => ⟨[], rfl, fun _ h => nomatch h⟩
  | v :: vs, h => by
    obtain ⟨q, hq, e⟩ := h v List.mem_cons_self
    obtain ⟨L1, e1, h1⟩ := rows_of vs fun u hu => h u (List.mem_cons_of_mem _ hu)
    exact ⟨q :: L1, by rw [e, e1]; rfl, fun r hr => (List.mem_cons.mp hr).elim (fun z => z ▸ hq) (h1 r)⟩
def rSortG (K : PySem.W.Frag) (P : Program) (w : World) : List V → Hp → VK → Prop := fun vs H Q => ∃ (a : Addr) (L : List (Addr × (Int × Int))) (C : Int), vs = [V.ref a] ∧ H a = some (SetTO P w a (L.map fun p => (p.1, p2l p.2))) ∧
  (∀ p ∈ L, SqT K H p.1 [.int p.2.1, .int p.2.2] ∧ Bp C p.2) ∧
  ∀ (L' : List (Addr × (Int × Int))) (p : Addr), L'.Perm L → (L.map (·.2)).Nodup → L'.Pairwise (fun q r => ¬ LexP r.2 q.2) → H p = none → Q (.ref p) (upd H p (.lst (L'.map fun q => V.ref q.1)))
theorem cr_sortG (hc : X.calm = true) : CallR X (.builtin "sorted") (rSortG X.K X.prog X.w) := by
  intro pins s σ H vs us Q I r h
  obtain ⟨a, L, C, rfl, ha, hk, q⟩ := h
  have R0 : SetT0 X.prog X.w s.heap a (L.map fun p => (p.1, p2l p.2)) := (I.hok a _ ha).1
  have hT : ∀ p ∈ L.map (fun p : Addr × (Int × Int) => (p.1, p2l p.2)), IsT X.prog X.w s.heap p.2 p.1 := fun p hp => by
    obtain ⟨p', hp', rfl⟩ := List.mem_map.mp hp
    exact I.isT (k := p2l p'.2) (hk p' hp').1
  obtain ⟨es, ep, t, R⟩ := R0.full hT
  obtain ⟨o, ho, hex, hd⟩ := R.ob
  have hfew := R.few
  have hsz := R.size
  rw [Vals.ref1 r]
  refine Calls.call_function_entry kind_sorted plain_sorted entry_sorted (args_sorted1 _) ?_
  unfold Builtin.«sorted»
  refine wpAny_bind (m := checkCount "sorted" 1 1 _) (wpAny_pure ?_)
  refine wpAny_bind (collect_set (A := X.A.in1) (I.ok.hd hc) ⟨o, ho, hex.1, hd⟩ R.fits (by unfold scanBound; omega) R.tab.ris R.led fun s1 vs k1 hz g1 o1 pm => ?_)
  have hes : es.toList.map (·.2) = (L.map fun q => Value.ref q.1) := by
    rw [R.rows, rowsOf, List.map_map, List.map_map]; rfl
  rw [hes] at pm
  have hvl : vs.length < 64 := by rw [pm.length_eq, List.length_map]; rw [List.length_map] at hfew; exact hfew
  refine wpAny_bind (wpAny_newList ?_ (by rw [sizeLine_eq]; omega))
  have hoL : (s1.heap.push (seqObj "list" vs.toArray 0)).get? s1.heap.objs.size = some (seqObj "list" vs.toArray 0) := Heap.get?_push_size _ rfl
  have tk : ∀ q ∈ L, TS.TupInts (s1.heap.push (seqObj "list" vs.toArray 0)) (.ref q.1) (p2l q.2) := fun q hq => tupInts_of (P := X.prog) (w := X.w) (isT_keep (I.isT (k := p2l q.2) (hk q hq).1) fun b u e => Heap.get?_push_of_some _ (k1 b u e))
  have x : PairsOk (s1.heap.push (seqObj "list" vs.toArray 0)) C vs := fun v hv => by
    obtain ⟨q, hq, e⟩ := List.mem_map.mp (pm.mem_iff.mp hv)
    exact ⟨q.2, e ▸ tk q hq, (hk q hq).2⟩
  refine wpAny_bind (wpAny_holding (sortP (s := { s1 with heap := s1.heap.push (seqObj "list" vs.toArray 0) }) hoL hvl x fun out a1 a2 => ?_))
  obtain ⟨c, hcc⟩ := sortedHeap_at (vs := vs) (out := out) hoL
  -- the rows behind what was sorted
  have one : ∀ q ∈ L, ∀ r ∈ L, q.1 = r.1 → q = r := fun q hq r hr e => by
    have a1 := I.isT (k := p2l q.2) (hk q hq).1
    have a2 := I.isT (k := p2l r.2) (hk r hr).1
    rw [e] at a1
    have e2 : p2l q.2 = p2l r.2 := a1.inj a2
    simp only [p2l, List.cons.injEq, and_true] at e2
    exact Prod.ext e (Prod.ext e2.1 e2.2)
  have back : ∀ vs : List Value, (∀ v ∈ vs, ∃ q ∈ L, v = Value.ref q.1) → ∃ L1 : List (Addr × (Int × Int)), vs = L1.map (fun q => Value.ref q.1) ∧ ∀ q ∈ L1, q ∈ L := by
    intro vs
    induction vs with
    | nil => exact fun _ => ⟨[], rfl, fun _ h => nomatch h⟩
    | cons v vs ih =>
      intro h
      obtain ⟨q, hq, e⟩ := h v List.mem_cons_self
      obtain ⟨L1, e1, h1⟩ := ih fun u hu => h u (List.mem_cons_of_mem _ hu)
      exact ⟨q :: L1, by rw [e, e1]; rfl, fun r hr => (List.mem_cons.mp hr).elim (fun z => z ▸ hq) (h1 r)⟩
  obtain ⟨L', e', hs'⟩ := back out.toList fun v hv => by
    obtain ⟨q, hq, e⟩ := List.mem_map.mp (pm.mem_iff.mp (a1.mem_iff.mp hv))
    exact ⟨q, hq, e.symm⟩
  have hnd : (L.map (·.2)).Nodup := by
    have h := R.nd
    rw [List.map_map] at h
    exact List.Pairwise.imp (fun {a b} (hne : ¬ _) => hne) (List.pairwise_map.mpr ((List.pairwise_map.mp h).imp fun {a b} hne z => hne (by show p2l a.2 = p2l b.2; rw [z])))
  have pL : L'.Perm L := by
    have nL : L.Nodup := nodup_of_map hnd
    have pm2 : (L'.map (fun q => Value.ref q.1)).Perm (L.map fun q => Value.ref q.1) := e' ▸ a1.trans pm
    have nref : (L.map fun q : Addr × (Int × Int) => Value.ref q.1).Nodup := List.pairwise_map.mpr (List.Pairwise.imp_of_mem (fun {q r} hq hr hne e => by
      injection e with e
      exact hne (one q hq r hr e)) nL)
    have n1 : L'.Nodup := nodup_of_map (pm2.nodup_iff.mpr nref)
    refine (List.perm_ext_iff_of_nodup n1 nL).mpr fun q => ⟨hs' q, fun hq => ?_⟩
    obtain ⟨r, hr, e⟩ := List.mem_map.mp (pm2.mem_iff.mpr (List.mem_map.mpr ⟨q, hq, rfl⟩))
    injection e with e
    rw [← one r (hs' r hr) q hq e]; exact hr
  have pw : L'.Pairwise (fun q r => ¬ LexP r.2 q.2) := by
    rw [e'] at a2
    refine List.Pairwise.imp_of_mem (fun {q r} hq hr hle => ?_) (List.pairwise_map.mp a2)
    have f1 : TS.intsOf (s1.heap.push (seqObj "list" vs.toArray 0)) (.ref q.1) = p2l q.2 := (tk q (hs' q hq)).ints
    have f2 : TS.intsOf (s1.heap.push (seqObj "list" vs.toArray 0)) (.ref r.1) = p2l r.2 := (tk r (hs' r hr)).ints
    have hle : prk C (TS.intsOf (s1.heap.push (seqObj "list" vs.toArray 0)) (.ref q.1)) ≤ prk C (TS.intsOf (s1.heap.push (seqObj "list" vs.toArray 0)) (.ref r.1)) := hle
    rw [f1, f2] at hle
    intro z
    have := (prk_lt (hk r (hs' r hr)).2 (hk q (hs' q hq)).2).mpr z
    omega
  have hfew' : L'.length < 64 := by rw [pL.length_eq]; rw [List.length_map] at hfew; exact hfew
  have hlen : (L'.map fun q => V.ref q.1).length ≤ sizeLine := by rw [List.length_map, sizeLine_eq]; omega
  have hv : Vals (L'.map fun q => V.ref q.1) out.toList := by
    rw [e']
    clear e' hs' pL pw hfew' hlen
    induction L' with
    | nil => exact .nil
    | cons q L' ih => exact .cons rfl ih
  have hn : H s1.heap.objs.size = none := I.hok.fresh hz
  have k2 : ∀ b o, s.heap.get? b = some o → (sortedHeap (s1.heap.push (seqObj "list" vs.toArray 0)) s1.heap.objs.size vs out).get? b = some o := fun b u e => by
    have q := k1 b u e
    have hlt := Heap.lt_size q
    rw [sortedHeap_old (Nat.ne_of_lt hlt) (by rw [size_push']; exact Nat.lt_succ_of_lt hlt)]
    exact Heap.get?_push_of_some _ q
  obtain ⟨hp1, gn1, dr1, tk1, os1⟩ := s1
  have g1 : gn1 = s.gens := g1
  have o1 : os1 = s.os := o1
  subst g1 o1
  have J : L2.Inv X pins σ (upd H hp1.objs.size (.lst (L'.map fun q => V.ref q.1))) { s with heap := sortedHeap (hp1.push (seqObj "list" vs.toArray 0)) hp1.objs.size vs out, drawn := dr1, toks := tk1 } :=
    I.call (ch := []) (Un.laid k2 hz hn) (I.hok.laid k2 hz ⟨hlen, out.toList, c, hv, hcc⟩) I.bare (fun _ z => nomatch z)
  exact wpAny_pure ⟨_, rfl, .ref hp1.objs.size, _, J, rfl, q L' hp1.objs.size pL hnd pw hn⟩
end
end Hull
namespace Hull
open PySem PySem.Spec PyProof.Rows L2
section
variable {P : Program} {w : World} {K : Frag} {te ta tb tc tl : TE} {t u : TT} {e e1 e2 e3 e' : List EK} {d d1 d2 : PyData} {ds rs : List PyData} {b c : Bool} {tr : TA}
abbrev encUs (qs : List (Int × Int)) : PyData := .list (qs.map encU)
/-- references to pairs -/
theorem rp_pairs {H : Hp} : ∀ {qs : List (Int × Int)} {xs : List V}, RpA K H xs (qs.map encU) → ∃ ks : List (Addr × (Int × Int)), xs = ks.map (fun p => V.ref p.1) ∧ ks.map (·.2) = qs ∧ ∀ p ∈ ks, SqT K H p.1 [.int p.2.1, .int p.2.2]
  | [], _, h => by cases h; exact ⟨[], rfl, rfl, fun _ h => nomatch h⟩
  | q :: qs, _, h => by
    cases h with
    | cons h1 h2 =>
      obtain ⟨ks, e1, e2, h3⟩ := rp_pairs h2
      cases h1 with
      | tup s r =>
        rename_i a ys
        have er : ys = [.int q.1, .int q.2] := RpA.ints (ns := [q.1, q.2]) r
        subst er
        exact ⟨(a, q) :: ks, by rw [e1]; rfl, by rw [← e2]; rfl, fun p hp => (List.mem_cons.mp hp).elim (fun z => by rw [z]; exact s) (h3 p)⟩
theorem pairs_rp {H : Hp} : ∀ {ks : List (Addr × (Int × Int))}, (∀ p ∈ ks, SqT K H p.1 [.int p.2.1, .int p.2.2]) → RpA K H (ks.map fun p => V.ref p.1) ((ks.map (·.2)).map encU)
  | [], _ => .nil
  | p :: ks, h => .cons (.tup (h p List.mem_cons_self) (.cons (.int _) (.cons (.int _) .nil))) (pairs_rp fun q hq => h q (List.mem_cons_of_mem _ hq))
theorem pick {ks : List (Addr × (Int × Int))} : ∀ {L : List (Addr × List Int)}, (∀ p ∈ L, p ∈ ks.map fun p => (p.1, p2l p.2)) → ∃ L0 : List (Addr × (Int × Int)), L = L0.map (fun p => (p.1, p2l p.2)) ∧ ∀ p ∈ L0, p ∈ ks
  | [], _ => ⟨[], rfl, fun _ h => nomatch h⟩
  | p :: L, h => by
    obtain ⟨L0, e0, h0⟩ := pick fun q hq => h q (List.mem_cons_of_mem _ hq)
    obtain ⟨q, hq, eq⟩ := List.mem_map.mp (h p List.mem_cons_self)
    exact ⟨q :: L0, by rw [← eq, e0]; rfl, fun r hr => (List.mem_cons.mp hr).elim (fun z => z ▸ hq) (h0 r)⟩
theorem ltU_lex {p q : Int × Int} : ltU p q = decide (LexP p q) := rfl
theorem ed_sortSet {C : Int} {qs : List (Int × Int)} (h : ED K te e (.list (qs.map encU)) e1) (hl : qs.length < 64) (hC : ∀ q ∈ qs, Bp C q) :
    ED K (tCB (rSortG K P w) (tCons (tCB (rSetOfT K P w) (tCons te tNil)) tNil)) e (.list ((srtB ltU qs).map encU)) e1 := fun H0 M X0 ps σ H g Q k => h H0 M X0 ps σ H g _ fun v H1 g1 => by
  obtain ⟨X, g⟩ := g1
  have r := g.tmp _ List.mem_cons_self
  cases r with
  | lst s r =>
    rename_i a xs
    obtain ⟨ks, ex, ek, hk⟩ := rp_pairs r
    have hs := hide_sub (H := H1) (X := X)
    refine ⟨a, ks.map (fun p => (p.1, p2l p.2)), rfl, SqL.of (by rw [hs _ _ s, ex, List.map_map]; rfl), fun p hp => ?_, by rw [List.length_map, ← List.length_map (f := (·.2)), ek]; exact hl, fun b L hb h1 h2 => ?_⟩
    · obtain ⟨q, hq, rfl⟩ := List.mem_map.mp hp
      exact hs.sqT (hk q hq)
    · obtain ⟨L0, rfl, h0⟩ := pick h1
      have sb : Sub H1 (upd H1 b (SetTO P w b (L0.map fun p => (p.1, p2l p.2)))) := Sub.new hb
      have gb := g.ext sb
      have sb2 : Sub (hide X H1) (hide X (upd H1 b (SetTO P w b (L0.map fun p => (p.1, p2l p.2))))) := hide_mono fun x o _ q => sb x o q
      refine ⟨b, L0, C, rfl, upd_same, fun p hp => ⟨hide_sub.sqT (sb2.sqT (hk p (h0 p hp))), hC p.2 (by rw [← ek]; exact List.mem_map.mpr ⟨p, h0 p hp, rfl⟩)⟩, fun L' p pm nd pw hp => k _ _ ⟨X, ((gb.ext (Sub.new hp)).sub fun q hq => List.mem_cons_of_mem _ hq).push ?_⟩⟩
      have hks : ∀ q ∈ L', SqT K (hide X (upd H1 b (SetTO P w b (L0.map fun p => (p.1, p2l p.2))))) q.1 [.int q.2.1, .int q.2.2] := fun q hq => sb2.sqT (hk q (h0 q (pm.mem_iff.mp hq)))
      have e : srtB ltU qs = L'.map (·.2) := by
        have nd' : (L'.map (·.2)).Nodup := (pm.map (·.2)).nodup_iff.mpr nd
        refine srtB_of ordU ?_ fun z => ?_
        · refine (List.pairwise_map.mp nd' |>.and pw |> List.pairwise_map.mpr |> fun (q : (L'.map (·.2)).Pairwise (fun a b => a ≠ b ∧ ¬ LexP b a)) => q).imp fun {a b} hab => ?_
          cases q : ltU a b with
          | true => rfl
          | false => exact absurd (ordU.tri a b q (by rw [ltU_lex]; exact decide_eq_false hab.2)) hab.1
        · constructor
          · intro hz
            obtain ⟨q, hq, rfl⟩ := List.mem_map.mp hz
            rw [← ek]
            exact List.mem_map.mpr ⟨q, h0 q (pm.mem_iff.mp hq), rfl⟩
          · intro hz
            rw [← ek] at hz
            obtain ⟨q, hq, rfl⟩ := List.mem_map.mp hz
            have := h2 (q.1, p2l q.2) (List.mem_map.mpr ⟨q, hq, rfl⟩)
            rw [List.map_map] at this
            obtain ⟨r, hr, er⟩ := List.mem_map.mp this
            have er : p2l r.2 = p2l q.2 := er
            simp only [p2l, List.cons.injEq, and_true] at er
            have er2 : r.2 = q.2 := Prod.ext er.1 er.2
            exact List.mem_map.mpr ⟨r, pm.mem_iff.mpr hr, er2⟩
      rw [e]
      exact rp_new (gb.fresh hp) hp (pairs_rp hks)
end
end Hull
namespace Hull
open PySem PySem.Spec PyProof.Rows L2
section
variable {P : Program} {w : World} {K : Frag} {te ta tb tc tl : TE} {t u : TT} {e e1 e2 e3 e' : List EK} {d d1 d2 : PyData} {ds ds' rs : List PyData} {b c : Bool} {tr : TA} {N B C : List EK → Prop} {Rt : PyData → List EK → Prop} {ts : TS}
theorem skM_new {H0 H : Hp} {M X0 X : Ap} {ps : List (V × PyData)} {σ : L2.St} {p : Addr} {xs : List V} (g : Gd K H0 M X0 X ps e σ H) (hp : H p = none) (r : RpA K (hide X H) xs ds) : SkM K H0 M X0 ps e σ (upd H p (.lst xs)) p ds := by
  have hx0 : ¬ X0 p := fun z => g.xa p (g.x0 _ z) hp
  exact ⟨_, g.newM hp, .inr rfl, hx0, fun z => hx0 (g.xm _ z), ⟨xs, upd_same, RpA.mono (hide_new hp) _ _ r⟩, lis_apart g hp⟩
/-- xs + ys, a new list that may change -/
theorem edm_cat (ha : ED K ta e (.list ds) e1) (hb : ED K tb e1 (.list ds') e2) (hz : ds.length + ds'.length ≤ 1000) : EDM K (tOp rCat ta tb) e (ds ++ ds') e2 := fun H0 M X0 ps σ H g Q k =>
  ha H0 M X0 ps σ H g _ fun x H1 g1 => hb H0 M X0 _ σ H1 g1 _ fun y H2 g2 => by
    obtain ⟨X, g⟩ := g2
    have r := g.tmp (x, .list ds) (by simp)
    have r' := g.tmp (y, .list ds') (by simp)
    cases r with
    | lst s r =>
      cases r' with
      | lst s' r' =>
        exact ⟨_, _, _, _, rfl, rfl, hide_sub _ _ s, hide_sub _ _ s', by rw [r.len, r'.len]; exact Nat.le_of_lt (small1000 hz), fun p hp => k p _ (skM_new (g.sub fun q hq => List.mem_cons_of_mem _ (List.mem_cons_of_mem _ hq)) hp (r.app r'))⟩
end
end Hull
namespace Hull
open PySem PySem.Spec PyProof.Rows L2
section
variable {K : Frag} {te ta tb tc tl : TE} {t u : TT} {e e1 e2 e3 e' : List EK} {d d1 d2 : PyData} {ds rs : List PyData} {b c : Bool} {tr : TA} {N B C : List EK → Prop} {Rt : PyData → List EK → Prop} {ts : TS}
/-! the tub -/
section
variable {H0 H H' : Hp} {M X0 X : Ap} {ps : List (V × PyData)} {σ : L2.St}
theorem Gd.turn {i : Nat} {T : Addr} {a b c a' b' c' : Int} (g : Gd K H0 M X0 X ps e σ H) (hv : e[i]? = some (.tub a b c)) (hσ : σ[i]? = some (some (.ref T))) (hs : ∀ x o, x ≠ T → H x = some o → H' x = some o) (hT : H' T = some (tubL a' b' c')) (hn : noTub (e.set i .any) = true) :
    Gd K H0 M X0 X ps (e.set i (.tub a' b' c')) σ H' := by
  obtain ⟨T', q, hM, hu, hT0⟩ := g.slot i _ hv
  rw [hσ] at q
  cases q
  have hX : X T := g.x0 _ (g.xm _ hM)
  have hs' : Sub (hide X H) (hide X H') := hide_mono fun x o hx q => hs x o (fun z => hx (z ▸ hX)) q
  refine ⟨g.x0, g.xm, g.xn, fun x hx => ?_, fun x o hx q => hs x o (fun z => hx (z ▸ hM)) (g.kp x o hx q), by rw [List.length_set]; exact g.len, fun j k hj => ?_, fun p hp => Rp.mono hs' _ _ (g.tmp p hp)⟩
  · by_cases z : x = T
    · rw [z, hT]; exact Option.some_ne_none _
    · cases q3 : H x with
      | none => exact absurd q3 (g.xa x hx)
      | some o => rw [hs x o z q3]; exact Option.some_ne_none _
  · by_cases z : j = i
    · subst z
      have := set_at hj
      subst this
      exact ⟨T, hσ, hM, hu, hT⟩
    · have hj1 : e[j]? = some k := by rw [List.getElem?_set_ne (Ne.symm z)] at hj; exact hj
      have hk := noTub_at hn (set_ne z hj1)
      have so := g.slot j k hj1
      cases k with
      | any => trivial
      | imm d =>
        obtain ⟨v, q, r⟩ := so
        exact ⟨v, q, Rp.mono hs' _ _ r⟩
      | lis ds =>
        obtain ⟨l, xs, q, h1, h2, h3, h4, r⟩ := so
        exact ⟨l, xs, q, h1, h2, h3, hs _ _ (fun z => h3 (z ▸ hM)) h4, RpA.mono hs' _ _ r⟩
      | tub a b c => cases hk
      | scr ns =>
        obtain ⟨a, q, r⟩ := so
        exact ⟨a, q, hs'.sqL r⟩
end
def tbI (a b c : Int) (k : Nat) : Int := match k with
  | 0 => a
  | 1 => b
  | _ => c
theorem tub_at (a b c : Int) {k : Nat} (hk : k < 3) : atI [V.int a, V.int b, V.int c] (k : Int) = some (.int (tbI a b c k)) := by
  match k, hk with
  | 0, _ => rfl
  | 1, _ => rfl
  | 2, _ => rfl
/-- tub[k] -/
theorem ed_tubAt {i k : Nat} {a b c : Int} (hv : e[i]? = some (.tub a b c)) (hk : Nat.blt k 3 = true := by rfl) : ED K (tOp (rIx K) (tVar i) (tC (.int (k : Int)))) e (.int (tbI a b c k)) e := fun H0 M X0 ps σ H g Q q => by
  obtain ⟨X, g0⟩ := g
  obtain ⟨T, a', h1, h2, h3⟩ := g0.slot i _ hv
  exact ⟨.ref T, a', .inl ⟨T, _, (k : Int), _, rfl, rfl, SqL.of h3, tub_at a b c (Nat.le_of_ble_eq_true hk), q _ H (Sk.int ⟨X, g0⟩ _)⟩⟩
def setT (a b c : Int) (k : Nat) (v : Int) : EK := match k with
  | 0 => .tub v b c
  | 1 => .tub a v c
  | _ => .tub a b v
/-- tub[k] = v -/
theorem gd_tub {i k : Nat} {a b c v : Int} (hv : e[i]? = some (.tub a b c)) (hk : Nat.blt k 3 = true := by rfl) (hn : noTub (e.set i .any) = true := by rfl) : GD K (gSub (tVar i) (tC (.int (k : Int))) rSetL) [i] e (.int v) (e.set i (setT a b c k v)) where
  run := fun H0 M X0 ps σ H w s Q q => by
    have hw := rp_int s.top
    subst hw
    obtain ⟨X, g⟩ := s
    obtain ⟨T, a', hM, hu, h3⟩ := g.slot i _ hv
    have hk3 : k < 3 := Nat.le_of_ble_eq_true hk
    have hX : X T := g.x0 _ (g.xm _ hM)
    have hj : ixN ([V.int a, V.int b, V.int c] : List V).length (k : Int) = some k := by
      match k, hk3 with
      | 0, _ => rfl
      | 1, _ => rfl
      | 2, _ => rfl
    refine ⟨.ref T, a', T, _, (k : Int), k, rfl, rfl, h3, hj, q σ _ ?_ rfl fun _ _ => rfl⟩
    have key : ∀ a2 b2 c2 : Int, ([V.int a, V.int b, V.int c] : List V).set k (.int v) = [.int a2, .int b2, .int c2] → Sk K H0 M X0 ps (e.set i (.tub a2 b2 c2)) σ (upd H T (.lst (([V.int a, V.int b, V.int c] : List V).set k (.int v)))) := fun a2 b2 c2 h2 =>
      ⟨X, (g.sub fun p hp => List.mem_cons_of_mem _ hp).turn hv a' (fun x o hx q => by rw [upd_ne hx]; exact q) (by rw [upd_same, h2]; rfl) hn⟩
    match k, hk3 with
    | 0, _ => exact key v b c rfl
    | 1, _ => exact key a v c rfl
    | 2, _ => exact key a b v rfl
  out := fun j hj => List.getElem?_set_ne fun z => hj (by simp [z])
abbrev rDivm : List V → Hp → VK → Prop := fun xs H Q => ∃ i j, xs = [V.int i, V.int j] ∧ CDiv i j ∧ ∀ p, H p = none → Q (.ref p) (upd H p (.tup [.int (i / j), .int (i % j)]))
theorem ed_divmod {i j : Int} (ha : ED K ta e (.int i) e1) (hb : ED K tb e1 (.int j) e2) (hc : CDiv i j) : ED K (tCB rDivm (tCons ta (tCons tb tNil))) e (.tuple [.int (i / j), .int (i % j)]) e2 := fun H0 M X0 ps σ H g Q k =>
  ha H0 M X0 ps σ H g _ fun v H1 g1 => hb H0 M X0 _ σ H1 g1 _ fun y H2 g2 => ⟨i, j, by rw [rp_int g2.top2, rp_int g2.top], hc, fun p hp => k _ _ (Sk.newTup (vs := [.int (i / j), .int (i % j)]) (ds := [.int (i / j), .int (i % j)]) ((g2.pop.pop.int (i % j)).int (i / j)) rfl hp)⟩
/-- t[lo:hi] of a tuple, not the whole of it -/
theorem ed_slT {lo hi : Option Int} {tlo thi : TO} (h : ED K te e (.tuple ds) e1) (h1 : OD K tlo e1 lo e2) (h2 : OD K thi e2 hi e3) (hw : ¬ (HT.sIx ds.length 0 lo = 0 ∧ HT.sIx ds.length ds.length hi = ds.length)) : ED K (tSl (rSlT K) te tlo thi) e (.tuple (cutD ds lo hi)) e3 := fun H0 M X0 ps σ H g Q k =>
  h H0 M X0 ps σ H g _ fun v H1 g1 => h1 H0 M X0 _ σ H1 g1 _ fun H2 g2 => h2 H0 M X0 _ σ H2 g2 _ fun H3 g3 => by
    obtain ⟨X, g⟩ := g3
    have r := g.tmp _ List.mem_cons_self
    cases r with
    | tup s r => exact ⟨_, _, rfl, hide_sub.sqT s, by rw [r.len]; exact hw, fun p hp => k _ _ ⟨X, ((g.ext (Sub.new hp)).sub fun q hq => List.mem_cons_of_mem _ hq).push (rp_newT (g.fresh hp) hp r.cut)⟩⟩
theorem ed_pow {i j : Int} (ha : ED K ta e (.int i) e1) (hb : ED K tb e1 (.int j) e2) (hc : CPow i j) : ED K (tOp (rI CPow fun i j => .int (i ^ j.toNat)) ta tb) e (.int (i ^ j.toNat)) e2 := ed_iC (g := fun i j => i ^ j.toNat) ha hb hc
/-- a call that takes a fresh list of three ints as its tub -/
theorem ed_callTF {R : Tb → List PyData → PyData → Tb → Prop} {a b c : Int} {t' : Tb} (h : EDM K te e [.int a, .int b, .int c] e1) (r : R (a, b, c) [] d t') : ED K (tCall (spT K R) [] E0 (tCons te tNil)) e d e1 := fun H0 M X0 ps σ H g Q k =>
  h H0 M X0 ps σ H g _ fun p H1 g1 => by
    obtain ⟨X, g1, hX, h0, hM, ⟨xs, hp, rx⟩, ha⟩ := g1
    have ex : xs = [.int a, .int b, .int c] := RpA.ints (ns := [a, b, c]) rx
    subst ex
    refine ⟨X, p, (a, b, c), t', [], [], d, rfl, hX, hp, g1.xa, .nil, r, fun v H' s hT rv => k v H' ⟨X, ?_⟩⟩
    have hs : Sub (hide X H1) (hide X H') := hide_mono fun x o hx q => s x o (fun z => hx (z ▸ hX)) q
    have hn : H0 p = none := (g1.xn p hX).resolve_left h0
    refine ⟨g1.x0, g1.xm, g1.xn, fun x hx => ?_, fun x o hm q => s x o (ne_of_none q hn) (g1.kp x o hm q), g1.len, fun j k hj => ?_, fun q hq => ?_⟩
    · by_cases z : x = p
      · rw [z, hT]; exact Option.some_ne_none _
      · cases q3 : H1 x with
        | none => exact absurd q3 (g1.xa x hx)
        | some o => rw [s x o z q3]; exact Option.some_ne_none _
    · have so := g1.slot j k hj
      cases k with
      | any => trivial
      | imm d =>
        obtain ⟨v, q, r⟩ := so
        exact ⟨v, q, Rp.mono hs _ _ r⟩
      | lis ds =>
        obtain ⟨l, xs, q, h1, h2, h3, h4, r⟩ := so
        exact ⟨l, xs, q, h1, h2, h3, s _ _ (ha j ds l hj q) h4, RpA.mono hs _ _ r⟩
      | tub a b c =>
        obtain ⟨T, q, h1, h2, h3⟩ := so
        exact ⟨T, q, h1, h2, s _ _ (fun (z : T = p) => hM (z ▸ h1)) h3⟩
      | scr ns =>
        obtain ⟨a, q, r⟩ := so
        exact ⟨a, q, hs.sqL r⟩
    · rcases List.mem_cons.mp hq with rfl | hq
      · exact rv
      · exact Rp.mono hs _ _ (g1.tmp q hq)
/-! a comprehension whose items turn the tub -/
def EK.stripT : EK → EK
  | .imm d => .imm d
  | .tub a b c => .tub a b c
  | _ => .any
def stripT (e : List EK) : List EK := e.map EK.stripT
theorem stripT_at {i : Nat} {k : EK} (h : (stripT e)[i]? = some k) : ∃ k', e[i]? = some k' ∧ k = k'.stripT := by
  unfold stripT at h
  rw [List.getElem?_map] at h
  cases q : e[i]? with
  | none => rw [q] at h; cases h
  | some k' =>
    rw [q] at h
    exact ⟨k', rfl, (Option.some.inj h).symm⟩
theorem Gd.innerT {H0 H : Hp} {M X0 X Y : Ap} {ps : List (V × PyData)} {σ : L2.St} {T : Addr} {i0 : Nat} {a b c : Int} (g : Gd K H0 M X0 X ps e σ H) (hv : e[i0]? = some (.tub a b c)) (hσ : σ[i0]? = some (some (.ref T))) (hn : noTub (e.set i0 .any) = true) (hXY : ∀ a, X a → Y a) (hA : ∀ a, Y a → H a ≠ none)
    (hs : ∀ (i : Nat) (d : PyData), e[i]? = some (EK.imm d) → ∃ v, σ[i]? = some (some v) ∧ Rp K (hide Y H) v d) : Gd K H (fun x => x = T) Y Y [] (stripT e) σ H where
  x0 := fun _ h => h
  xm := fun x h => by
    obtain ⟨T', q, hM, _⟩ := g.slot i0 _ hv
    rw [hσ] at q
    cases q
    rw [h]
    exact hXY _ (g.x0 _ (g.xm _ hM))
  xn := fun _ h => .inl h
  xa := hA
  kp := fun _ _ _ h => h
  len := by unfold stripT; rw [List.length_map]; exact g.len
  slot := fun i k h => by
    obtain ⟨k', q, rfl⟩ := stripT_at h
    cases k' with
    | imm d => exact hs i d q
    | tub x y z =>
      have hi : i = i0 := by
        by_cases w : i = i0
        · exact w
        · have := noTub_at hn (set_ne w q)
          cases this
      subst hi
      rw [hv] at q
      cases q
      obtain ⟨T', q, hM, _, hT⟩ := g.slot i _ hv
      rw [hσ] at q
      cases q
      exact ⟨T, hσ, rfl, fun _ h => h, hT⟩
    | _ => trivial
  tmp := fun _ h => by cases h
theorem ed_lcT {wi : TI} {g : TG} {vs : List Nat} {i0 : Nat} {tf : Nat → Tb} {l : List PyData} (hi : ID K wi e l e1) (hvt : e1[i0]? = some (.tub (tf 0).1 (tf 0).2.1 (tf 0).2.2)) (hnt : noTub (e1.set i0 .any) = true) (hnl : noLis e1 = true) (h0 : i0 ∉ vs) (hv : anyB e1 vs = true) (hl : rs.length = l.length) (hz : l.length ≤ 1000)
    (ht : ∀ (i : Nat) (d r : PyData), l[i]? = some d → rs[i]? = some r → ∃ e2 e3 js, (∀ j ∈ js, j ∈ vs) ∧ GD K g js (stripT (e1.set i0 (.tub (tf i).1 (tf i).2.1 (tf i).2.2))) d e2 ∧ ED K te e2 r e3 ∧ e3[i0]? = some (.tub (tf (i + 1)).1 (tf (i + 1)).2.1 (tf (i + 1)).2.2)) :
    ED K (tLc wi g tYes te vs) e (.list rs) (e1.set i0 (.tub (tf l.length).1 (tf l.length).2.1 (tf l.length).2.2)) := fun H0 M X0 ps σ H s Q k =>
  hi H0 M X0 ps σ H s _ fun J qs H1 w g1 D hD => by
    obtain ⟨X, g1⟩ := g1
    have hx0 : ¬ X0 D := fun z => g1.xa D (g1.x0 _ z) hD
    have hM : ¬ M D := fun z => hx0 (g1.xm _ z)
    have hi0 : i0 < e1.length := by
      cases Nat.lt_or_ge i0 e1.length with
      | inl h => exact h
      | inr h => rw [List.getElem?_eq_none h] at hvt; cases hvt
    obtain ⟨T, hσ, hMT, huT, hT⟩ := g1.slot i0 _ hvt
    have hTD : T ≠ D := fun z => by rw [z, hD] at hT; cases hT
    let en : Nat → List EK := fun i => e1.set i0 (.tub (tf i).1 (tf i).2.1 (tf i).2.2)
    have en0 : en 0 = e1 := by
      show e1.set i0 _ = e1
      apply List.ext_getElem?
      intro j
      by_cases z : j = i0
      · subst z; rw [List.getElem?_set_self hi0, hvt]
      · rw [List.getElem?_set_ne (Ne.symm z)]
    have enT : ∀ i, (en i)[i0]? = some (.tub (tf i).1 (tf i).2.1 (tf i).2.2) := fun i => List.getElem?_set_self hi0
    have enN : ∀ i, noTub ((en i).set i0 .any) = true := fun i => by show noTub ((e1.set i0 _).set i0 .any) = true; rw [List.set_set]; exact hnt
    have enL : ∀ i (j : Nat) ds l, (en i)[j]? = some (EK.lis ds) → σ[j]? = some (some (V.ref l)) → l ≠ D := fun i j ds l h => by
      by_cases z : j = i0
      · subst z; rw [enT] at h; cases h
      · have h : (e1.set i0 _)[j]? = _ := h
        rw [List.getElem?_set_ne (Ne.symm z)] at h
        have := noLis_at hnl h
        cases this
    refine ⟨fun i m H => m = l.length - i ∧ i ≤ l.length ∧ ∃ xs, Gd K H0 M X0 (fun a => X a ∨ a = D) (qs ++ ps) (en i) σ H ∧ H D = some (.lst xs) ∧ RpA K (hide (fun a => X a ∨ a = D) H) xs (rs.take i),
      ⟨_, rfl, Nat.zero_le _, [], en0 ▸ g1.newM hD, upd_same, .nil⟩, fun i m H ⟨hm, hi, xs, g2, hDx, rx⟩ => ?_⟩
    by_cases q : i < l.length
    · have hdi := List.getElem?_eq_getElem q
      have qr : i < rs.length := by rw [hl]; exact q
      have hri := List.getElem?_eq_getElem qr
      obtain ⟨hgo, hy⟩ := w.go H0 M X0 ps (en i) σ H i l[i] hdi ⟨_, g2⟩
      obtain ⟨e2, e3, js, hjs, hg, he, h3⟩ := ht i l[i] rs[i] hdi hri
      refine .inr ⟨hgo, fun H' => ∃ xs, Gd K H0 M X0 (fun a => X a ∨ a = D) (qs ++ ps) (en (i + 1)) σ H' ∧ H' D = some (.lst xs) ∧ RpA K (hide (fun a => X a ∨ a = D) H') xs (rs.take (i + 1)), fun H' ⟨xs, a, b, c⟩ => ⟨l.length - (i + 1), by omega, rfl, q, xs, a, b, c⟩, fun x H' y => ?_⟩
      have hσw : (wipe σ vs)[i0]? = some (some (.ref T)) := by rw [wipe_out h0]; exact hσ
      have gi : Gd K H (fun a => a = T) (fun a => X a ∨ a = D) (fun a => X a ∨ a = D) qs (stripT (en i)) (wipe σ vs) H := by
        have z := wipe_any (g2.innerT (Y := fun a => X a ∨ a = D) (enT i) hσ (enN i) (fun _ h => h) g2.xa fun i d h => g2.slot i _ h) (vs := vs) fun j k h hm => by
          obtain ⟨k', q', rfl⟩ := stripT_at h
          have hj : j ≠ i0 := fun z => h0 (z ▸ hm)
          have q' : (e1.set i0 _)[j]? = some k' := q'
          rw [List.getElem?_set_ne (Ne.symm hj)] at q'
          rw [any_at hv j k' q' hm]
          rfl
        exact { z with tmp := fun p hp => g2.tmp p (List.mem_append_left _ hp) }
      obtain ⟨_, g3⟩ := (w.go H (fun a => a = T) (fun a => X a ∨ a = D) [] (stripT (en i)) (wipe σ vs) H i l[i] hdi ⟨_, by rw [List.append_nil]; exact gi⟩).2 x H' y
      rw [List.append_nil] at g3
      refine hg.run H (fun a => a = T) (fun a => X a ∨ a = D) [] (wipe σ vs) H' x (g3.sub fun p hp => by
        rcases List.mem_cons.mp hp with h | h
        · rw [h]; exact List.mem_cons_self
        · cases h) _ fun σ2 H2 s2 l2 o2 => ⟨?_, ?_⟩
      · have e2' := wipe_eq (σ := wipe σ vs) (σ' := σ2) (vs := vs) l2 fun i hi => o2 i fun z => hi (hjs i z)
        rw [e2']
        exact wipe_eq (wipe_length σ vs) fun i hi => wipe_out hi
      · show te σ2 H2 fun y H4 => ∃ acc, H4 D = some (.lst acc) ∧ acc.length < sizeLine ∧ ∃ xs, Gd K H0 M X0 (fun a => X a ∨ a = D) (qs ++ ps) (en (i + 1)) σ (upd H4 D (.lst (acc ++ [y]))) ∧ (upd H4 D (.lst (acc ++ [y]))) D = some (.lst xs) ∧
          RpA K (hide (fun a => X a ∨ a = D) (upd H4 D (.lst (acc ++ [y])))) xs (rs.take (i + 1))
        have hσ2 : σ2[i0]? = some (some (.ref T)) := by rw [o2 i0 fun z => h0 (hjs i0 z)]; exact hσw
        refine he H (fun a => a = T) (fun a => X a ∨ a = D) [] σ2 H2 s2 _ fun v H3 s3 => ?_
        obtain ⟨Z, s3⟩ := s3
        obtain ⟨T', qT, hMT', _, hT3⟩ := s3.slot i0 _ h3
        cases (show T' = T from hMT')
        have hkp : ∀ a o, a ≠ T → H a = some o → H3 a = some o := fun a o ha h => s3.kp a o ha h
        have rv := Rp.mono (hide_less s3.x0) _ _ (s3.tmp _ List.mem_cons_self)
        have g5 := g2.turn (enT i) hσ (fun a o ha h => hkp a o ha h) hT3 (enN i)
        have ee : (en i).set i0 (.tub (tf (i + 1)).1 (tf (i + 1)).2.1 (tf (i + 1)).2.2) = en (i + 1) := List.set_set ..
        rw [ee] at g5
        have hD3 : H3 D = some (.lst xs) := hkp D _ (Ne.symm hTD) hDx
        have hTX : X T := g1.x0 _ (g1.xm _ hMT)
        refine ⟨xs, hD3, by rw [rx.len, List.length_take]; exact small1000 (by omega), xs ++ [v], g5.updM (.inr rfl) hx0 hM (enL (i + 1)), upd_same, ?_⟩
        rw [hide_upd (X := fun a => X a ∨ a = D) (.inr rfl), List.take_succ, hri]
        exact (RpA.mono (hide_mono fun a o hx h => hkp a o (fun z => hx (.inl (z ▸ hTX))) h) _ _ rx).app (.cons rv .nil)
    · have hie : i = l.length := by omega
      subst hie
      refine .inl ⟨w.stop H0 M X0 ps (en l.length) σ H ⟨_, g2⟩, k _ H ⟨_, (g2.sub fun p hp => List.mem_append_right _ hp).freeze (.inr rfl) hx0 hDx ?_ (enL l.length)⟩⟩
      rw [List.take_of_length_le (by rw [hl]; exact Nat.le_refl _)] at rx
      exact rx
end
end Hull
namespace Hull
open PySem PySem.Spec PyProof.Rows L2
section
variable {K : Frag} {te ta tb tc tl : TE} {t u : TT} {e e1 e2 e3 e' : List EK} {d d1 d2 : PyData} {ds rs : List PyData} {b c : Bool} {tr : TA} {N N' B C : List EK → Prop} {Rt : PyData → List EK → Prop} {ts us : TS}
theorem ed_ixS {b : Bool} {k : Int} (ha : ED K ta e (sq b ds) e1) (hb : ED K tb e1 (.int k) e2) (h : atI ds k = some d) : ED K (tOp (rIx K) ta tb) e d e2 := by
  cases b with
  | true => exact ed_ixL ha hb h
  | false => exact ed_ixT ha hb h
theorem ed_lenS {b : Bool} {tr : TE} (h : ED K tr e (sq b ds) e1) : ED K (tCB (fun xs H Q => ∃ p ys, xs = [.ref p] ∧ (SqL K H p ys ∨ SqT K H p ys) ∧ Q (.int ys.length) H) (tCons tr tNil)) e (.int ds.length) e1 := by
  cases b with
  | true => exact ed_lenL h
  | false => exact ed_lenT h
/-- a list that was being filled is a value from here on -/
theorem Sk.freezeV {H0 H : Hp} {M X0 : Ap} {ps : List (V × PyData)} {σ : L2.St} {i : Nat} (g : Sk K H0 M X0 ps e σ H) (h : e[i]? = some (.lis ds)) (hn : noLis (e.set i .any) = true) : Sk K H0 M X0 ps (e.set i (.imm (.list ds))) σ H := by
  obtain ⟨X, g⟩ := g
  obtain ⟨l, xs, q, h1, h2, h3, h4, r⟩ := g.slot i _ h
  have g1 : Gd K H0 M X0 X ps (e.set i .any) σ H := { g with
    len := by rw [List.length_set]; exact g.len
    slot := fun j k hj => by
      by_cases z : j = i
      · subst z; rw [← set_at hj]; trivial
      · exact g.slot j k (by rw [List.getElem?_set_ne (Ne.symm z)] at hj; exact hj) }
  have g2 := g1.freeze h1 h2 h4 r fun j ds l hj _ => nomatch noLis_at hn hj
  refine ⟨_, { (g2.sub fun p hp => List.mem_cons_of_mem _ hp) with len := by rw [List.length_set]; exact g.len, slot := fun j k hj => ?_ }⟩
  by_cases z : j = i
  · subst z
    rw [← set_at hj]
    exact ⟨.ref l, q, g2.tmp _ List.mem_cons_self⟩
  · exact g2.slot j k (set_ne z (by rw [List.getElem?_set_ne (Ne.symm z)] at hj; exact hj))
theorem sd_freeze {i : Nat} (h : e[i]? = some (.lis ds)) (k : SD K ts (e.set i (.imm (.list ds))) N Rt B C) (hn : noLis (e.set i .any) = true := by rfl) : SD K ts e N Rt B C := fun H0 M X0 ps σ H g => k H0 M X0 ps σ H (g.freezeV h hn)
/-- a, b = a new list, y -/
theorem sd_parM {i j : Nat} (ha : EDM K ta e ds e1) (hb : ED K tb (strip e1) d e2) (hij : i ≠ j) (hi : Nat.blt i e1.length = true := by rfl) (hj : Nat.blt j e1.length = true := by rfl) :
    SD K (tPar i j (tCons ta (tCons tb tNil))) e (fun z => z = (e1.set i (.lis ds)).set j (.imm d)) Rt B C := fun H0 M X0 ps σ H s D n rt bk ct =>
  ha H0 M X0 ps σ H s _ fun p H1 s1 => by
    obtain ⟨X, g, hX, h0, hM, ⟨xs, hp, r⟩, hap⟩ := s1
    refine hb H1 (fun _ => False) X [] σ H1 ⟨X, g.inner (fun _ h => h) g.xa fun i d h => g.slot i _ h⟩ _ fun v H2 s2 => ?_
    obtain ⟨sb, rv⟩ := Gd.back s2
    have g2 := g.ext sb
    have hs : Sub (hide X H1) (hide X H2) := hide_mono fun a o _ q => sb a o q
    have rv := rv _ List.mem_cons_self
    have hi' : i < e1.length := Nat.le_of_ble_eq_true hi
    have hj' : j < e1.length := Nat.le_of_ble_eq_true hj
    refine ⟨.ref p, v, rfl, n _ _ H2 rfl ⟨X, { g2 with len := by rw [List.length_set, List.length_set, List.length_set, List.length_set]; exact g.len, slot := fun k q h => ?_ }⟩⟩
    by_cases z : k = j
    · subst z
      rw [← set_at h]
      exact ⟨v, by rw [List.getElem?_set_self (by rw [List.length_set, g.len]; exact hj')], rv⟩
    · rw [List.getElem?_set_ne (Ne.symm z)] at h ⊢
      by_cases z2 : k = i
      · subst z2
        rw [← set_at h]
        exact ⟨p, xs, by rw [List.getElem?_set_self (by rw [g.len]; exact hi')], hX, h0, hM, sb _ _ hp, RpA.mono hs _ _ r⟩
      · rw [List.getElem?_set_ne (Ne.symm z2)] at h ⊢
        exact g2.slot k q h
/-! bodies that give a fresh list back -/
def SDM (K : Frag) (ts : TS) (e : List EK) (rs : List PyData) : Prop :=
  ∀ (H0 : Hp) (M X0 : Ap) (ps : List (V × PyData)) (σ : L2.St) (H : Hp), Sk K H0 M X0 ps e σ H → ∀ D : Ends, (∀ p e' σ' H', SkM K H0 M X0 ps e' σ' H' p rs → D.rt (.ref p) H') → ts D σ H
theorem sdm_seq (h : SD K ts e N (fun _ _ => False) (fun _ => False) (fun _ => False)) (h2 : ∀ e', N e' → SDM K us e' rs) : SDM K (tSeq ts us) e rs := fun H0 M X0 ps σ H g D k =>
  h H0 M X0 ps σ H g _ (fun e' σ' H' x s => h2 e' x H0 M X0 ps σ' H' s D k) (fun _ _ _ _ _ z => z.elim) (fun _ _ _ z => z.elim) (fun _ _ _ z => z.elim)
theorem sdm_then (h : SD K ts e (fun z => z = e1) (fun _ _ => False) (fun _ => False) (fun _ => False)) (h2 : SDM K us e1 rs) : SDM K (tSeq ts us) e rs := sdm_seq h fun _ z => z ▸ h2
theorem sdm_ret {i : Nat} (h : e[i]? = some (.lis rs)) (hn : noLis (e.set i .any) = true := by rfl) : SDM K (tRet (tVar i)) e rs := fun H0 M X0 ps σ H g D k => by
  obtain ⟨X, g⟩ := g
  obtain ⟨l, xs, q, h1, h2, h3, h4, r⟩ := g.slot i _ h
  refine ⟨.ref l, q, k l (e.set i .any) σ H ⟨X, { g with len := by rw [List.length_set]; exact g.len, slot := fun j k hj => ?_ }, h1, h2, h3, ⟨xs, h4, r⟩, fun j ds l hj _ => nomatch noLis_at hn hj⟩⟩
  by_cases z : j = i
  · subst z; rw [← set_at hj]; trivial
  · exact g.slot j k (by rw [List.getElem?_set_ne (Ne.symm z)] at hj; exact hj)
theorem sdm_retE (h : EDM K te e rs e1) : SDM K (tRet te) e rs := fun H0 M X0 ps σ H g D k => h H0 M X0 ps σ H g _ fun p H1 s1 => k p e1 σ H1 s1
end
section
variable {P : Program} {w : World} {K : Frag} {mg : Str → Option Value} {base : Heap} {x : Str} {st : Stmt} {f : Addr} {fd : FuncData} {N ps : List Str} {k : Nat}
theorem def_ofF {R : List PyData → List PyData → Prop} (F : FnP K x st f fd) (hm : mg x = some (.ref f)) (S : FnScope N ps (defScope st)) (hl : ∀ ds d, R ds d → ds.length = ps.length)
    (hb : ∀ (kV doc pm : Value) (an : Option Addr) (cdv ct : Value) (us : List Value), us.length = ps.length → bindArgs (PySem.W.fnOf x x (defArgs st) (defBody st) (defScope st) .none kV doc pm an cdv ct) ⟨us, []⟩ = pure (ps.zip us))
    (body : ∀ (cdv : Value) (A : Around) (outer : List Env) (s : Shared) (H : Hp) (E : XK) (ds : List PyData) (rs : List PyData), Room k (A.deeper (envOfC x (defScope st) s.heap.objs.size f cdv)) → R ds rs →
      ∃ t, PSs (cxOf CX0 P w K mg base N x (defScope st) f cdv A outer s H E).nox (defBody st) t ∧ SDM K t (envOf N.length ds) rs) : Def P w K mg base (k + 1) x ps (spF K R) := by
  refine ⟨f, fd, F.ok S (fun vs H Q E h => ?_) (fun cdv A outer s H vs Q E hr h => ?_), hm, F.kp, F.bindsN hb⟩
  · obtain ⟨X, ds, d, _, r, hR, _⟩ := h
    rw [r.len]
    exact hl ds d hR
  · obtain ⟨X, ds, rs, hX, r, hR, q⟩ := h
    obtain ⟨t, h1, h2⟩ := body cdv A outer s H E ds rs hr hR
    have hN : ps.length ≤ N.length := by have := congrArg List.length S.pre; rw [List.length_take] at this; omega
    refine ⟨t, h1.nox, h2 H (fun _ => False) X [] (start N vs) H (start_gd (hl ds rs hR) hN hX r) _ fun p e' σ' H' s1 => ?_⟩
    obtain ⟨Y, g, hY, h0, _, ⟨xs, hp, rx⟩, _⟩ := s1
    exact q p xs H' (fun a o h => g.kp a o (fun z => z) h) ((g.xn p hY).resolve_left h0) hp (RpA.mono (hide_less fun a z => z.elim (g.x0 a) (fun z => z ▸ hY)) _ _ rx)
end
end Hull
namespace Hull
open PySem PySem.Spec PyProof.Rows L2
section
variable {K : Frag} {te ta tb tc tl : TE} {t u : TT} {e e1 e2 e3 e' : List EK} {d d1 d2 : PyData} {ds rs : List PyData} {b c : Bool} {tr : TA} {N N' B C : List EK → Prop} {Rt : PyData → List EK → Prop} {ts us : TS}
/-! the script: a list that is only read -/
theorem ed_lenX {i : Nat} {ns : List Int} (hv : e[i]? = some (.scr ns)) :
    ED K (tCB (fun xs H Q => ∃ p ys, xs = [.ref p] ∧ (SqL K H p ys ∨ SqT K H p ys) ∧ Q (.int ys.length) H) (tCons (tVar i) tNil)) e (.int ns.length) e := fun H0 M X0 ps σ H g Q k => by
  obtain ⟨X, g0⟩ := g
  obtain ⟨a, q, s⟩ := g0.slot i _ hv
  exact ⟨.ref a, q, a, ns.map V.int, rfl, .inl (hide_sub.sqL s), by rw [List.length_map]; exact k _ H (Sk.int ⟨X, g0⟩ _)⟩
theorem atI_mapInt {ns : List Int} {k n : Int} (h : atI ns k = some n) : atI (ns.map V.int) k = some (V.int n) := by
  unfold atI at h ⊢
  rw [List.length_map]
  cases q : ixN ns.length k with
  | none => rw [q] at h; cases h
  | some j =>
    rw [q] at h
    show (ns.map V.int)[j]? = _
    rw [List.getElem?_map, show ns[j]? = some n from h]
    rfl
theorem ed_ixX {i : Nat} {ns : List Int} {k n : Int} (hv : e[i]? = some (.scr ns)) (hb : ED K tb e (.int k) e) (h : atI ns k = some n) : ED K (tOp (rIx K) (tVar i) tb) e (.int n) e := fun H0 M X0 ps σ H g Q q => by
  obtain ⟨X, g0⟩ := g
  obtain ⟨a, z, _⟩ := g0.slot i _ hv
  refine ⟨.ref a, z, hb H0 M X0 ps σ H ⟨X, g0⟩ _ fun y H1 g1 => ?_⟩
  obtain ⟨X1, g1⟩ := g1
  have hy := rp_int (g1.at_ List.mem_cons_self)
  obtain ⟨a', z', s⟩ := g1.slot i _ hv
  rw [z] at z'
  cases z'
  exact .inl ⟨a, _, k, .int n, rfl, hy, hide_sub.sqL s, atI_mapInt h, q _ H1 (Sk.int ⟨X1, g1.sub fun p hp => List.mem_cons_of_mem _ hp⟩ _)⟩
theorem rpa_ints {H : Hp} : ∀ (ns : List Int), RpA K H (ns.map V.int) (ns.map PyData.int)
  | [] => .nil
  | n :: ns => .cons (.int n) (rpa_ints ns)
theorem ed_slX {i : Nat} {ns : List Int} {lo hi : Option Int} {tlo thi : TO} (hv : e[i]? = some (.scr ns)) (h1 : OD K tlo e lo e) (h2 : OD K thi e hi e) : ED K (tSl (rSlL K) (tVar i) tlo thi) e (.list (cutD (ns.map .int) lo hi)) e := fun H0 M X0 ps σ H g Q k => by
  obtain ⟨X0', g0⟩ := g
  obtain ⟨a, z, _⟩ := g0.slot i _ hv
  refine ⟨.ref a, z, h1 H0 M X0 _ σ H ⟨X0', g0⟩ _ fun H2 g2 => h2 H0 M X0 _ σ H2 g2 _ fun H3 g3 => ?_⟩
  obtain ⟨X, g⟩ := g3
  obtain ⟨a', z', s⟩ := g.slot i _ hv
  rw [z] at z'
  cases z'
  exact ⟨a, _, rfl, hide_sub.sqL s, fun p hp => k _ _ ⟨X, (g.ext (Sub.new hp)).push (rp_new (g.fresh hp) hp (rpa_ints ns).cut)⟩⟩
/-! a def that reads the script and gives a fresh list back -/
def spX (K : Frag) (R : List Int → List PyData → List PyData → Prop) : Sp := fun vs H Q _ => ∃ (X : Ap) (a : Addr) (ns : List Int) (ws : List V) (ds : List PyData) (rs : List PyData),
  vs = .ref a :: ws ∧ (∀ a, X a → H a ≠ none) ∧ SqL K (hide X H) a (ns.map V.int) ∧ RpA K (hide X H) ws ds ∧ R ns ds rs ∧
  ∀ p xs H', Sub H H' → H p = none → H' p = some (.lst xs) → RpA K (hide (fun a => X a ∨ a = p) H') xs rs → Q (.ref p) H'
theorem skM_ret {H0 H1 H' : Hp} {M X0 X : Ap} {ps : List (V × PyData)} {σ : L2.St} {p : Addr} {xs : List V} (g1 : Gd K H0 M X0 X ps e1 σ H1) (s : Sub H1 H') (hp : H1 p = none) (hx : H' p = some (.lst xs)) (rv : RpA K (hide (fun a => X a ∨ a = p) H') xs rs) : SkM K H0 M X0 ps e1 σ H' p rs := by
  have hx0 : ¬ X0 p := fun z => g1.xa p (g1.x0 _ z) hp
  have hM : ¬ M p := fun z => hx0 (g1.xm _ z)
  have hap := lis_apart g1 hp
  have hs : Sub (hide X H1) (hide (fun a => X a ∨ a = p) H') := fun a u q => by
    have q0 := hide_sub _ _ q
    have hX : ¬ X a := fun z => by
      unfold hide at q
      rw [if_pos z] at q
      cases q
    exact hide_at (fun z => z.elim hX (ne_of_none q0 hp)) (s _ _ q0)
  have g2 := g1.ext s
  refine ⟨fun a => X a ∨ a = p, ⟨fun a h => .inl (g1.x0 a h), g1.xm, fun a h => ?_, fun a h => ?_, g2.kp, g2.len, fun i k h => ?_, fun q hq => Rp.mono hs _ _ (g1.tmp q hq)⟩, .inr rfl, hx0, hM, ⟨xs, hx, rv⟩, hap⟩
  · rcases h with h | h
    · exact g1.xn a h
    · refine .inr ?_
      cases q : H0 a with
      | none => rfl
      | some u =>
        have := g1.kp a u (by rw [h]; exact hM) q
        rw [h, hp] at this
        cases this
  · rcases h with h | h
    · exact g2.xa a h
    · rw [h, hx]; exact Option.some_ne_none _
  · have so := g1.slot i k h
    cases k with
    | any => trivial
    | imm d =>
      obtain ⟨v, q, r⟩ := so
      exact ⟨v, q, Rp.mono hs _ _ r⟩
    | lis ds =>
      obtain ⟨l, xs, q, h1, h2, h3, h4, r⟩ := so
      exact ⟨l, xs, q, .inl h1, h2, h3, s _ _ h4, RpA.mono hs _ _ r⟩
    | tub a b c =>
      obtain ⟨T, q, h1, h2, h3⟩ := so
      exact ⟨T, q, h1, h2, s _ _ h3⟩
    | scr ns =>
      obtain ⟨a, q, r⟩ := so
      exact ⟨a, q, hs.sqL r⟩
theorem edm_callX {R : List Int → List PyData → List PyData → Prop} {i : Nat} {ns : List Int} (hv : e[i]? = some (.scr ns)) (h : AD K tr e ds e) (r : R ns ds rs) : EDM K (tCall (spX K R) [] E0 (tCons (tVar i) tr)) e rs e := fun H0 M X0 ps σ H g Q k => by
  obtain ⟨X0', g0⟩ := g
  obtain ⟨a, z, _⟩ := g0.slot i _ hv
  refine ⟨.ref a, z, h H0 M X0 ps σ H ⟨X0', g0⟩ _ fun vs H1 hl g1 => ?_⟩
  obtain ⟨X, g1⟩ := g1
  obtain ⟨a', z', s⟩ := g1.slot i _ hv
  rw [z] at z'
  cases z'
  exact ⟨X, a, ns, vs, ds, rs, by rw [List.append_nil], g1.xa, s, g1.args hl, r, fun p xs H' sb hp hx rv => k _ H' (skM_ret (g1.sub fun p hp => List.mem_append_right _ hp) sb hp hx rv)⟩
end
section
variable {P : Program} {w : World} {K : Frag} {mg : Str → Option Value} {base : Heap} {x : Str} {st : Stmt} {f : Addr} {fd : FuncData} {N ps : List Str} {k : Nat}
theorem start_gdS {H : Hp} {X : Ap} {a : Addr} {ns : List Int} {vs : List V} {ds : List PyData} (hl : ds.length + 1 = ps.length) (hN : ps.length ≤ N.length) (hX : ∀ a, X a → H a ≠ none) (hs : SqL K (hide X H) a (ns.map V.int)) (r : RpA K (hide X H) vs ds) :
    Sk K H (fun _ => False) X [] (.scr ns :: envOf (N.length - 1) ds) (start N (.ref a :: vs)) H := by
  have hv := r.len
  refine ⟨X, ⟨fun _ h => h, fun a h => h.elim, fun _ h => .inl h, hX, fun _ _ _ h => h, ?_, fun i k h => ?_, fun _ h => by cases h⟩⟩
  · unfold L2.start envOf
    simp only [List.length_cons, List.length_append, List.length_map, List.length_replicate]
    omega
  · cases i with
    | zero =>
      cases Option.some.inj h
      exact ⟨a, rfl, hs⟩
    | succ i =>
      rw [List.getElem?_cons_succ] at h
      unfold envOf at h
      by_cases q : i < ds.length
      · rw [List.getElem?_append_left (by simpa using q), List.getElem?_map] at h
        rw [List.getElem?_eq_getElem q] at h
        cases Option.some.inj h
        obtain ⟨v, a, b⟩ := r.get (List.getElem?_eq_getElem q)
        refine ⟨v, ?_, b⟩
        unfold L2.start
        rw [List.map_cons, List.cons_append, List.getElem?_cons_succ, List.getElem?_append_left (by rw [List.length_map]; omega), List.getElem?_map, a]
        rfl
      · rw [List.getElem?_append_right (by simpa using q), List.getElem?_replicate] at h
        split at h
        · cases Option.some.inj h
          trivial
        · cases h
theorem def_ofX {R : List Int → List PyData → List PyData → Prop} (F : FnP K x st f fd) (hm : mg x = some (.ref f)) (S : FnScope N ps (defScope st)) (hl : ∀ ns ds d, R ns ds d → ds.length + 1 = ps.length)
    (hb : ∀ (kV doc pm : Value) (an : Option Addr) (cdv ct : Value) (us : List Value), us.length = ps.length → bindArgs (PySem.W.fnOf x x (defArgs st) (defBody st) (defScope st) .none kV doc pm an cdv ct) ⟨us, []⟩ = pure (ps.zip us))
    (body : ∀ (cdv : Value) (A : Around) (outer : List Env) (s : Shared) (H : Hp) (E : XK) (ns : List Int) (ds : List PyData) (rs : List PyData), Room k (A.deeper (envOfC x (defScope st) s.heap.objs.size f cdv)) → R ns ds rs →
      ∃ t, PSs (cxOf CX0 P w K mg base N x (defScope st) f cdv A outer s H E).nox (defBody st) t ∧ SDM K t (.scr ns :: envOf (N.length - 1) ds) rs) : Def P w K mg base (k + 1) x ps (spX K R) := by
  refine ⟨f, fd, F.ok S (fun vs H Q E h => ?_) (fun cdv A outer s H vs Q E hr h => ?_), hm, F.kp, F.bindsN hb⟩
  · obtain ⟨X, a, ns, ws, ds, d, rfl, _, _, r, hR, _⟩ := h
    rw [List.length_cons, r.len]
    exact hl ns ds d hR
  · obtain ⟨X, a, ns, ws, ds, rs, rfl, hX, hs, r, hR, q⟩ := h
    obtain ⟨t, h1, h2⟩ := body cdv A outer s H E ns ds rs hr hR
    have hN : ps.length ≤ N.length := by have := congrArg List.length S.pre; rw [List.length_take] at this; omega
    refine ⟨t, h1.nox, h2 H (fun _ => False) X [] (start N (.ref a :: ws)) H (start_gdS (hl ns ds rs hR) hN hX hs r) _ fun p e' σ' H' s1 => ?_⟩
    obtain ⟨Y, g, hY, h0, _, ⟨xs, hp, rx⟩, _⟩ := s1
    exact q p xs H' (fun a o h => g.kp a o (fun z => z) h) ((g.xn p hY).resolve_left h0) hp (RpA.mono (hide_less fun a z => z.elim (g.x0 a) (fun z => z ▸ hY)) _ _ rx)
/-! defs below which repr may run: no repr is under way around them -/
structure FnG (P : Program) (w : World) (K : Frag) (mg : Str → Option Value) (base : Heap) (k : Nat) (f : Addr) (fd : FuncData) (ps : List Str) (sp : Sp) : Prop where
  len : ∀ vs H Q, sp vs H Q E0 → vs.length = ps.length
  run : ∀ (A : Around) (outer : List Env) (s : Shared) (H : Hp) (args : Args) (us : List Value) (vs : List V) (Q : VK), Room k A → A.guards = some [] → Env0 P w K mg base A outer s H → BindsTo s fd args (ps.zip us) → Vals vs us → sp vs H Q E0 →
    codeAny (model P w) A (.call (.ref f) args) (CR CX0 outer P w H s Q E0) s
structure DefG (P : Program) (w : World) (K : Frag) (mg : Str → Option Value) (base : Heap) (k : Nat) (x : Str) (ps : List Str) (sp : Sp) : Prop where
  ex : ∃ (f : Addr) (fd : FuncData), FnG P w K mg base k f fd ps sp ∧ mg x = some (.ref f) ∧ PySem.W.keepIn K (.ref f) = true ∧ Binds K fd ps []
theorem pe_defG {X : Cx} {sp : Sp} {p pos : Pos} {a : Expr} {as : List Expr} {t : TA} (G : DefG X.prog X.w X.K X.mg X.base k x ps sp) (hr : Room k X.A) (hq : X.A.guards = some []) (hg : Gl X x) (ha : PA X (a :: as) t)
    (hdb : (x == ("__debug__" : Str)) = false := by decide) (he : starEach (a :: as) X.env = (false, eval a X.env) :: starEach as X.env := by rfl) (hpl : (backTo pos (starEach as X.env)).any (·.1) = false := by rfl) :
    PE X (.Call (.Name x p) (a :: as) [] pos) (tCall sp [] E0 t) := by
  obtain ⟨f, fd, F, hm, kp, hb⟩ := G.ex
  refine ⟨fun pins s σ H Q I h => wpAny_Call_Name_kw (ld_glob I hg hm (PySem.W.callWith_K (h₀ := X.base) I.ok.mod.kin kp (thn (ha.run pos pins s σ H _ I h) fun us s1 ⟨vs, H1, I1, r, q⟩ => ⟨I1.kIn, ?_⟩) he hpl) hdb)⟩
  have r2 : Vals (vs ++ []) (us ++ []) := by rw [List.append_nil, List.append_nil]; exact r
  have bn := hb s1 us I1.kIn (by rw [← r2.length]; exact F.len _ _ _ q)
  refine wpAny_call (codeAny_mono (F.run X.A X.stack s1 H1 ⟨us, []⟩ _ _ Q hr hq I1.env0 bn r2 q) fun r s' z => ?_)
  match r, z with
  | .ok (.ret u), z => exact I1.after z
  | .ok .next, z => exact False.elim z
  | .ok .brk, z => exact False.elim z
  | .ok .cont, z => exact False.elim z
  | .error e, z => exact False.elim z
theorem fnG_of {sp : Sp} (F : FnP K x st f fd) (S : FnScope N ps (defScope st)) (len : ∀ vs H Q, sp vs H Q E0 → vs.length = ps.length)
    (body : ∀ (cdv : Value) (A : Around) (outer : List Env) (s : Shared) (H : Hp) (vs : List V) (Q : VK), Room k (A.deeper (envOfC x (defScope st) s.heap.objs.size f cdv)) → A.guards = some [] → sp vs H Q E0 →
      ∃ t, PSs (cxOf CX0 P w K mg base N x (defScope st) f cdv A outer s H E0) (defBody st) t ∧ t { nx := fun _ H' => Q .non H', rt := Q } (start N vs) H) : FnG P w K mg base (k + 1) f fd ps sp := by
  obtain ⟨oc, od, dV, kV, doc, pm, an, cdv, ct, osl, rfl, lk, hcd, _, _⟩ := F.ex
  refine ⟨len, fun A outer s H args us vs Q hr hq e0 hb rv hsp => ?_⟩
  have up : ∀ b o, base.get? b = some o → s.heap.get? b = some o := fun b o z => (e0.bs b o z).1
  have kin := e0.mod.kin.keeps up
  have kinds : ∀ y ∈ ps.zip us, (defScope st).names.lookup y.1 = some .local ∨ ((defScope st).names.lookup y.1 = some .cell ∧ ((cellsFrom (s.heap.objs.size + 1) (defScope st).names []).lookup y.1).isSome = true) := fun y hy => by
    obtain ⟨n, v⟩ := y
    exact (S.par n (List.of_mem_zip hy).1).imp id fun q => ⟨q, PySem.W.cellsFrom_some _ _ _ (.inl q)⟩
  refine codeAny_call_function hr.depth (kin _ _ lk) rfl S.co S.gen rfl (PySem.W.codeRec_of kin hcd) (hb _ _ _ _ (wpAny_newFunctionEnv_cells S.kind kinds fun env he s1 z => ?_))
  subst he
  obtain ⟨t, ht, h2⟩ := body cdv A outer s H vs Q (hr.deeper _) hq hsp
  refine ⟨(e0.mod.nolimit.keeps up).keeps z.toInCall.keep, codeAny_func (wpAny_mono (ht.run [] s1 (start N vs) H _ (inv_start S hr.hd e0 (len _ _ _ hsp) rv z) h2) (fun fl s' hs => ?_) fun _ _ hs => hs)⟩
  match fl, hs with
  | .ret u, ⟨v, σ', H', J, rv, q⟩ => exact ⟨v, H', J.os, J.bare, J.base, J.hok, rv, q⟩
  | .next, ⟨σ', H', J, q⟩ => exact ⟨.non, H', J.os, J.bare, J.base, J.hok, rfl, q⟩
  | .brk, ⟨_, _, _, q⟩ => exact False.elim q
  | .cont, ⟨_, _, _, q⟩ => exact False.elim q
theorem defG_ofT {R : Tb → List PyData → PyData → Tb → Prop} (F : FnP K x st f fd) (hm : mg x = some (.ref f)) (S : FnScope N ps (defScope st)) (hl : ∀ b ds d b', R b ds d b' → ds.length + 1 = ps.length)
    (hb : ∀ (kV doc pm : Value) (an : Option Addr) (cdv ct : Value) (us : List Value), us.length = ps.length → bindArgs (PySem.W.fnOf x x (defArgs st) (defBody st) (defScope st) .none kV doc pm an cdv ct) ⟨us, []⟩ = pure (ps.zip us))
    (body : ∀ (cdv : Value) (A : Around) (outer : List Env) (s : Shared) (H : Hp) (b : Tb) (ds : List PyData) (d : PyData) (b' : Tb), Room k (A.deeper (envOfC x (defScope st) s.heap.objs.size f cdv)) → A.guards = some [] → R b ds d b' →
      ∃ t, PSs (cxOf CX0 P w K mg base N x (defScope st) f cdv A outer s H E0).nox (defBody st) t ∧ DoesT K t N.length b ds d b') : DefG P w K mg base (k + 1) x ps (spT K R) := by
  refine ⟨f, fd, fnG_of F S (fun vs H Q h => ?_) (fun cdv A outer s H vs Q hr hq h => ?_), hm, F.kp, F.bindsN hb⟩
  · obtain ⟨X, T, t, t', ws, ds, d, rfl, _, _, _, r, hR, _⟩ := h
    rw [List.length_cons, r.len]
    exact hl t ds d t' hR
  · obtain ⟨X, T, b, b', ws, ds, d, rfl, hT, hH, hX, r, hR, q⟩ := h
    obtain ⟨t, h1, h2⟩ := body cdv A outer s H b ds d b' hr hq hR
    have hN : ps.length ≤ N.length := by have := congrArg List.length S.pre; rw [List.length_take] at this; omega
    refine ⟨t, h1.nox, h2 H (fun a => a = T) X [] (start N (.ref T :: ws)) H (start_gdT (hl b ds d b' hR) hN hX hT hH r) _ (fun _ _ _ z => z.elim) (fun v r e' σ' H' hr g => ?_) (fun _ _ _ z => z.elim) fun _ _ _ z => z.elim⟩
    obtain ⟨hr, hb⟩ := hr
    obtain ⟨Y, g⟩ := g
    obtain ⟨T', _, hM, _, hT'⟩ := g.slot 0 _ hb
    cases (show T' = T from hM)
    exact q v H' (fun a o ha h => g.kp a o ha h) hT' (hr ▸ Rp.mono (hide_less g.x0) _ _ (g.tmp _ List.mem_cons_self))
/-- the law's promise -/
def spL (K : Frag) (n : Nat) : Sp := fun vs H Q _ => ∃ (a : Addr) (ns : List Int), vs = [.ref a] ∧ SqL K H a (ns.map V.int) ∧ ns.length ≤ n ∧ ∀ H', Q (.bl true) H'
theorem hide_no {H : Hp} : hide (fun _ => False) H = H := by
  funext a
  unfold hide
  exact if_neg fun z => z
theorem defG_ofL {n : Nat} {y : Str} (F : FnP K x st f fd) (hm : mg x = some (.ref f)) (S : FnScope N [y] (defScope st))
    (hb : ∀ (kV doc pm : Value) (an : Option Addr) (cdv ct : Value) (us : List Value), us.length = ([y] : List Str).length → bindArgs (PySem.W.fnOf x x (defArgs st) (defBody st) (defScope st) .none kV doc pm an cdv ct) ⟨us, []⟩ = pure (([y] : List Str).zip us))
    (body : ∀ (cdv : Value) (A : Around) (outer : List Env) (s : Shared) (H : Hp) (ns : List Int), Room k (A.deeper (envOfC x (defScope st) s.heap.objs.size f cdv)) → A.guards = some [] → ns.length ≤ n →
      ∃ t, PSs (cxOf CX0 P w K mg base N x (defScope st) f cdv A outer s H E0).nox (defBody st) t ∧ SD K t (.scr ns :: envOf (N.length - 1) []) (fun _ => False) (fun r _ => r = .bool true) (fun _ => False) (fun _ => False)) : FnG P w K mg base (k + 1) f fd [y] (spL K n) := by
  refine fnG_of F S (fun vs H Q h => ?_) (fun cdv A outer s H vs Q hr hq h => ?_)
  · obtain ⟨a, ns, rfl, _⟩ := h
    rfl
  · obtain ⟨a, ns, rfl, hs, hn, q⟩ := h
    obtain ⟨t, h1, h2⟩ := body cdv A outer s H ns hr hq hn
    have hN : ([y] : List Str).length ≤ N.length := by have := congrArg List.length S.pre; rw [List.length_take] at this; omega
    refine ⟨t, h1.nox, h2 H (fun _ => False) (fun _ => False) [] (start N [.ref a]) H (start_gdS (ps := [y]) (ds := []) rfl hN (fun _ z => z.elim) (by rw [hide_no]; exact hs) .nil) _ (fun _ _ _ z => z.elim) (fun v r e' σ' H' hr g => ?_) (fun _ _ _ z => z.elim) fun _ _ _ z => z.elim⟩
    subst hr
    rw [rp_bl g.top]
    exact q H'
/-! repr -/
def rRepr (K : Frag) : List V → Hp → VK → Prop := fun vs H Q => ∃ (a : Addr) (d : PyData), vs = [.ref a] ∧ Dp K H (.ref a) d ∧ d.showable = true ∧ d.hasDict = false ∧ d.depth ≤ 60 ∧ d.shown.length ≤ sizeLine ∧ Q (.str d.shown) H
theorem cr_repr {X : Cx} (hq : X.A.guards = some []) (hu : X.A.units + 64 < cLine) : CallR X (.builtin "repr") (rRepr X.K) := by
  intro pins s σ H vs us Q I r h
  obtain ⟨a, d, rfl, hd, h1, h2, h3, h4, q⟩ := h
  rw [Vals.ref1 r]
  obtain ⟨as, rd⟩ := Dp.reads I d _ (.ref a) hd rfl
  exact repr_of_reads' rd h1 (PyData.noDict_hsm h2) hq (by omega) (fun _ _ z => z) (fun h' u tk hk => ⟨.str d.shown, H, I.kept (t' := tk) hk, ⟨u, rfl⟩, q⟩) h4
theorem ed_repr {te : TE} {e e1 : List EK} {ds : List PyData} (h : ED K te e (.list ds) e1) (h1 : (PyData.list ds).showable = true) (h2 : (PyData.list ds).hasDict = false) (h3 : (PyData.list ds).depth ≤ 60) (h4 : (PyData.list ds).shown.length ≤ sizeLine) :
    ED K (tCB (rRepr K) (tCons te tNil)) e (.str (PyData.list ds).shown) e1 := fun H0 M X0 ps σ H g Q k => h H0 M X0 ps σ H g _ fun v H1 g1 => by
  have r := Rp.dp _ _ g1.top
  cases r with
  | lst s r => exact ⟨_, _, rfl, .lst s r, h1, h2, h3, h4, k _ _ (g1.pop.str _)⟩
/-! a call by names, both the other way round -/
def flipG {α : Type} (us ws : List α) : List α := match us, ws with
  | [], [a, b] => [b, a]
  | _, _ => []
structure DefK (P : Program) (w : World) (K : Frag) (mg : Str → Option Value) (base : Heap) (k : Nat) (x : Str) (ps ks : List Str) (sp : Sp) : Prop where
  ex : ∃ (f : Addr) (fd : FuncData), FnOk P w K mg base CX0 k f fd ps sp ∧ mg x = some (.ref f) ∧ PySem.W.keepIn K (.ref f) = true ∧ KBinds K fd ps ks flipG flipG
theorem kb_flip {p1 p2 : Str} (F : FnP K x st f fd) (h : ∀ (kV doc pm : Value) (an : Option Addr) (cdv ct : Value) (a b : Value), bindArgs (PySem.W.fnOf x x (defArgs st) (defBody st) (defScope st) .none kV doc pm an cdv ct) ⟨[], [(p2, a), (p1, b)]⟩ = pure [(p1, b), (p2, a)]) :
    KBinds K fd [p1, p2] [p2, p1] flipG flipG := by
  obtain ⟨oc, od, dV, kV, doc, pm, an, cdv, ct, osl, rfl, lk, hcd, hD, hK⟩ := F.ex
  have hdV : dV = .none := by
    rcases hD with ⟨_, z⟩ | ⟨z, _⟩
    · exact z
    · exact absurd rfl z
  subst hdV
  refine ⟨fun s us ws hk hl => ?_, fun r1 r2 => ?_⟩
  · match us, ws, hl with
    | [], [a, b], _ => exact .of_eq (h kV doc pm an cdv ct a b)
    | [], [], hl => cases hl
    | [], [_], hl => cases hl
    | [], _ :: _ :: _ :: _, hl => cases hl
    | _ :: _, _, hl => cases hl
  · cases r1 with
    | nil =>
      cases r2 with
      | nil => exact .nil
      | cons a r2 =>
        cases r2 with
        | nil => exact .nil
        | cons b r2 =>
          cases r2 with
          | nil => exact .cons b (.cons a .nil)
          | cons _ _ => exact .nil
    | cons a r1 => exact .nil
theorem pe_defK {X : Cx} {ks : List Str} {sp : Sp} {p pos : Pos} {kws : List Keyword} {tk : TA} (G : DefK X.prog X.w X.K X.mg X.base k x ps ks sp) (hr : Room k X.A) (hg : Gl X x) (hkw : PK X kws tk)
    (hall : (backToKw pos (keywordEach kws X.env)).all (·.1.isSome) = true := by rfl) (hks : (backToKw pos (keywordEach kws X.env)).filterMap (·.1) = ks := by rfl) (hdb : (x == ("__debug__" : Str)) = false := by decide)
    (hpl : ((backTo pos (starEach [] X.env)).any (·.1) || (backToKw pos (keywordEach kws X.env)).any (·.1.isNone)) = false := by rfl) : PE X (.Call (.Name x p) [] kws pos) (tCallK sp flipG E0 tNil tk) := by
  obtain ⟨f, fd, F, hm, kp, hb⟩ := G.ex
  refine ⟨fun pins s σ H Q I h => wpAny_Call_Name_kw (ld_glob I hg hm (PySem.W.callWith_KW0 (h₀ := X.base) I.ok.mod.kin kp hall (thn (hkw.run pos pins s σ H _ I h) fun ws s2 ⟨zs, H2, I2, rz, q2⟩ => ⟨I2.kIn, ?_⟩) hpl) hdb)⟩
  rw [hks]
  exact run_fnk (us := []) (vs := []) F hr hb pass0 I2 .nil rz q2
theorem ed_callK {ta tb : TE} {e e1 e2 : List EK} {d d1 d2 : PyData} {R : List PyData → PyData → Prop} (ha : ED K ta e d1 e1) (hb : ED K tb e1 d2 e2) (r : R [d2, d1] d) : ED K (tCallK (spP K R) flipG E0 tNil (tCons ta (tCons tb tNil))) e d e2 := fun H0 M X0 ps σ H g Q k =>
  ha H0 M X0 ps σ H g _ fun v H1 g1 => hb H0 M X0 _ σ H1 g1 _ fun y H2 g2 => by
    obtain ⟨X, g2⟩ := g2
    refine ⟨X, [d2, d1], d, g2.xa, .cons (g2.tmp _ List.mem_cons_self) (.cons (g2.tmp _ (List.mem_cons_of_mem _ List.mem_cons_self)) .nil), r, fun v H' s rv => k v H' ⟨X, ((g2.ext s).sub fun p hp => List.mem_cons_of_mem _ (List.mem_cons_of_mem _ hp)).push rv⟩⟩
/-- as def_of, for calls by names -/
theorem defK_of {R : List PyData → PyData → Prop} {p1 p2 : Str} (F : FnP K x st f fd) (hm : mg x = some (.ref f)) (S : FnScope N [p1, p2] (defScope st)) (hl : ∀ ds d, R ds d → ds.length = ([p1, p2] : List Str).length)
    (hb : ∀ (kV doc pm : Value) (an : Option Addr) (cdv ct : Value) (a b : Value), bindArgs (PySem.W.fnOf x x (defArgs st) (defBody st) (defScope st) .none kV doc pm an cdv ct) ⟨[], [(p2, a), (p1, b)]⟩ = pure [(p1, b), (p2, a)])
    (body : ∀ (cdv : Value) (A : Around) (outer : List Env) (s : Shared) (H : Hp) (E : XK) (ds : List PyData) (d : PyData), Room k (A.deeper (envOfC x (defScope st) s.heap.objs.size f cdv)) → R ds d →
      ∃ t, PSs (cxOf CX0 P w K mg base N x (defScope st) f cdv A outer s H E).nox (defBody st) t ∧ Does K t N.length ds d) : DefK P w K mg base (k + 1) x [p1, p2] [p2, p1] (spP K R) := by
  refine ⟨f, fd, F.ok S (fun vs H Q E h => ?_) (fun cdv A outer s H vs Q E hr h => ?_), hm, F.kp, kb_flip F hb⟩
  · obtain ⟨X, ds, d, _, r, hR, _⟩ := h
    rw [r.len]
    exact hl ds d hR
  · obtain ⟨X, ds, d, hX, r, hR, q⟩ := h
    obtain ⟨t, h1, h2⟩ := body cdv A outer s H E ds d hr hR
    have hN : ([p1, p2] : List Str).length ≤ N.length := by have := congrArg List.length S.pre; rw [List.length_take] at this; omega
    refine ⟨t, h1.nox, h2 H (fun _ => False) X [] (start N vs) H (start_gd (hl ds d hR) hN hX r) _ (fun e' σ' H' hd g => ?_) (fun v r e' σ' H' hr g => ?_) (fun _ _ _ z => z.elim) fun _ _ _ z => z.elim⟩
    · obtain ⟨s1, _⟩ := Gd.back g
      exact q .non H' s1 (by rw [hd]; exact .non)
    · obtain ⟨s1, r1⟩ := Gd.back g
      exact q v H' s1 (hr ▸ r1 _ List.mem_cons_self)
end
end Hull
namespace Hull
open PySem PySem.Spec PyProof.Rows L2
section
variable {P : Program} {w : World} {K : Frag} {mg : Str → Option Value} {base : Heap}
def R_is_whole (ds : List PyData) (d : PyData) : Prop := ∃ (i : Int), (True) ∧ ds = [.int i] ∧ d = .bool true
theorem c_is_whole {t0 : TE} {e0 e1 : List EK} {i : Int} (a0 : ED K t0 e0 (.int i) e1) (hp : True) : ED K (tCall (spP K R_is_whole) [] E0 (tCons t0 tNil)) e0 (.bool true) e1 := ed_call (ad_cons a0 ad_nil) ⟨i, hp, rfl, rfl⟩
abbrev DD_is_whole (P : Program) (w : World) (K : Frag) (mg : Str → Option Value) (base : Heap) : Prop := Def P w K mg base 1 "is_whole" ["value"] (spP K R_is_whole)
theorem ok_is_whole (T : Top K mg)  : DD_is_whole P w K mg base := by
  obtain ⟨f, fd, F, hm⟩ := T.df "is_whole" 2 (by decide +kernel)
  have sc : FnScope ["value"] ["value"] (defScope (top 2)) := ⟨rfl, rfl, rfl, by decide +kernel, rfl, by decide +kernel, by decide +kernel⟩
  have m_isinstance := T.fr "isinstance" (by decide +kernel)
  have m_int := T.fr "int" (by decide +kernel)
  have m_bool := T.fr "bool" (by decide +kernel)
  refine def_of F hm sc (fun ds d h => ?_) (fun _ _ _ _ _ _ us hl => match us, hl with | [_], _ => rfl) (fun cdv A outer s H E ds d hr h => ?_)
  · obtain ⟨i, hp, rfl, rfl⟩ := h
    rfl
  · obtain ⟨i, hp, rfl, rfl⟩ := h
    refine ⟨_, (pss_one (ps_ret (pe_and (pe_callB call_isi (by rfl) m_isinstance bt_isinstance (pa_cons (pv 0) (pa_cons (pe_bltn (v := .ty "int") (by rfl) m_int bt_int rfl) pa_nil))) (pe_one (pe_not (pe_callB call_isi (by rfl) m_isinstance bt_isinstance (pa_cons (pv 0) (pa_cons (pe_bltn (v := .ty "bool") (by rfl) m_bool bt_bool rfl) pa_nil)))))))), ?_⟩
    show SD K _ [.imm _] _ _ _ _
    refine sd_retD (ed_is (ed_and (ed_isi (ed_var rfl) rfl kit_int_int) fun h => (ed_not (ed_isi (ed_var rfl) rfl kit_int_bool))) ?q1)
    all_goals rfl
def R_divisor_of (ds : List PyData) (d : PyData) : Prop := ∃ (ns : List Int), (True) ∧ ds = [.tuple (ns.map .int)] ∧ d = .int (gcdN ns : Int)
theorem c_divisor_of {t0 : TE} {e0 e1 : List EK} {ns : List Int} (a0 : ED K t0 e0 (.tuple (ns.map .int)) e1) (hp : True) : ED K (tCall (spP K R_divisor_of) [] E0 (tCons t0 tNil)) e0 (.int (gcdN ns : Int)) e1 := ed_call (ad_cons a0 ad_nil) ⟨ns, hp, rfl, rfl⟩
abbrev DD_divisor_of (P : Program) (w : World) (K : Frag) (mg : Str → Option Value) (base : Heap) : Prop := Def P w K mg base 1 "divisor_of" ["numbers"] (spP K R_divisor_of)
theorem gcdN_app (ns : List Int) (n : Int) : gcdN (ns ++ [n]) = Nat.gcd (gcdN ns) n.natAbs := by unfold gcdN; rw [List.foldl_append]; rfl
theorem ok_divisor_of (T : Top K mg)  : DD_divisor_of P w K mg base := by
  obtain ⟨f, fd, F, hm⟩ := T.df "divisor_of" 5 (by decide +kernel)
  have sc : FnScope ["numbers", "found", "number"] ["numbers"] (defScope (top 5)) := ⟨rfl, rfl, rfl, by decide +kernel, rfl, by decide +kernel, by decide +kernel⟩
  refine def_of F hm sc (fun ds d h => ?_) (fun _ _ _ _ _ _ us hl => match us, hl with | [_], _ => rfl) (fun cdv A outer s H E ds d hr h => ?_)
  · obtain ⟨ns, hp, rfl, rfl⟩ := h
    rfl
  · obtain ⟨ns, hp, rfl, rfl⟩ := h
    refine ⟨_, (pss_cons (ps_set (i := 1) sc.nd rfl (Or.inl rfl) pe_int)
      (pss_cons (ps_for PassesOwn.never rfl (pi_seq (pv 0)) (pg_name (i := 2) sc.nd rfl (Or.inl rfl)) (pss_one (ps_set (i := 1) sc.nd rfl (Or.inl rfl) (pe_callBfun cr_gcd (by rfl) T.gcd (pa_cons (pv 1) (pa_cons (pv 2) pa_nil))))))
      (pss_one (ps_ret (pv 1))))), ?_⟩
    refine sd_then (sd_set ed_int) (sd_seq (N := fun e => ∃ k, e = [.imm (.tuple (ns.map .int)), .imm (.int (gcdN ns : Int)), k]) (sd_for (fun i e => ∃ k, e = [.imm (.tuple (ns.map .int)), .imm (.int (gcdN (ns.take i) : Int)), k]) (id_seqT (ed_var rfl)) ⟨.any, rfl⟩ (fun i d e' hd hI => ?_) (fun e' hI => ?_)) (fun e z => ?_))
    · obtain ⟨k, rfl⟩ := hI
      rw [List.getElem?_map] at hd
      cases hn : ns[i]? with
      | none => rw [hn] at hd; cases hd
      | some n =>
        rw [hn] at hd
        cases Option.some.inj hd
        refine ⟨_, _, gd_name, sd_imp (sd_set (ed_gcd (ed_var rfl) (ed_var rfl))) fun e' z => ⟨.imm (.int n), ?_⟩⟩
        rw [z, List.take_succ, hn]
        show _ = [_, EK.imm (.int ((gcdN (ns.take i ++ [n]) : Nat) : Int)), _]
        rw [gcdN_app]
        rfl
    · obtain ⟨k, rfl⟩ := hI
      exact ⟨k, by rw [List.length_map, List.take_length]⟩
    · obtain ⟨k, rfl⟩ := z
      exact sd_retD (ed_var rfl)
def R_sign_of (ds : List PyData) (d : PyData) : Prop := ∃ (n : Int), (True) ∧ ds = [.int n] ∧ d = .int (if 0 < n then 1 else if n < 0 then -1 else 0)
theorem c_sign_of {t0 : TE} {e0 e1 : List EK} {n : Int} (a0 : ED K t0 e0 (.int n) e1) (hp : True) : ED K (tCall (spP K R_sign_of) [] E0 (tCons t0 tNil)) e0 (.int (if 0 < n then 1 else if n < 0 then -1 else 0)) e1 := ed_call (ad_cons a0 ad_nil) ⟨n, hp, rfl, rfl⟩
abbrev DD_sign_of (P : Program) (w : World) (K : Frag) (mg : Str → Option Value) (base : Heap) : Prop := Def P w K mg base 1 "sign_of" ["number"] (spP K R_sign_of)
theorem ok_sign_of (T : Top K mg)  : DD_sign_of P w K mg base := by
  obtain ⟨f, fd, F, hm⟩ := T.df "sign_of" 8 (by decide +kernel)
  have sc : FnScope ["number"] ["number"] (defScope (top 8)) := ⟨rfl, rfl, rfl, by decide +kernel, rfl, by decide +kernel, by decide +kernel⟩
  refine def_of F hm sc (fun ds d h => ?_) (fun _ _ _ _ _ _ us hl => match us, hl with | [_], _ => rfl) (fun cdv A outer s H E ds d hr h => ?_)
  · obtain ⟨n, hp, rfl, rfl⟩ := h
    rfl
  · obtain ⟨n, hp, rfl, rfl⟩ := h
    refine ⟨_, (pss_one (ps_ret (pe_ifExp (pt_cmpR op_gt (pv 0) pe_int (nomark _)) pe_int (pe_ifExp (pt_cmpR op_lt (pv 0) pe_int (nomark _)) (pe_un un_neg pe_int) pe_int)))), ?_⟩
    show SD K _ [.imm _] _ _ _ _
    refine sd_retD (ed_if (td_test (ed_gt (ed_var rfl) ed_int)) (fun h => (ed_is ed_int ?q1)) (fun h => (ed_if (td_test (ed_lt (ed_var rfl) ed_int)) (fun h => (ed_is (ed_neg ed_int) ?q2)) (fun h => (ed_is ed_int ?q3)))))
    case q1 => rw [if_pos (of_decide_eq_true h)]
    case q2 => rename_i h1; rw [if_neg (of_decide_eq_false h1), if_pos (of_decide_eq_true h)]
    case q3 => rename_i h1; rw [if_neg (of_decide_eq_false h1), if_neg (of_decide_eq_false h)]
def R_is_reduced (ds : List PyData) (d : PyData) : Prop := ∃ (ns : List Int), (True) ∧ ds = [.tuple (ns.map .int)] ∧ d = .bool (decide (gcdN ns = 1))
theorem c_is_reduced {t0 : TE} {e0 e1 : List EK} {ns : List Int} (a0 : ED K t0 e0 (.tuple (ns.map .int)) e1) (hp : True) : ED K (tCall (spP K R_is_reduced) [] E0 (tCons t0 tNil)) e0 (.bool (decide (gcdN ns = 1))) e1 := ed_call (ad_cons a0 ad_nil) ⟨ns, hp, rfl, rfl⟩
abbrev DD_is_reduced (P : Program) (w : World) (K : Frag) (mg : Str → Option Value) (base : Heap) : Prop := Def P w K mg base 2 "is_reduced" ["numbers"] (spP K R_is_reduced)
theorem ok_is_reduced (T : Top K mg) (D_divisor_of : DD_divisor_of P w K mg base) : DD_is_reduced P w K mg base := by
  obtain ⟨f, fd, F, hm⟩ := T.df "is_reduced" 6 (by decide +kernel)
  have sc : FnScope ["numbers"] ["numbers"] (defScope (top 6)) := ⟨rfl, rfl, rfl, by decide +kernel, rfl, by decide +kernel, by decide +kernel⟩
  refine def_of F hm sc (fun ds d h => ?_) (fun _ _ _ _ _ _ us hl => match us, hl with | [_], _ => rfl) (fun cdv A outer s H E ds d hr h => ?_)
  · obtain ⟨ns, hp, rfl, rfl⟩ := h
    rfl
  · obtain ⟨ns, hp, rfl, rfl⟩ := h
    have hr1 := hr.mono (j := 1) (by decide)
    refine ⟨_, (pss_one (ps_ret (pe_cmpR op_eq (pe_def D_divisor_of hr1 (by rfl) (pa_cons (pv 0) pa_nil)) pe_int (nomark _)))), ?_⟩
    show SD K _ [.imm _] _ _ _ _
    refine sd_retD (ed_is (ed_eqI (c_divisor_of (ns := ns) (ed_var rfl) trivial) ed_int) ?q1)
    case q1 => congr 1; exact decide_eq_decide.mpr (by omega)
def R_multiple_of (ds : List PyData) (d : PyData) : Prop := ∃ (n : Int) (m : Int), (0 < n ∧ 0 < m ∧ B 8000 n ∧ B 8000 m) ∧ ds = [.int n, .int m] ∧ d = .int (Nat.lcm n.toNat m.toNat : Nat)
theorem c_multiple_of {t0 t1 : TE} {e0 e1 e2 : List EK} {n : Int} {m : Int} (a0 : ED K t0 e0 (.int n) e1) (a1 : ED K t1 e1 (.int m) e2) (hp : 0 < n ∧ 0 < m ∧ B 8000 n ∧ B 8000 m) : ED K (tCall (spP K R_multiple_of) [] E0 (tCons t0 (tCons t1 tNil))) e0 (.int (Nat.lcm n.toNat m.toNat : Nat)) e2 := ed_call (ad_cons a0 (ad_cons a1 ad_nil)) ⟨n, m, hp, rfl, rfl⟩
abbrev DD_multiple_of (P : Program) (w : World) (K : Frag) (mg : Str → Option Value) (base : Heap) : Prop := Def P w K mg base 2 "multiple_of" ["one", "two"] (spP K R_multiple_of)
theorem gcd_le_B {n m : Int} {k : Nat} (h : 0 < n) (hb : B k n) : B k (gcdN [n, m] : Int) := by
  refine hb.le ?_
  rw [gcdN2, Int.natAbs_natCast]
  exact Nat.le_of_dvd (by omega) (Nat.gcd_dvd_left _ _)
theorem lcm_of {n m : Int} (h1 : 0 < n) (h2 : 0 < m) : n.fdiv (gcdN [n, m] : Int) * m = (Nat.lcm n.toNat m.toNat : Nat) := by
  obtain ⟨a, rfl⟩ := Int.eq_ofNat_of_zero_le (Int.le_of_lt h1)
  obtain ⟨b, rfl⟩ := Int.eq_ofNat_of_zero_le (Int.le_of_lt h2)
  rw [gcdN2, Int.natAbs_natCast, Int.natAbs_natCast, Int.toNat_natCast, Int.toNat_natCast, Int.fdiv_eq_ediv_of_nonneg _ (by omega), ← Int.natCast_ediv, ← Int.natCast_mul]
  congr 1
  unfold Nat.lcm
  rw [Nat.mul_comm a b, Nat.mul_div_assoc _ (Nat.gcd_dvd_left a b), Nat.mul_comm]
theorem ok_multiple_of (T : Top K mg) (D_divisor_of : DD_divisor_of P w K mg base) : DD_multiple_of P w K mg base := by
  obtain ⟨f, fd, F, hm⟩ := T.df "multiple_of" 7 (by decide +kernel)
  have sc : FnScope ["one", "two"] ["one", "two"] (defScope (top 7)) := ⟨rfl, rfl, rfl, by decide +kernel, rfl, by decide +kernel, by decide +kernel⟩
  refine def_of F hm sc (fun ds d h => ?_) (fun _ _ _ _ _ _ us hl => match us, hl with | [_, _], _ => rfl) (fun cdv A outer s H E ds d hr h => ?_)
  · obtain ⟨n, m, hp, rfl, rfl⟩ := h
    rfl
  · obtain ⟨n, m, hp, rfl, rfl⟩ := h
    have hr1 := hr.mono (j := 1) (by decide)
    refine ⟨_, (pss_one (ps_ret (pe_op op_mulW (pe_op op_fdivX (pv 0) (pe_def D_divisor_of hr1 (by rfl) (pa_cons (pe_tup (pa_cons (pv 0) (pa_cons (pv 1) pa_nil))) pa_nil))) (pv 1)))), ?_⟩
    show SD K _ [.imm _, .imm _] _ _ _ _
    refine sd_retD (ed_is (ed_mul (ed_fdiv (ed_var rfl) (c_divisor_of (ns := [n, m]) (ed_tup (ad_cons (ed_var rfl) (ad_cons (ed_var rfl) ad_nil))) trivial) ?d1) (ed_var rfl) ?m2) ?q3)
    case m2 => 
      refine cm (a := 8000) (b := 8000) (hp.2.2.1.le ?_) hp.2.2.2 (by decide) (by decide) (by decide)
      have e : (gcdN [n, m] : Int) = partOf (gcdN [n, m]) 1 := rfl
      rw [e]
      refine fdiv_le ?_ ?_
      · rw [gcdN2]; exact Nat.gcd_pos_of_pos_left _ (by omega)
      · rw [gcdN2]; exact Int.ofNat_dvd_left.mpr (Nat.gcd_dvd_left _ _)
    case d1 => 
      refine dv ?_ (gcd_le_B hp.1 hp.2.2.1) (by decide) (by decide)
      rw [gcdN2]
      have := Nat.gcd_pos_of_pos_left (n := m.natAbs) (m := n.natAbs) (by omega)
      omega
    case q3 => rw [lcm_of hp.1 hp.2.1]
def R_ratio (ds : List PyData) (d : PyData) : Prop := ∃ (n : Int) (m : Int), (m ≠ 0 ∧ B 8200 n ∧ B 8200 m) ∧ ds = [.int n, .int m] ∧ d = encR ((n : Rat) / (m : Rat))
theorem c_ratio {t0 t1 : TE} {e0 e1 e2 : List EK} {n : Int} {m : Int} (a0 : ED K t0 e0 (.int n) e1) (a1 : ED K t1 e1 (.int m) e2) (hp : m ≠ 0 ∧ B 8200 n ∧ B 8200 m) : ED K (tCall (spP K R_ratio) [] E0 (tCons t0 (tCons t1 tNil))) e0 (encR ((n : Rat) / (m : Rat))) e2 := ed_call (ad_cons a0 (ad_cons a1 ad_nil)) ⟨n, m, hp, rfl, rfl⟩
abbrev DD_ratio (P : Program) (w : World) (K : Frag) (mg : Str → Option Value) (base : Heap) : Prop := Def P w K mg base 2 "ratio" ["number", "under"] (spP K R_ratio)
theorem part_B {n m : Int} (hm : m ≠ 0) (hb : B 8200 m) : CDivX n (partOf (gcdN [n, m]) m) ∧ CDivX m (partOf (gcdN [n, m]) m) := by
  have hg : 0 < gcdN [n, m] := by rw [gcdN2]; exact Nat.gcd_pos_of_pos_right _ (by omega)
  have h : B 8200 (partOf (gcdN [n, m]) m) := hb.le (by rw [partOf_abs, gcdN2]; exact Nat.le_of_dvd (by omega) (Nat.gcd_dvd_right _ _))
  exact ⟨dv (partOf_ne hg) h (by decide) (by decide), dv (partOf_ne hg) h (by decide) (by decide)⟩
theorem ok_ratio (T : Top K mg) (D_divisor_of : DD_divisor_of P w K mg base) : DD_ratio P w K mg base := by
  obtain ⟨f, fd, F, hm⟩ := T.df "ratio" 13 (by decide +kernel)
  have sc : FnScope ["number", "under", "part"] ["number", "under"] (defScope (top 13)) := ⟨rfl, rfl, rfl, by decide +kernel, rfl, by decide +kernel, by decide +kernel⟩
  refine def_of F hm sc (fun ds d h => ?_) (fun _ _ _ _ _ _ us hl => match us, hl with | [_, _], _ => rfl) (fun cdv A outer s H E ds d hr h => ?_)
  · obtain ⟨n, m, hp, rfl, rfl⟩ := h
    rfl
  · obtain ⟨n, m, hp, rfl, rfl⟩ := h
    have hr1 := hr.mono (j := 1) (by decide)
    refine ⟨_, (pss_cons (ps_set (i := 2) sc.nd rfl (Or.inl rfl) (pe_def D_divisor_of hr1 (by rfl) (pa_cons (pe_tup (pa_cons (pv 0) (pa_cons (pv 1) pa_nil))) pa_nil)))
      (pss_cons (ps_set (i := 2) sc.nd rfl (Or.inl rfl) (pe_ifExp (pt_cmpR op_gt (pv 1) pe_int (nomark _)) (pv 2) (pe_un un_neg (pv 2))))
      (pss_one (ps_ret (pe_tup (pa_cons (pe_op op_fdivX (pv 0) (pv 2)) (pa_cons (pe_op op_fdivX (pv 1) (pv 2)) pa_nil))))))), ?_⟩
    show SD K _ [.imm _, .imm _, .any] _ _ _ _
    refine sd_then (e1 := [.imm _, .imm _, .imm _]) (sd_set (c_divisor_of (ns := [n, m]) (ed_tup (ad_cons (ed_var rfl) (ad_cons (ed_var rfl) ad_nil))) trivial)) (
    sd_then (e1 := [.imm _, .imm _, .imm _]) (sd_set (ed_if (d := .int (partOf (gcdN [n, m]) m)) (td_test (ed_gt (ed_var rfl) ed_int)) (fun h => (ed_is (ed_var rfl) ?q1)) (fun h => (ed_is (ed_neg (ed_var rfl)) ?q2)))) (
    sd_retD (ed_is (ed_tup (ad_cons (ed_fdiv (ed_var rfl) (ed_var rfl) ?d3) (ad_cons (ed_fdiv (ed_var rfl) (ed_var rfl) ?d4) ad_nil))) ?q5)))
    case q1 => unfold partOf; rw [if_pos (of_decide_eq_true h)]
    case q2 => unfold partOf; rw [if_neg (of_decide_eq_false h)]
    case d3 => exact (part_B hp.1 hp.2.2).1
    case d4 => exact (part_B hp.1 hp.2.2).2
    case q5 => rw [rat_num n m hp.1, rat_den n m hp.1]
def R_ratio_less (ds : List PyData) (d : PyData) : Prop := ∃ (p : Rat) (q : Rat), (Sm 4000 p ∧ Sm 4000 q) ∧ ds = [encR p, encR q] ∧ d = encR (p - q)
theorem c_ratio_less {t0 t1 : TE} {e0 e1 e2 : List EK} {p : Rat} {q : Rat} (a0 : ED K t0 e0 (encR p) e1) (a1 : ED K t1 e1 (encR q) e2) (hp : Sm 4000 p ∧ Sm 4000 q) : ED K (tCall (spP K R_ratio_less) [] E0 (tCons t0 (tCons t1 tNil))) e0 (encR (p - q)) e2 := ed_call (ad_cons a0 (ad_cons a1 ad_nil)) ⟨p, q, hp, rfl, rfl⟩
abbrev DD_ratio_less (P : Program) (w : World) (K : Frag) (mg : Str → Option Value) (base : Heap) : Prop := Def P w K mg base 3 "ratio_less" ["one", "two"] (spP K R_ratio_less)
theorem ok_ratio_less (T : Top K mg) (D_ratio : DD_ratio P w K mg base) : DD_ratio_less P w K mg base := by
  obtain ⟨f, fd, F, hm⟩ := T.df "ratio_less" 14 (by decide +kernel)
  have sc : FnScope ["one", "two"] ["one", "two"] (defScope (top 14)) := ⟨rfl, rfl, rfl, by decide +kernel, rfl, by decide +kernel, by decide +kernel⟩
  refine def_of F hm sc (fun ds d h => ?_) (fun _ _ _ _ _ _ us hl => match us, hl with | [_, _], _ => rfl) (fun cdv A outer s H E ds d hr h => ?_)
  · obtain ⟨p, q, hp, rfl, rfl⟩ := h
    rfl
  · obtain ⟨p, q, hp, rfl, rfl⟩ := h
    have hr2 := hr.mono (j := 2) (by decide)
    refine ⟨_, (pss_one (ps_ret (pe_def D_ratio hr2 (by rfl) (pa_cons (pe_op op_sub (pe_op op_mulW (pe_ix (r := rIx K) ix_seq (pv 0) pe_int (fun _ _ => rfl)) (pe_ix (r := rIx K) ix_seq (pv 1) pe_int (fun _ _ => rfl))) (pe_op op_mulW (pe_ix (r := rIx K) ix_seq (pv 1) pe_int (fun _ _ => rfl)) (pe_ix (r := rIx K) ix_seq (pv 0) pe_int (fun _ _ => rfl)))) (pa_cons (pe_op op_mulW (pe_ix (r := rIx K) ix_seq (pv 0) pe_int (fun _ _ => rfl)) (pe_ix (r := rIx K) ix_seq (pv 1) pe_int (fun _ _ => rfl))) pa_nil))))), ?_⟩
    show SD K _ [.imm _, .imm _] _ _ _ _
    refine sd_retD (ed_is (c_ratio (ed_sub (ed_mul (ed_ixT (ed_var rfl) ed_int at0) (ed_ixT (ed_var rfl) ed_int at1) (cm hp.1.n hp.2.d (by decide) (by decide) (by decide))) (ed_mul (ed_ixT (ed_var rfl) ed_int at0) (ed_ixT (ed_var rfl) ed_int at1) (cm hp.2.n hp.1.d (by decide) (by decide) (by decide)))) (ed_mul (ed_ixT (ed_var rfl) ed_int at1) (ed_ixT (ed_var rfl) ed_int at1) (cm hp.1.d hp.2.d (by decide) (by decide) (by decide))) ?r1) ?q2)
    case r1 => exact ⟨ii (den_ne' p) (den_ne' q), (B.sub (B.mul hp.1.n hp.2.d) (B.mul hp.2.n hp.1.d)).mono (by decide), (B.mul hp.1.d hp.2.d).mono (by decide)⟩
    case q2 => rw [rat_sub]
def R_ratio_over (ds : List PyData) (d : PyData) : Prop := ∃ (p : Rat) (q : Rat), (Sm 4000 p ∧ Sm 4000 q ∧ q ≠ 0) ∧ ds = [encR p, encR q] ∧ d = encR (p / q)
theorem c_ratio_over {t0 t1 : TE} {e0 e1 e2 : List EK} {p : Rat} {q : Rat} (a0 : ED K t0 e0 (encR p) e1) (a1 : ED K t1 e1 (encR q) e2) (hp : Sm 4000 p ∧ Sm 4000 q ∧ q ≠ 0) : ED K (tCall (spP K R_ratio_over) [] E0 (tCons t0 (tCons t1 tNil))) e0 (encR (p / q)) e2 := ed_call (ad_cons a0 (ad_cons a1 ad_nil)) ⟨p, q, hp, rfl, rfl⟩
abbrev DD_ratio_over (P : Program) (w : World) (K : Frag) (mg : Str → Option Value) (base : Heap) : Prop := Def P w K mg base 3 "ratio_over" ["one", "two"] (spP K R_ratio_over)
theorem ok_ratio_over (T : Top K mg) (D_ratio : DD_ratio P w K mg base) : DD_ratio_over P w K mg base := by
  obtain ⟨f, fd, F, hm⟩ := T.df "ratio_over" 15 (by decide +kernel)
  have sc : FnScope ["one", "two"] ["one", "two"] (defScope (top 15)) := ⟨rfl, rfl, rfl, by decide +kernel, rfl, by decide +kernel, by decide +kernel⟩
  refine def_of F hm sc (fun ds d h => ?_) (fun _ _ _ _ _ _ us hl => match us, hl with | [_, _], _ => rfl) (fun cdv A outer s H E ds d hr h => ?_)
  · obtain ⟨p, q, hp, rfl, rfl⟩ := h
    rfl
  · obtain ⟨p, q, hp, rfl, rfl⟩ := h
    have hr2 := hr.mono (j := 2) (by decide)
    refine ⟨_, (pss_one (ps_ret (pe_def D_ratio hr2 (by rfl) (pa_cons (pe_op op_mulW (pe_ix (r := rIx K) ix_seq (pv 0) pe_int (fun _ _ => rfl)) (pe_ix (r := rIx K) ix_seq (pv 1) pe_int (fun _ _ => rfl))) (pa_cons (pe_op op_mulW (pe_ix (r := rIx K) ix_seq (pv 0) pe_int (fun _ _ => rfl)) (pe_ix (r := rIx K) ix_seq (pv 1) pe_int (fun _ _ => rfl))) pa_nil))))), ?_⟩
    show SD K _ [.imm _, .imm _] _ _ _ _
    refine sd_retD (ed_is (c_ratio (ed_mul (ed_ixT (ed_var rfl) ed_int at0) (ed_ixT (ed_var rfl) ed_int at1) (cm hp.1.n hp.2.1.d (by decide) (by decide) (by decide))) (ed_mul (ed_ixT (ed_var rfl) ed_int at1) (ed_ixT (ed_var rfl) ed_int at0) (cm hp.1.d hp.2.1.n (by decide) (by decide) (by decide))) ?r1) ?q2)
    case r1 => exact ⟨ii (den_ne' p) (num_ne hp.2.2), (B.mul hp.1.n hp.2.1.d).mono (by decide), (B.mul hp.1.d hp.2.1.n).mono (by decide)⟩
    case q2 => rw [rat_over p q hp.2.2]
def R_is_lower (ds : List PyData) (d : PyData) : Prop := ∃ (p : Rat) (q : Rat), (Sm 4000 p ∧ Sm 4000 q) ∧ ds = [encR p, encR q] ∧ d = .bool (decide (p < q))
theorem c_is_lower {t0 t1 : TE} {e0 e1 e2 : List EK} {p : Rat} {q : Rat} (a0 : ED K t0 e0 (encR p) e1) (a1 : ED K t1 e1 (encR q) e2) (hp : Sm 4000 p ∧ Sm 4000 q) : ED K (tCall (spP K R_is_lower) [] E0 (tCons t0 (tCons t1 tNil))) e0 (.bool (decide (p < q))) e2 := ed_call (ad_cons a0 (ad_cons a1 ad_nil)) ⟨p, q, hp, rfl, rfl⟩
abbrev DD_is_lower (P : Program) (w : World) (K : Frag) (mg : Str → Option Value) (base : Heap) : Prop := Def P w K mg base 1 "is_lower" ["one", "two"] (spP K R_is_lower)
theorem ok_is_lower (T : Top K mg)  : DD_is_lower P w K mg base := by
  obtain ⟨f, fd, F, hm⟩ := T.df "is_lower" 16 (by decide +kernel)
  have sc : FnScope ["one", "two"] ["one", "two"] (defScope (top 16)) := ⟨rfl, rfl, rfl, by decide +kernel, rfl, by decide +kernel, by decide +kernel⟩
  refine def_of F hm sc (fun ds d h => ?_) (fun _ _ _ _ _ _ us hl => match us, hl with | [_, _], _ => rfl) (fun cdv A outer s H E ds d hr h => ?_)
  · obtain ⟨p, q, hp, rfl, rfl⟩ := h
    rfl
  · obtain ⟨p, q, hp, rfl, rfl⟩ := h
    refine ⟨_, (pss_one (ps_ret (pe_cmpR op_lt (pe_op op_mulW (pe_ix (r := rIx K) ix_seq (pv 0) pe_int (fun _ _ => rfl)) (pe_ix (r := rIx K) ix_seq (pv 1) pe_int (fun _ _ => rfl))) (pe_op op_mulW (pe_ix (r := rIx K) ix_seq (pv 1) pe_int (fun _ _ => rfl)) (pe_ix (r := rIx K) ix_seq (pv 0) pe_int (fun _ _ => rfl))) (nomark _)))), ?_⟩
    show SD K _ [.imm _, .imm _] _ _ _ _
    refine sd_retD (ed_is (ed_lt (ed_mul (ed_ixT (ed_var rfl) ed_int at0) (ed_ixT (ed_var rfl) ed_int at1) (cm hp.1.n hp.2.d (by decide) (by decide) (by decide))) (ed_mul (ed_ixT (ed_var rfl) ed_int at0) (ed_ixT (ed_var rfl) ed_int at1) (cm hp.2.n hp.1.d (by decide) (by decide) (by decide)))) ?q1)
    case q1 => rw [rat_lt]
def R_vector (ds : List PyData) (d : PyData) : Prop := ∃ (x : Int) (y : Int) (z : Int), (z ≠ 0 ∧ B 8200 x ∧ B 8200 y ∧ B 8200 z) ∧ ds = [.int x, .int y, .int z] ∧ d = encP ⟨(x : Rat) / (z : Rat), (y : Rat) / (z : Rat)⟩
theorem c_vector {t0 t1 t2 : TE} {e0 e1 e2 e3 : List EK} {x : Int} {y : Int} {z : Int} (a0 : ED K t0 e0 (.int x) e1) (a1 : ED K t1 e1 (.int y) e2) (a2 : ED K t2 e2 (.int z) e3) (hp : z ≠ 0 ∧ B 8200 x ∧ B 8200 y ∧ B 8200 z) : ED K (tCall (spP K R_vector) [] E0 (tCons t0 (tCons t1 (tCons t2 tNil)))) e0 (encP ⟨(x : Rat) / (z : Rat), (y : Rat) / (z : Rat)⟩) e3 := ed_call (ad_cons a0 (ad_cons a1 (ad_cons a2 ad_nil))) ⟨x, y, z, hp, rfl, rfl⟩
abbrev DD_vector (P : Program) (w : World) (K : Frag) (mg : Str → Option Value) (base : Heap) : Prop := Def P w K mg base 2 "vector" ["x", "y", "w"] (spP K R_vector)
theorem part_B3 {x y w : Int} (hm : w ≠ 0) (hb : B 8200 w) (n : Int) : CDivX n (partOf (gcdN [x, y, w]) w) := by
  have hg : 0 < gcdN [x, y, w] := by rw [gcdN3]; exact Nat.gcd_pos_of_pos_right _ (by omega)
  have h : B 8200 (partOf (gcdN [x, y, w]) w) := hb.le (by rw [partOf_abs, gcdN3]; exact Nat.le_of_dvd (by omega) (Nat.gcd_dvd_right _ _))
  exact dv (partOf_ne hg) h (by decide) (by decide)
theorem ok_vector (T : Top K mg) (D_divisor_of : DD_divisor_of P w K mg base) : DD_vector P w K mg base := by
  obtain ⟨f, fd, F, hm⟩ := T.df "vector" 21 (by decide +kernel)
  have sc : FnScope ["x", "y", "w", "part"] ["x", "y", "w"] (defScope (top 21)) := ⟨rfl, rfl, rfl, by decide +kernel, rfl, by decide +kernel, by decide +kernel⟩
  refine def_of F hm sc (fun ds d h => ?_) (fun _ _ _ _ _ _ us hl => match us, hl with | [_, _, _], _ => rfl) (fun cdv A outer s H E ds d hr h => ?_)
  · obtain ⟨x, y, z, hp, rfl, rfl⟩ := h
    rfl
  · obtain ⟨x, y, z, hp, rfl, rfl⟩ := h
    have hr1 := hr.mono (j := 1) (by decide)
    refine ⟨_, (pss_cons (ps_set (i := 3) sc.nd rfl (Or.inl rfl) (pe_def D_divisor_of hr1 (by rfl) (pa_cons (pe_tup (pa_cons (pv 0) (pa_cons (pv 1) (pa_cons (pv 2) pa_nil)))) pa_nil)))
      (pss_cons (ps_set (i := 3) sc.nd rfl (Or.inl rfl) (pe_ifExp (pt_cmpR op_gt (pv 2) pe_int (nomark _)) (pv 3) (pe_un un_neg (pv 3))))
      (pss_one (ps_ret (pe_tup (pa_cons (pe_op op_fdivX (pv 0) (pv 3)) (pa_cons (pe_op op_fdivX (pv 1) (pv 3)) (pa_cons (pe_op op_fdivX (pv 2) (pv 3)) pa_nil)))))))), ?_⟩
    show SD K _ [.imm _, .imm _, .imm _, .any] _ _ _ _
    refine sd_then (e1 := [.imm _, .imm _, .imm _, .imm _]) (sd_set (c_divisor_of (ns := [x, y, z]) (ed_tup (ad_cons (ed_var rfl) (ad_cons (ed_var rfl) (ad_cons (ed_var rfl) ad_nil)))) trivial)) (
    sd_then (e1 := [.imm _, .imm _, .imm _, .imm _]) (sd_set (ed_if (d := .int (partOf (gcdN [x, y, z]) z)) (td_test (ed_gt (ed_var rfl) ed_int)) (fun h => (ed_is (ed_var rfl) ?q1)) (fun h => (ed_is (ed_neg (ed_var rfl)) ?q2)))) (
    sd_retD (ed_is (ed_tup (ad_cons (ed_fdiv (ed_var rfl) (ed_var rfl) ?d3) (ad_cons (ed_fdiv (ed_var rfl) (ed_var rfl) ?d4) (ad_cons (ed_fdiv (ed_var rfl) (ed_var rfl) ?d5) ad_nil)))) ?q6)))
    case q1 => unfold partOf; rw [if_pos (of_decide_eq_true h)]
    case q2 => unfold partOf; rw [if_neg (of_decide_eq_false h)]
    case d3 => exact part_B3 hp.1 hp.2.2.2 _
    case d4 => exact part_B3 hp.1 hp.2.2.2 _
    case d5 => exact part_B3 hp.1 hp.2.2.2 _
    case q6 => 
      obtain ⟨h1, h2, h3⟩ := pt_all x y z hp.1
      rw [h1, h2, h3]
def R_vector_sum (ds : List PyData) (d : PyData) : Prop := ∃ (p : P2) (q : P2), (Pm 4000 p ∧ Pm 4000 q) ∧ ds = [encP p, encP q] ∧ d = encP (p.add q)
theorem c_vector_sum {t0 t1 : TE} {e0 e1 e2 : List EK} {p : P2} {q : P2} (a0 : ED K t0 e0 (encP p) e1) (a1 : ED K t1 e1 (encP q) e2) (hp : Pm 4000 p ∧ Pm 4000 q) : ED K (tCall (spP K R_vector_sum) [] E0 (tCons t0 (tCons t1 tNil))) e0 (encP (p.add q)) e2 := ed_call (ad_cons a0 (ad_cons a1 ad_nil)) ⟨p, q, hp, rfl, rfl⟩
abbrev DD_vector_sum (P : Program) (w : World) (K : Frag) (mg : Str → Option Value) (base : Heap) : Prop := Def P w K mg base 3 "vector_sum" ["one", "two"] (spP K R_vector_sum)
theorem ok_vector_sum (T : Top K mg) (D_vector : DD_vector P w K mg base) : DD_vector_sum P w K mg base := by
  obtain ⟨f, fd, F, hm⟩ := T.df "vector_sum" 22 (by decide +kernel)
  have sc : FnScope ["one", "two"] ["one", "two"] (defScope (top 22)) := ⟨rfl, rfl, rfl, by decide +kernel, rfl, by decide +kernel, by decide +kernel⟩
  refine def_of F hm sc (fun ds d h => ?_) (fun _ _ _ _ _ _ us hl => match us, hl with | [_, _], _ => rfl) (fun cdv A outer s H E ds d hr h => ?_)
  · obtain ⟨p, q, hp, rfl, rfl⟩ := h
    rfl
  · obtain ⟨p, q, hp, rfl, rfl⟩ := h
    have hr2 := hr.mono (j := 2) (by decide)
    refine ⟨_, (pss_one (ps_ret (pe_def D_vector hr2 (by rfl) (pa_cons (pe_op op_add (pe_op op_mulW (pe_ix (r := rIx K) ix_seq (pv 0) pe_int (fun _ _ => rfl)) (pe_ix (r := rIx K) ix_seq (pv 1) pe_int (fun _ _ => rfl))) (pe_op op_mulW (pe_ix (r := rIx K) ix_seq (pv 1) pe_int (fun _ _ => rfl)) (pe_ix (r := rIx K) ix_seq (pv 0) pe_int (fun _ _ => rfl)))) (pa_cons (pe_op op_add (pe_op op_mulW (pe_ix (r := rIx K) ix_seq (pv 0) pe_int (fun _ _ => rfl)) (pe_ix (r := rIx K) ix_seq (pv 1) pe_int (fun _ _ => rfl))) (pe_op op_mulW (pe_ix (r := rIx K) ix_seq (pv 1) pe_int (fun _ _ => rfl)) (pe_ix (r := rIx K) ix_seq (pv 0) pe_int (fun _ _ => rfl)))) (pa_cons (pe_op op_mulW (pe_ix (r := rIx K) ix_seq (pv 0) pe_int (fun _ _ => rfl)) (pe_ix (r := rIx K) ix_seq (pv 1) pe_int (fun _ _ => rfl))) pa_nil)))))), ?_⟩
    show SD K _ [.imm _, .imm _] _ _ _ _
    refine sd_retD (ed_is (c_vector (ed_add (ed_mul (ed_ixT (ed_var rfl) ed_int at0) (ed_ixT (ed_var rfl) ed_int at2) (cm hp.1.x hp.2.w (by decide) (by decide) (by decide))) (ed_mul (ed_ixT (ed_var rfl) ed_int at0) (ed_ixT (ed_var rfl) ed_int at2) (cm hp.2.x hp.1.w (by decide) (by decide) (by decide)))) (ed_add (ed_mul (ed_ixT (ed_var rfl) ed_int at1) (ed_ixT (ed_var rfl) ed_int at2) (cm hp.1.y hp.2.w (by decide) (by decide) (by decide))) (ed_mul (ed_ixT (ed_var rfl) ed_int at1) (ed_ixT (ed_var rfl) ed_int at2) (cm hp.2.y hp.1.w (by decide) (by decide) (by decide)))) (ed_mul (ed_ixT (ed_var rfl) ed_int at2) (ed_ixT (ed_var rfl) ed_int at2) (cm hp.1.w hp.2.w (by decide) (by decide) (by decide))) ?r1) ?q2)
    case r1 => exact ⟨ii (W_ne' p) (W_ne' q), (B.add (B.mul hp.1.x hp.2.w) (B.mul hp.2.x hp.1.w)).mono (by decide), (B.add (B.mul hp.1.y hp.2.w) (B.mul hp.2.y hp.1.w)).mono (by decide), (B.mul hp.1.w hp.2.w).mono (by decide)⟩
    case q2 => rw [pt_add]
def R_vector_less (ds : List PyData) (d : PyData) : Prop := ∃ (p : P2) (q : P2), (Pm 4000 p ∧ Pm 4000 q) ∧ ds = [encP p, encP q] ∧ d = encP (p.sub q)
theorem c_vector_less {t0 t1 : TE} {e0 e1 e2 : List EK} {p : P2} {q : P2} (a0 : ED K t0 e0 (encP p) e1) (a1 : ED K t1 e1 (encP q) e2) (hp : Pm 4000 p ∧ Pm 4000 q) : ED K (tCall (spP K R_vector_less) [] E0 (tCons t0 (tCons t1 tNil))) e0 (encP (p.sub q)) e2 := ed_call (ad_cons a0 (ad_cons a1 ad_nil)) ⟨p, q, hp, rfl, rfl⟩
abbrev DD_vector_less (P : Program) (w : World) (K : Frag) (mg : Str → Option Value) (base : Heap) : Prop := Def P w K mg base 3 "vector_less" ["one", "two"] (spP K R_vector_less)
theorem ok_vector_less (T : Top K mg) (D_vector : DD_vector P w K mg base) : DD_vector_less P w K mg base := by
  obtain ⟨f, fd, F, hm⟩ := T.df "vector_less" 23 (by decide +kernel)
  have sc : FnScope ["one", "two"] ["one", "two"] (defScope (top 23)) := ⟨rfl, rfl, rfl, by decide +kernel, rfl, by decide +kernel, by decide +kernel⟩
  refine def_of F hm sc (fun ds d h => ?_) (fun _ _ _ _ _ _ us hl => match us, hl with | [_, _], _ => rfl) (fun cdv A outer s H E ds d hr h => ?_)
  · obtain ⟨p, q, hp, rfl, rfl⟩ := h
    rfl
  · obtain ⟨p, q, hp, rfl, rfl⟩ := h
    have hr2 := hr.mono (j := 2) (by decide)
    refine ⟨_, (pss_one (ps_ret (pe_def D_vector hr2 (by rfl) (pa_cons (pe_op op_sub (pe_op op_mulW (pe_ix (r := rIx K) ix_seq (pv 0) pe_int (fun _ _ => rfl)) (pe_ix (r := rIx K) ix_seq (pv 1) pe_int (fun _ _ => rfl))) (pe_op op_mulW (pe_ix (r := rIx K) ix_seq (pv 1) pe_int (fun _ _ => rfl)) (pe_ix (r := rIx K) ix_seq (pv 0) pe_int (fun _ _ => rfl)))) (pa_cons (pe_op op_sub (pe_op op_mulW (pe_ix (r := rIx K) ix_seq (pv 0) pe_int (fun _ _ => rfl)) (pe_ix (r := rIx K) ix_seq (pv 1) pe_int (fun _ _ => rfl))) (pe_op op_mulW (pe_ix (r := rIx K) ix_seq (pv 1) pe_int (fun _ _ => rfl)) (pe_ix (r := rIx K) ix_seq (pv 0) pe_int (fun _ _ => rfl)))) (pa_cons (pe_op op_mulW (pe_ix (r := rIx K) ix_seq (pv 0) pe_int (fun _ _ => rfl)) (pe_ix (r := rIx K) ix_seq (pv 1) pe_int (fun _ _ => rfl))) pa_nil)))))), ?_⟩
    show SD K _ [.imm _, .imm _] _ _ _ _
    refine sd_retD (ed_is (c_vector (ed_sub (ed_mul (ed_ixT (ed_var rfl) ed_int at0) (ed_ixT (ed_var rfl) ed_int at2) (cm hp.1.x hp.2.w (by decide) (by decide) (by decide))) (ed_mul (ed_ixT (ed_var rfl) ed_int at0) (ed_ixT (ed_var rfl) ed_int at2) (cm hp.2.x hp.1.w (by decide) (by decide) (by decide)))) (ed_sub (ed_mul (ed_ixT (ed_var rfl) ed_int at1) (ed_ixT (ed_var rfl) ed_int at2) (cm hp.1.y hp.2.w (by decide) (by decide) (by decide))) (ed_mul (ed_ixT (ed_var rfl) ed_int at1) (ed_ixT (ed_var rfl) ed_int at2) (cm hp.2.y hp.1.w (by decide) (by decide) (by decide)))) (ed_mul (ed_ixT (ed_var rfl) ed_int at2) (ed_ixT (ed_var rfl) ed_int at2) (cm hp.1.w hp.2.w (by decide) (by decide) (by decide))) ?r1) ?q2)
    case r1 => exact ⟨ii (W_ne' p) (W_ne' q), (B.sub (B.mul hp.1.x hp.2.w) (B.mul hp.2.x hp.1.w)).mono (by decide), (B.sub (B.mul hp.1.y hp.2.w) (B.mul hp.2.y hp.1.w)).mono (by decide), (B.mul hp.1.w hp.2.w).mono (by decide)⟩
    case q2 => rw [pt_sub]
def R_vector_times (ds : List PyData) (d : PyData) : Prop := ∃ (p : P2) (t : Rat), (Pm 4000 p ∧ Sm 4000 t) ∧ ds = [encP p, encR t] ∧ d = encP (p.mul t)
theorem c_vector_times {t0 t1 : TE} {e0 e1 e2 : List EK} {p : P2} {t : Rat} (a0 : ED K t0 e0 (encP p) e1) (a1 : ED K t1 e1 (encR t) e2) (hp : Pm 4000 p ∧ Sm 4000 t) : ED K (tCall (spP K R_vector_times) [] E0 (tCons t0 (tCons t1 tNil))) e0 (encP (p.mul t)) e2 := ed_call (ad_cons a0 (ad_cons a1 ad_nil)) ⟨p, t, hp, rfl, rfl⟩
abbrev DD_vector_times (P : Program) (w : World) (K : Frag) (mg : Str → Option Value) (base : Heap) : Prop := Def P w K mg base 3 "vector_times" ["one", "number"] (spP K R_vector_times)
theorem ok_vector_times (T : Top K mg) (D_vector : DD_vector P w K mg base) : DD_vector_times P w K mg base := by
  obtain ⟨f, fd, F, hm⟩ := T.df "vector_times" 24 (by decide +kernel)
  have sc : FnScope ["one", "number"] ["one", "number"] (defScope (top 24)) := ⟨rfl, rfl, rfl, by decide +kernel, rfl, by decide +kernel, by decide +kernel⟩
  refine def_of F hm sc (fun ds d h => ?_) (fun _ _ _ _ _ _ us hl => match us, hl with | [_, _], _ => rfl) (fun cdv A outer s H E ds d hr h => ?_)
  · obtain ⟨p, t, hp, rfl, rfl⟩ := h
    rfl
  · obtain ⟨p, t, hp, rfl, rfl⟩ := h
    have hr2 := hr.mono (j := 2) (by decide)
    refine ⟨_, (pss_one (ps_ret (pe_def D_vector hr2 (by rfl) (pa_cons (pe_op op_mulW (pe_ix (r := rIx K) ix_seq (pv 0) pe_int (fun _ _ => rfl)) (pe_ix (r := rIx K) ix_seq (pv 1) pe_int (fun _ _ => rfl))) (pa_cons (pe_op op_mulW (pe_ix (r := rIx K) ix_seq (pv 0) pe_int (fun _ _ => rfl)) (pe_ix (r := rIx K) ix_seq (pv 1) pe_int (fun _ _ => rfl))) (pa_cons (pe_op op_mulW (pe_ix (r := rIx K) ix_seq (pv 0) pe_int (fun _ _ => rfl)) (pe_ix (r := rIx K) ix_seq (pv 1) pe_int (fun _ _ => rfl))) pa_nil)))))), ?_⟩
    show SD K _ [.imm _, .imm _] _ _ _ _
    refine sd_retD (ed_is (c_vector (ed_mul (ed_ixT (ed_var rfl) ed_int at0) (ed_ixT (ed_var rfl) ed_int at0) (cm hp.1.x hp.2.n (by decide) (by decide) (by decide))) (ed_mul (ed_ixT (ed_var rfl) ed_int at1) (ed_ixT (ed_var rfl) ed_int at0) (cm hp.1.y hp.2.n (by decide) (by decide) (by decide))) (ed_mul (ed_ixT (ed_var rfl) ed_int at2) (ed_ixT (ed_var rfl) ed_int at1) (cm hp.1.w hp.2.d (by decide) (by decide) (by decide))) ?r1) ?q2)
    case r1 => exact ⟨ii (W_ne' p) (den_ne' t), (B.mul hp.1.x hp.2.n).mono (by decide), (B.mul hp.1.y hp.2.n).mono (by decide), (B.mul hp.1.w hp.2.d).mono (by decide)⟩
    case q2 => rw [pt_mul]
def R_vector_between (ds : List PyData) (d : PyData) : Prop := ∃ (p : P2) (q : P2) (t : Rat), (Pm 900 p ∧ Pm 900 q ∧ Sm 900 t) ∧ ds = [encP p, encP q, encR t] ∧ d = encP (p.add ((q.sub p).mul t))
theorem c_vector_between {t0 t1 t2 : TE} {e0 e1 e2 e3 : List EK} {p : P2} {q : P2} {t : Rat} (a0 : ED K t0 e0 (encP p) e1) (a1 : ED K t1 e1 (encP q) e2) (a2 : ED K t2 e2 (encR t) e3) (hp : Pm 900 p ∧ Pm 900 q ∧ Sm 900 t) : ED K (tCall (spP K R_vector_between) [] E0 (tCons t0 (tCons t1 (tCons t2 tNil)))) e0 (encP (p.add ((q.sub p).mul t))) e3 := ed_call (ad_cons a0 (ad_cons a1 (ad_cons a2 ad_nil))) ⟨p, q, t, hp, rfl, rfl⟩
abbrev DD_vector_between (P : Program) (w : World) (K : Frag) (mg : Str → Option Value) (base : Heap) : Prop := Def P w K mg base 4 "vector_between" ["one", "two", "number"] (spP K R_vector_between)
theorem ok_vector_between (T : Top K mg) (D_vector_sum : DD_vector_sum P w K mg base) (D_vector_less : DD_vector_less P w K mg base) (D_vector_times : DD_vector_times P w K mg base) : DD_vector_between P w K mg base := by
  obtain ⟨f, fd, F, hm⟩ := T.df "vector_between" 25 (by decide +kernel)
  have sc : FnScope ["one", "two", "number"] ["one", "two", "number"] (defScope (top 25)) := ⟨rfl, rfl, rfl, by decide +kernel, rfl, by decide +kernel, by decide +kernel⟩
  refine def_of F hm sc (fun ds d h => ?_) (fun _ _ _ _ _ _ us hl => match us, hl with | [_, _, _], _ => rfl) (fun cdv A outer s H E ds d hr h => ?_)
  · obtain ⟨p, q, t, hp, rfl, rfl⟩ := h
    rfl
  · obtain ⟨p, q, t, hp, rfl, rfl⟩ := h
    have hr3 := hr.mono (j := 3) (by decide)
    refine ⟨_, (pss_one (ps_ret (pe_def D_vector_sum hr3 (by rfl) (pa_cons (pv 0) (pa_cons (pe_def D_vector_times hr3 (by rfl) (pa_cons (pe_def D_vector_less hr3 (by rfl) (pa_cons (pv 1) (pa_cons (pv 0) pa_nil))) (pa_cons (pv 2) pa_nil))) pa_nil))))), ?_⟩
    show SD K _ [.imm _, .imm _, .imm _] _ _ _ _
    refine sd_retD (ed_is (c_vector_sum (ed_var rfl) (c_vector_times (c_vector_less (ed_var rfl) (ed_var rfl) ?r1) (ed_var rfl) ?r2) ?r3) ?q4)
    case r1 => exact ⟨hp.2.1.mono (by decide), hp.1.mono (by decide)⟩
    case r2 => exact ⟨(hp.2.1.sub hp.1).mono (by decide), hp.2.2.mono (by decide)⟩
    case r3 => exact ⟨hp.1.mono (by decide), ((hp.2.1.sub hp.1).mul hp.2.2).mono (by decide)⟩
    case q4 => rfl
def R_cross_of (ds : List PyData) (d : PyData) : Prop := ∃ (p : P2) (q : P2), (Pm 4000 p ∧ Pm 4000 q) ∧ ds = [encP p, encP q] ∧ d = encR (cr p q)
theorem c_cross_of {t0 t1 : TE} {e0 e1 e2 : List EK} {p : P2} {q : P2} (a0 : ED K t0 e0 (encP p) e1) (a1 : ED K t1 e1 (encP q) e2) (hp : Pm 4000 p ∧ Pm 4000 q) : ED K (tCall (spP K R_cross_of) [] E0 (tCons t0 (tCons t1 tNil))) e0 (encR (cr p q)) e2 := ed_call (ad_cons a0 (ad_cons a1 ad_nil)) ⟨p, q, hp, rfl, rfl⟩
abbrev DD_cross_of (P : Program) (w : World) (K : Frag) (mg : Str → Option Value) (base : Heap) : Prop := Def P w K mg base 3 "cross_of" ["one", "two"] (spP K R_cross_of)
theorem ok_cross_of (T : Top K mg) (D_ratio : DD_ratio P w K mg base) : DD_cross_of P w K mg base := by
  obtain ⟨f, fd, F, hm⟩ := T.df "cross_of" 26 (by decide +kernel)
  have sc : FnScope ["one", "two"] ["one", "two"] (defScope (top 26)) := ⟨rfl, rfl, rfl, by decide +kernel, rfl, by decide +kernel, by decide +kernel⟩
  refine def_of F hm sc (fun ds d h => ?_) (fun _ _ _ _ _ _ us hl => match us, hl with | [_, _], _ => rfl) (fun cdv A outer s H E ds d hr h => ?_)
  · obtain ⟨p, q, hp, rfl, rfl⟩ := h
    rfl
  · obtain ⟨p, q, hp, rfl, rfl⟩ := h
    have hr2 := hr.mono (j := 2) (by decide)
    refine ⟨_, (pss_one (ps_ret (pe_def D_ratio hr2 (by rfl) (pa_cons (pe_op op_sub (pe_op op_mulW (pe_ix (r := rIx K) ix_seq (pv 0) pe_int (fun _ _ => rfl)) (pe_ix (r := rIx K) ix_seq (pv 1) pe_int (fun _ _ => rfl))) (pe_op op_mulW (pe_ix (r := rIx K) ix_seq (pv 0) pe_int (fun _ _ => rfl)) (pe_ix (r := rIx K) ix_seq (pv 1) pe_int (fun _ _ => rfl)))) (pa_cons (pe_op op_mulW (pe_ix (r := rIx K) ix_seq (pv 0) pe_int (fun _ _ => rfl)) (pe_ix (r := rIx K) ix_seq (pv 1) pe_int (fun _ _ => rfl))) pa_nil))))), ?_⟩
    show SD K _ [.imm _, .imm _] _ _ _ _
    refine sd_retD (ed_is (c_ratio (ed_sub (ed_mul (ed_ixT (ed_var rfl) ed_int at0) (ed_ixT (ed_var rfl) ed_int at1) (cm hp.1.x hp.2.y (by decide) (by decide) (by decide))) (ed_mul (ed_ixT (ed_var rfl) ed_int at1) (ed_ixT (ed_var rfl) ed_int at0) (cm hp.1.y hp.2.x (by decide) (by decide) (by decide)))) (ed_mul (ed_ixT (ed_var rfl) ed_int at2) (ed_ixT (ed_var rfl) ed_int at2) (cm hp.1.w hp.2.w (by decide) (by decide) (by decide))) ?r1) ?q2)
    case r1 => exact ⟨ii (W_ne' p) (W_ne' q), (B.sub (B.mul hp.1.x hp.2.y) (B.mul hp.1.y hp.2.x)).mono (by decide), (B.mul hp.1.w hp.2.w).mono (by decide)⟩
    case q2 => rw [pt_cr]
end
end Hull
namespace Hull
open PySem PySem.Spec PyProof.Rows L2
section
variable {P : Program} {w : World} {K : Frag} {mg : Str → Option Value} {base : Heap}
def Sz (S : List P2) : Prop := Ps 900 S ∧ 0 < S.length ∧ S.length ≤ 100
theorem at_here {S : List P2} {i : Nat} (h : i < S.length) : atI (S.map encP) (i : Int) = some (encP (cn S i)) := atN (cn_at h)
theorem at_mod {S : List P2} {k : Int} {j : Nat} (h : 0 < S.length) (hk : k = ((j % S.length : Nat) : Int)) : atI (S.map encP) k = some (encP (cn S j)) := by
  rw [hk, atN (cn_at (Nat.mod_lt j h)), cn_mod]
theorem len_map {S : List P2} : ((S.map encP).length : Int) = (S.length : Int) := by rw [List.length_map]
theorem at_next {S : List P2} {i : Nat} (h : 0 < S.length) : atI (S.map encP) (((i : Int) + 1) % ((S.map encP).length : Int)) = some (encP (cn S (i + 1))) := by
  refine at_mod (j := i + 1) h ?_
  rw [List.length_map, Int.natCast_emod]
  rfl
theorem at_one {l : EK} {k : EK} {i : Nat} {j : Nat} {L : List EK} (h : L[i]? = some k) (hm : i ∈ ([j] : List Nat)) (hj : L[j]? = some .any) : k = .any := by
  rw [List.mem_singleton.mp hm, hj] at h
  exact (Option.some.inj h).symm
theorem at_two {k : EK} {i a b : Nat} {L : List EK} (h : L[i]? = some k) (hm : i ∈ ([a, b] : List Nat)) (ha : L[a]? = some .any) (hb : L[b]? = some .any) : k = .any := by
  rcases List.mem_cons.mp hm with z | z
  · rw [z, ha] at h; exact (Option.some.inj h).symm
  · rw [List.mem_singleton.mp z, hb] at h; exact (Option.some.inj h).symm
def R_is_between (ds : List PyData) (d : PyData) : Prop := ∃ (v : Int) (lo : Int) (hi : Int), (True) ∧ ds = [.int v, .int lo, .int hi] ∧ d = .bool (decide (lo ≤ v) && decide (v ≤ hi))
theorem c_is_between {t0 t1 t2 : TE} {e0 e1 e2 e3 : List EK} {v : Int} {lo : Int} {hi : Int} (a0 : ED K t0 e0 (.int v) e1) (a1 : ED K t1 e1 (.int lo) e2) (a2 : ED K t2 e2 (.int hi) e3) (hp : True) : ED K (tCall (spP K R_is_between) [] E0 (tCons t0 (tCons t1 (tCons t2 tNil)))) e0 (.bool (decide (lo ≤ v) && decide (v ≤ hi))) e3 := ed_call (ad_cons a0 (ad_cons a1 (ad_cons a2 ad_nil))) ⟨v, lo, hi, hp, rfl, rfl⟩
abbrev DD_is_between (P : Program) (w : World) (K : Frag) (mg : Str → Option Value) (base : Heap) : Prop := Def P w K mg base 2 "is_between" ["value", "low", "high"] (spP K R_is_between)
theorem ok_is_between (T : Top K mg) (D_is_whole : DD_is_whole P w K mg base) : DD_is_between P w K mg base := by
  obtain ⟨f, fd, F, hm⟩ := T.df "is_between" 4 (by decide +kernel)
  have sc : FnScope ["value", "low", "high"] ["value", "low", "high"] (defScope (top 4)) := ⟨rfl, rfl, rfl, by decide +kernel, rfl, by decide +kernel, by decide +kernel⟩
  refine def_of F hm sc (fun ds d h => ?_) (fun _ _ _ _ _ _ us hl => match us, hl with | [_, _, _], _ => rfl) (fun cdv A outer s H E ds d hr h => ?_)
  · obtain ⟨v, lo, hi, hp, rfl, rfl⟩ := h
    rfl
  · obtain ⟨v, lo, hi, hp, rfl, rfl⟩ := h
    have hr1 := hr.mono (j := 1) (by decide)
    refine ⟨_, (pss_one (ps_ret (pe_and (pe_def D_is_whole hr1 (by rfl) (pa_cons (pv 0) pa_nil)) (pe_one (pe_chain op_le op_le (pv 1) (pv 0) (pv 2)))))), ?_⟩
    show SD K _ [.imm _, .imm _, .imm _] _ _ _ _
    refine sd_retD (ed_is (ed_and (c_is_whole (ed_var rfl) ?r1) fun h => (ed_chainI (ed_var rfl) (ed_var rfl) fun h => (ed_var rfl))) ?q2)
    case r1 => trivial
    case q2 => rfl
def R_are_wholes (ds : List PyData) (d : PyData) : Prop := ∃ (ns : List Int) (m : Int), (ns.length ≤ 1000) ∧ ds = [.tuple (ns.map .int), .int m] ∧ d = .bool (decide ((ns.length : Int) = m))
theorem c_are_wholes {t0 t1 : TE} {e0 e1 e2 : List EK} {ns : List Int} {m : Int} (a0 : ED K t0 e0 (.tuple (ns.map .int)) e1) (a1 : ED K t1 e1 (.int m) e2) (hp : ns.length ≤ 1000) : ED K (tCall (spP K R_are_wholes) [] E0 (tCons t0 (tCons t1 tNil))) e0 (.bool (decide ((ns.length : Int) = m))) e2 := ed_call (ad_cons a0 (ad_cons a1 ad_nil)) ⟨ns, m, hp, rfl, rfl⟩
abbrev DD_are_wholes (P : Program) (w : World) (K : Frag) (mg : Str → Option Value) (base : Heap) : Prop := Def P w K mg base 2 "are_wholes" ["value", "many"] (spP K R_are_wholes)
theorem ok_are_wholes (T : Top K mg) (D_is_whole : DD_is_whole P w K mg base) : DD_are_wholes P w K mg base := by
  obtain ⟨f, fd, F, hm⟩ := T.df "are_wholes" 3 (by decide +kernel)
  have sc : FnScope ["value", "many", "number"] ["value", "many"] (defScope (top 3)) := ⟨rfl, rfl, rfl, by decide +kernel, rfl, by decide +kernel, by decide +kernel⟩
  have m_isinstance := T.fr "isinstance" (by decide +kernel)
  have m_tuple := T.fr "tuple" (by decide +kernel)
  have m_len := T.fr "len" (by decide +kernel)
  have m_all := T.fr "all" (by decide +kernel)
  refine def_of F hm sc (fun ds d h => ?_) (fun _ _ _ _ _ _ us hl => match us, hl with | [_, _], _ => rfl) (fun cdv A outer s H E ds d hr h => ?_)
  · obtain ⟨ns, m, hp, rfl, rfl⟩ := h
    rfl
  · obtain ⟨ns, m, hp, rfl, rfl⟩ := h
    have hr1 := hr.mono (j := 1) (by decide)
    refine ⟨_, (pss_one (ps_ret (pe_and (pe_callB call_isi (by rfl) m_isinstance bt_isinstance (pa_cons (pv 0) (pa_cons (pe_bltn (v := .ty "tuple") (by rfl) m_tuple bt_tuple rfl) pa_nil))) (pe_and (pe_cmpR op_eq (pe_callB call_len_seq (by rfl) m_len bt_len (pa_cons (pv 0) pa_nil)) (pv 1) (nomark _)) (pe_one (pe_callB (cr_all rfl) (by rfl) m_all bt_all (pa_cons (pe_lc (own := [("number", 2)]) rfl sc.nd (pi_seq (pv 0)) (blkOk_by (own := [("number", 2)]) (N := ["value", "many", "number"]) (sc := defScope (top 3)) (by decide +kernel)) (fun _ _ _ _ _ => (pg_name (i := 2) sc.nd rfl (Or.inl rfl))) (fun _ _ _ _ _ => pts_nil) (fun _ _ _ _ _ => (pe_def D_is_whole hr1 (by rfl) (pa_cons (pv 2) pa_nil)))) pa_nil))))))), ?_⟩
    show SD K _ [.imm _, .imm _, .any] _ _ _ _
    refine sd_retD (ed_is (ed_and (ed_isi (ed_var rfl) rfl kit_tuple_tuple) fun h => (ed_and (ed_eqI (ed_lenT (ed_var rfl)) (ed_var rfl)) fun h => (ed_all (ed_lc (rs := (ns.map fun _ => true).map .bool) (id_seqT (ed_var rfl)) ?ca1 ?cb2 ?cc3 ?cd4)))) ?q5)
    case ca1 => intro i k h hm; exact at_one (l := .any) h hm rfl
    case cb2 => simp
    case cc3 => simpa using hp
    case cd4 =>
      intro i d r hd hr'
      rw [List.getElem?_map] at hd
      cases hn : ns[i]? with
      | none => rw [hn] at hd; cases hd
      | some n =>
        rw [hn] at hd
        cases Option.some.inj hd
        have er : r = .bool true := by
          rw [List.getElem?_map, List.getElem?_map, hn] at hr'
          exact (Option.some.inj hr').symm
        rw [er]
        exact ⟨_, [2], fun j h => h, gd_name, c_is_whole (ed_var rfl) trivial⟩
    case q5 =>
      congr 1
      rw [List.length_map]
      simp
def R_is_ratio (ds : List PyData) (d : PyData) : Prop := ∃ (q : Rat), (True) ∧ ds = [encR q] ∧ d = .bool true
theorem c_is_ratio {t0 : TE} {e0 e1 : List EK} {q : Rat} (a0 : ED K t0 e0 (encR q) e1) (hp : True) : ED K (tCall (spP K R_is_ratio) [] E0 (tCons t0 tNil)) e0 (.bool true) e1 := ed_call (ad_cons a0 ad_nil) ⟨q, hp, rfl, rfl⟩
abbrev DD_is_ratio (P : Program) (w : World) (K : Frag) (mg : Str → Option Value) (base : Heap) : Prop := Def P w K mg base 3 "is_ratio" ["value"] (spP K R_is_ratio)
theorem ok_is_ratio (T : Top K mg) (D_are_wholes : DD_are_wholes P w K mg base) (D_is_reduced : DD_is_reduced P w K mg base) : DD_is_ratio P w K mg base := by
  obtain ⟨f, fd, F, hm⟩ := T.df "is_ratio" 12 (by decide +kernel)
  have sc : FnScope ["value"] ["value"] (defScope (top 12)) := ⟨rfl, rfl, rfl, by decide +kernel, rfl, by decide +kernel, by decide +kernel⟩
  refine def_of F hm sc (fun ds d h => ?_) (fun _ _ _ _ _ _ us hl => match us, hl with | [_], _ => rfl) (fun cdv A outer s H E ds d hr h => ?_)
  · obtain ⟨q, hp, rfl, rfl⟩ := h
    rfl
  · obtain ⟨q, hp, rfl, rfl⟩ := h
    have hr2 := hr.mono (j := 2) (by decide)
    refine ⟨_, (pss_one (ps_ret (pe_and (pe_def D_are_wholes hr2 (by rfl) (pa_cons (pv 0) (pa_cons pe_int pa_nil))) (pe_and (pe_cmpR op_gt (pe_ix (r := rIx K) ix_seq (pv 0) pe_int (fun _ _ => rfl)) pe_int (nomark _)) (pe_one (pe_def D_is_reduced hr2 (by rfl) (pa_cons (pv 0) pa_nil))))))), ?_⟩
    show SD K _ [.imm _] _ _ _ _
    refine sd_retD (ed_is (ed_and (c_are_wholes (ns := [q.num, (q.den : Int)]) (ed_var rfl) ed_int (Nat.le_of_ble_eq_true rfl)) fun h => (ed_and (ed_gt (ed_ixT (ed_var rfl) ed_int at1) ed_int) fun h => (c_is_reduced (ns := [q.num, (q.den : Int)]) (ed_var rfl) trivial))) ?q1)
    case q1 =>
      have h := q.den_pos
      rw [gcd_red, decide_eq_true (show (0 : Int) < (q.den : Int) by omega)]
      rfl
def R_is_share (ds : List PyData) (d : PyData) : Prop := ∃ (q : Rat), (True) ∧ ds = [encR q] ∧ d = .bool (decide (0 ≤ q) && decide (q < 1))
theorem c_is_share {t0 : TE} {e0 e1 : List EK} {q : Rat} (a0 : ED K t0 e0 (encR q) e1) (hp : True) : ED K (tCall (spP K R_is_share) [] E0 (tCons t0 tNil)) e0 (.bool (decide (0 ≤ q) && decide (q < 1))) e1 := ed_call (ad_cons a0 ad_nil) ⟨q, hp, rfl, rfl⟩
abbrev DD_is_share (P : Program) (w : World) (K : Frag) (mg : Str → Option Value) (base : Heap) : Prop := Def P w K mg base 4 "is_share" ["value"] (spP K R_is_share)
theorem ok_is_share (T : Top K mg) (D_is_ratio : DD_is_ratio P w K mg base) : DD_is_share P w K mg base := by
  obtain ⟨f, fd, F, hm⟩ := T.df "is_share" 17 (by decide +kernel)
  have sc : FnScope ["value"] ["value"] (defScope (top 17)) := ⟨rfl, rfl, rfl, by decide +kernel, rfl, by decide +kernel, by decide +kernel⟩
  refine def_of F hm sc (fun ds d h => ?_) (fun _ _ _ _ _ _ us hl => match us, hl with | [_], _ => rfl) (fun cdv A outer s H E ds d hr h => ?_)
  · obtain ⟨q, hp, rfl, rfl⟩ := h
    rfl
  · obtain ⟨q, hp, rfl, rfl⟩ := h
    have hr3 := hr.mono (j := 3) (by decide)
    refine ⟨_, (pss_one (ps_ret (pe_and (pe_def D_is_ratio hr3 (by rfl) (pa_cons (pv 0) pa_nil)) (pe_one (pe_chain op_le op_lt pe_int (pe_ix (r := rIx K) ix_seq (pv 0) pe_int (fun _ _ => rfl)) (pe_ix (r := rIx K) ix_seq (pv 0) pe_int (fun _ _ => rfl))))))), ?_⟩
    show SD K _ [.imm _] _ _ _ _
    refine sd_retD (ed_is (ed_and (c_is_ratio (ed_var rfl) ?r1) fun h => (ed_chainI ed_int (ed_ixT (ed_var rfl) ed_int at0) fun h => (ed_ixT (ed_var rfl) ed_int at1))) ?q2)
    case r1 => trivial
    case q2 =>
      have e1 : decide ((0 : Int) ≤ q.num) = decide (0 ≤ q) := decide_eq_decide.mpr Rat.num_nonneg
      have e2 : decide (q.num < (q.den : Int)) = decide (q < 1) := decide_eq_decide.mpr (by rw [Rat.lt_iff]; simp)
      rw [e1, e2]
      rfl
def R_is_vector (ds : List PyData) (d : PyData) : Prop := ∃ (p : P2), (True) ∧ ds = [encP p] ∧ d = .bool true
theorem c_is_vector {t0 : TE} {e0 e1 : List EK} {p : P2} (a0 : ED K t0 e0 (encP p) e1) (hp : True) : ED K (tCall (spP K R_is_vector) [] E0 (tCons t0 tNil)) e0 (.bool true) e1 := ed_call (ad_cons a0 ad_nil) ⟨p, hp, rfl, rfl⟩
abbrev DD_is_vector (P : Program) (w : World) (K : Frag) (mg : Str → Option Value) (base : Heap) : Prop := Def P w K mg base 3 "is_vector" ["value"] (spP K R_is_vector)
theorem ok_is_vector (T : Top K mg) (D_are_wholes : DD_are_wholes P w K mg base) (D_is_reduced : DD_is_reduced P w K mg base) : DD_is_vector P w K mg base := by
  obtain ⟨f, fd, F, hm⟩ := T.df "is_vector" 19 (by decide +kernel)
  have sc : FnScope ["value"] ["value"] (defScope (top 19)) := ⟨rfl, rfl, rfl, by decide +kernel, rfl, by decide +kernel, by decide +kernel⟩
  refine def_of F hm sc (fun ds d h => ?_) (fun _ _ _ _ _ _ us hl => match us, hl with | [_], _ => rfl) (fun cdv A outer s H E ds d hr h => ?_)
  · obtain ⟨p, hp, rfl, rfl⟩ := h
    rfl
  · obtain ⟨p, hp, rfl, rfl⟩ := h
    have hr2 := hr.mono (j := 2) (by decide)
    refine ⟨_, (pss_one (ps_ret (pe_and (pe_def D_are_wholes hr2 (by rfl) (pa_cons (pv 0) (pa_cons pe_int pa_nil))) (pe_and (pe_cmpR op_gt (pe_ix (r := rIx K) ix_seq (pv 0) pe_int (fun _ _ => rfl)) pe_int (nomark _)) (pe_one (pe_def D_is_reduced hr2 (by rfl) (pa_cons (pv 0) pa_nil))))))), ?_⟩
    show SD K _ [.imm _] _ _ _ _
    refine sd_retD (ed_is (ed_and (c_are_wholes (ns := [p.X, p.Y, (p.W : Int)]) (ed_var rfl) ed_int (Nat.le_of_ble_eq_true rfl)) fun h => (ed_and (ed_gt (ed_ixT (ed_var rfl) ed_int at2) ed_int) fun h => (c_is_reduced (ns := [p.X, p.Y, (p.W : Int)]) (ed_var rfl) trivial))) ?q1)
    case q1 =>
      have h := W_pos p
      rw [gcd_pt, decide_eq_true (show (0 : Int) < (p.W : Int) by omega)]
      rfl
def R_is_pointing (ds : List PyData) (d : PyData) : Prop := ∃ (u : Int × Int), (gcdN [u.1, u.2] = 1) ∧ ds = [.tuple [.int u.1, .int u.2]] ∧ d = .bool true
theorem c_is_pointing {t0 : TE} {e0 e1 : List EK} {u : Int × Int} (a0 : ED K t0 e0 (.tuple [.int u.1, .int u.2]) e1) (hp : gcdN [u.1, u.2] = 1) : ED K (tCall (spP K R_is_pointing) [] E0 (tCons t0 tNil)) e0 (.bool true) e1 := ed_call (ad_cons a0 ad_nil) ⟨u, hp, rfl, rfl⟩
abbrev DD_is_pointing (P : Program) (w : World) (K : Frag) (mg : Str → Option Value) (base : Heap) : Prop := Def P w K mg base 3 "is_pointing" ["value"] (spP K R_is_pointing)
theorem ok_is_pointing (T : Top K mg) (D_are_wholes : DD_are_wholes P w K mg base) (D_is_reduced : DD_is_reduced P w K mg base) : DD_is_pointing P w K mg base := by
  obtain ⟨f, fd, F, hm⟩ := T.df "is_pointing" 20 (by decide +kernel)
  have sc : FnScope ["value"] ["value"] (defScope (top 20)) := ⟨rfl, rfl, rfl, by decide +kernel, rfl, by decide +kernel, by decide +kernel⟩
  refine def_of F hm sc (fun ds d h => ?_) (fun _ _ _ _ _ _ us hl => match us, hl with | [_], _ => rfl) (fun cdv A outer s H E ds d hr h => ?_)
  · obtain ⟨u, hp, rfl, rfl⟩ := h
    rfl
  · obtain ⟨u, hp, rfl, rfl⟩ := h
    have hr2 := hr.mono (j := 2) (by decide)
    refine ⟨_, (pss_one (ps_ret (pe_and (pe_def D_are_wholes hr2 (by rfl) (pa_cons (pv 0) (pa_cons pe_int pa_nil))) (pe_one (pe_def D_is_reduced hr2 (by rfl) (pa_cons (pv 0) pa_nil)))))), ?_⟩
    show SD K _ [.imm _] _ _ _ _
    refine sd_retD (ed_is (ed_and (c_are_wholes (ns := [u.1, u.2]) (ed_var rfl) ed_int (Nat.le_of_ble_eq_true rfl)) fun h => (c_is_reduced (ns := [u.1, u.2]) (ed_var rfl) trivial)) ?q1)
    case q1 =>
      rw [hp]
      rfl
def R_level_of (ds : List PyData) (d : PyData) : Prop := ∃ (u : Int × Int) (p : P2), (B 100 u.1 ∧ B 100 u.2 ∧ Pm 4000 p) ∧ ds = [.tuple [.int u.1, .int u.2], encP p] ∧ d = encR (lev u p)
theorem c_level_of {t0 t1 : TE} {e0 e1 e2 : List EK} {u : Int × Int} {p : P2} (a0 : ED K t0 e0 (.tuple [.int u.1, .int u.2]) e1) (a1 : ED K t1 e1 (encP p) e2) (hp : B 100 u.1 ∧ B 100 u.2 ∧ Pm 4000 p) : ED K (tCall (spP K R_level_of) [] E0 (tCons t0 (tCons t1 tNil))) e0 (encR (lev u p)) e2 := ed_call (ad_cons a0 (ad_cons a1 ad_nil)) ⟨u, p, hp, rfl, rfl⟩
abbrev DD_level_of (P : Program) (w : World) (K : Frag) (mg : Str → Option Value) (base : Heap) : Prop := Def P w K mg base 3 "level_of" ["up", "point"] (spP K R_level_of)
theorem ok_level_of (T : Top K mg) (D_ratio : DD_ratio P w K mg base) : DD_level_of P w K mg base := by
  obtain ⟨f, fd, F, hm⟩ := T.df "level_of" 27 (by decide +kernel)
  have sc : FnScope ["up", "point"] ["up", "point"] (defScope (top 27)) := ⟨rfl, rfl, rfl, by decide +kernel, rfl, by decide +kernel, by decide +kernel⟩
  refine def_of F hm sc (fun ds d h => ?_) (fun _ _ _ _ _ _ us hl => match us, hl with | [_, _], _ => rfl) (fun cdv A outer s H E ds d hr h => ?_)
  · obtain ⟨u, p, hp, rfl, rfl⟩ := h
    rfl
  · obtain ⟨u, p, hp, rfl, rfl⟩ := h
    have hr2 := hr.mono (j := 2) (by decide)
    refine ⟨_, (pss_one (ps_ret (pe_def D_ratio hr2 (by rfl) (pa_cons (pe_op op_add (pe_op op_mulW (pe_ix (r := rIx K) ix_seq (pv 0) pe_int (fun _ _ => rfl)) (pe_ix (r := rIx K) ix_seq (pv 1) pe_int (fun _ _ => rfl))) (pe_op op_mulW (pe_ix (r := rIx K) ix_seq (pv 0) pe_int (fun _ _ => rfl)) (pe_ix (r := rIx K) ix_seq (pv 1) pe_int (fun _ _ => rfl)))) (pa_cons (pe_ix (r := rIx K) ix_seq (pv 1) pe_int (fun _ _ => rfl)) pa_nil))))), ?_⟩
    show SD K _ [.imm _, .imm _] _ _ _ _
    refine sd_retD (ed_is (c_ratio (ed_add (ed_mul (ed_ixT (ed_var rfl) ed_int at0) (ed_ixT (ed_var rfl) ed_int at0) (cm hp.1 hp.2.2.x (by decide) (by decide) (by decide))) (ed_mul (ed_ixT (ed_var rfl) ed_int at1) (ed_ixT (ed_var rfl) ed_int at1) (cm hp.2.1 hp.2.2.y (by decide) (by decide) (by decide)))) (ed_ixT (ed_var rfl) ed_int at2) ?r1) ?q2)
    case r1 => exact ⟨W_ne' p, (B.add (B.mul hp.1 hp.2.2.x) (B.mul hp.2.1 hp.2.2.y)).mono (by decide), hp.2.2.w.mono (by decide)⟩
    case q2 => rw [pt_lev]; rfl
def R_turn_of (ds : List PyData) (d : PyData) : Prop := ∃ (p : P2) (q : P2) (r : P2), (Pm 4000 p ∧ Pm 4000 q ∧ Pm 4000 r) ∧ ds = [encP p, encP q, encP r] ∧ d = .int (sg (tri p q r))
theorem c_turn_of {t0 t1 t2 : TE} {e0 e1 e2 e3 : List EK} {p : P2} {q : P2} {r : P2} (a0 : ED K t0 e0 (encP p) e1) (a1 : ED K t1 e1 (encP q) e2) (a2 : ED K t2 e2 (encP r) e3) (hp : Pm 4000 p ∧ Pm 4000 q ∧ Pm 4000 r) : ED K (tCall (spP K R_turn_of) [] E0 (tCons t0 (tCons t1 (tCons t2 tNil)))) e0 (.int (sg (tri p q r))) e3 := ed_call (ad_cons a0 (ad_cons a1 (ad_cons a2 ad_nil))) ⟨p, q, r, hp, rfl, rfl⟩
abbrev DD_turn_of (P : Program) (w : World) (K : Frag) (mg : Str → Option Value) (base : Heap) : Prop := Def P w K mg base 2 "turn_of" ["one", "two", "three"] (spP K R_turn_of)
theorem ok_turn_of (T : Top K mg) (D_sign_of : DD_sign_of P w K mg base) : DD_turn_of P w K mg base := by
  obtain ⟨f, fd, F, hm⟩ := T.df "turn_of" 28 (by decide +kernel)
  have sc : FnScope ["one", "two", "three", "a", "b", "c", "u", "v", "w", "x", "y", "z"] ["one", "two", "three"] (defScope (top 28)) := ⟨rfl, rfl, rfl, by decide +kernel, rfl, by decide +kernel, by decide +kernel⟩
  refine def_of F hm sc (fun ds d h => ?_) (fun _ _ _ _ _ _ us hl => match us, hl with | [_, _, _], _ => rfl) (fun cdv A outer s H E ds d hr h => ?_)
  · obtain ⟨p, q, r, hp, rfl, rfl⟩ := h
    rfl
  · obtain ⟨p, q, r, hp, rfl, rfl⟩ := h
    have hr1 := hr.mono (j := 1) (by decide)
    refine ⟨_, (pss_cons (ps_asg (pv 0) (pg_tup rfl (pgs_cons (pg_name (i := 3) sc.nd rfl (Or.inl rfl)) (pgs_cons (pg_name (i := 4) sc.nd rfl (Or.inl rfl)) (pgs_cons (pg_name (i := 5) sc.nd rfl (Or.inl rfl)) pgs_nil)))))
      (pss_cons (ps_asg (pv 1) (pg_tup rfl (pgs_cons (pg_name (i := 6) sc.nd rfl (Or.inl rfl)) (pgs_cons (pg_name (i := 7) sc.nd rfl (Or.inl rfl)) (pgs_cons (pg_name (i := 8) sc.nd rfl (Or.inl rfl)) pgs_nil)))))
      (pss_cons (ps_asg (pv 2) (pg_tup rfl (pgs_cons (pg_name (i := 9) sc.nd rfl (Or.inl rfl)) (pgs_cons (pg_name (i := 10) sc.nd rfl (Or.inl rfl)) (pgs_cons (pg_name (i := 11) sc.nd rfl (Or.inl rfl)) pgs_nil)))))
      (pss_one (ps_ret (pe_def D_sign_of hr1 (by rfl) (pa_cons (pe_op op_add (pe_op op_sub (pe_op op_mulW (pv 3) (pe_op op_sub (pe_op op_mulW (pv 7) (pv 11)) (pe_op op_mulW (pv 10) (pv 8)))) (pe_op op_mulW (pv 4) (pe_op op_sub (pe_op op_mulW (pv 6) (pv 11)) (pe_op op_mulW (pv 9) (pv 8))))) (pe_op op_mulW (pv 5) (pe_op op_sub (pe_op op_mulW (pv 6) (pv 10)) (pe_op op_mulW (pv 9) (pv 7))))) pa_nil))))))), ?_⟩
    show SD K _ [.imm _, .imm _, .imm _, .any, .any, .any, .any, .any, .any, .any, .any, .any] _ _ _ _
    refine sd_then (e1 := [.imm _, .imm _, .imm _, .imm _, .imm _, .imm _, .any, .any, .any, .any, .any, .any]) (sd_asg (ed_var rfl) (gd_tup (gds_cons gd_name (gds_cons gd_name (gds_cons gd_name gds_nil))))) (
    sd_then (e1 := [.imm _, .imm _, .imm _, .imm _, .imm _, .imm _, .imm _, .imm _, .imm _, .any, .any, .any]) (sd_asg (ed_var rfl) (gd_tup (gds_cons gd_name (gds_cons gd_name (gds_cons gd_name gds_nil))))) (
    sd_then (e1 := [.imm _, .imm _, .imm _, .imm _, .imm _, .imm _, .imm _, .imm _, .imm _, .imm _, .imm _, .imm _]) (sd_asg (ed_var rfl) (gd_tup (gds_cons gd_name (gds_cons gd_name (gds_cons gd_name gds_nil))))) (
    sd_retD (ed_is (c_sign_of (ed_add (ed_sub (ed_mul (ed_var rfl) (ed_sub (ed_mul (ed_var rfl) (ed_var rfl) (cm hp.2.1.y hp.2.2.w (by decide) (by decide) (by decide))) (ed_mul (ed_var rfl) (ed_var rfl) (cm hp.2.2.y hp.2.1.w (by decide) (by decide) (by decide)))) (cm hp.1.x (B.sub (B.mul hp.2.1.y hp.2.2.w) (B.mul hp.2.2.y hp.2.1.w)) (by decide) (by decide) (by decide))) (ed_mul (ed_var rfl) (ed_sub (ed_mul (ed_var rfl) (ed_var rfl) (cm hp.2.1.x hp.2.2.w (by decide) (by decide) (by decide))) (ed_mul (ed_var rfl) (ed_var rfl) (cm hp.2.2.x hp.2.1.w (by decide) (by decide) (by decide)))) (cm hp.1.y (B.sub (B.mul hp.2.1.x hp.2.2.w) (B.mul hp.2.2.x hp.2.1.w)) (by decide) (by decide) (by decide)))) (ed_mul (ed_var rfl) (ed_sub (ed_mul (ed_var rfl) (ed_var rfl) (cm hp.2.1.x hp.2.2.y (by decide) (by decide) (by decide))) (ed_mul (ed_var rfl) (ed_var rfl) (cm hp.2.2.x hp.2.1.y (by decide) (by decide) (by decide)))) (cm hp.1.w (B.sub (B.mul hp.2.1.x hp.2.2.y) (B.mul hp.2.2.x hp.2.1.y)) (by decide) (by decide) (by decide)))) ?r1) ?q2))))
    case r1 => trivial
    case q2 => rw [turn_sg p q r _ rfl]
def R_edge_way (ds : List PyData) (d : PyData) : Prop := ∃ (S : List P2) (i : Nat), (Sz S ∧ i < S.length) ∧ ds = [encS S, .int (i : Int)] ∧ d = encP (eg S i)
theorem c_edge_way {t0 t1 : TE} {e0 e1 e2 : List EK} {S : List P2} {i : Nat} (a0 : ED K t0 e0 (encS S) e1) (a1 : ED K t1 e1 (.int (i : Int)) e2) (hp : Sz S ∧ i < S.length) : ED K (tCall (spP K R_edge_way) [] E0 (tCons t0 (tCons t1 tNil))) e0 (encP (eg S i)) e2 := ed_call (ad_cons a0 (ad_cons a1 ad_nil)) ⟨S, i, hp, rfl, rfl⟩
abbrev DD_edge_way (P : Program) (w : World) (K : Frag) (mg : Str → Option Value) (base : Heap) : Prop := Def P w K mg base 4 "edge_way" ["section", "index"] (spP K R_edge_way)
theorem ok_edge_way (T : Top K mg) (D_vector_less : DD_vector_less P w K mg base) : DD_edge_way P w K mg base := by
  obtain ⟨f, fd, F, hm⟩ := T.df "edge_way" 30 (by decide +kernel)
  have sc : FnScope ["section", "index"] ["section", "index"] (defScope (top 30)) := ⟨rfl, rfl, rfl, by decide +kernel, rfl, by decide +kernel, by decide +kernel⟩
  have m_len := T.fr "len" (by decide +kernel)
  refine def_of F hm sc (fun ds d h => ?_) (fun _ _ _ _ _ _ us hl => match us, hl with | [_, _], _ => rfl) (fun cdv A outer s H E ds d hr h => ?_)
  · obtain ⟨S, i, hp, rfl, rfl⟩ := h
    rfl
  · obtain ⟨S, i, hp, rfl, rfl⟩ := h
    have hr3 := hr.mono (j := 3) (by decide)
    obtain ⟨⟨hS, hz, hl⟩, hi⟩ := hp
    refine ⟨_, (pss_one (ps_ret (pe_def D_vector_less hr3 (by rfl) (pa_cons (pe_ix (r := rIx K) ix_seq (pv 0) (pe_op op_mod (pe_op op_add (pv 1) pe_int) (pe_callB call_len_seq (by rfl) m_len bt_len (pa_cons (pv 0) pa_nil))) (fun _ _ => rfl)) (pa_cons (pe_ix (r := rIx K) ix_seq (pv 0) (pv 1) (fun _ _ => rfl)) pa_nil))))), ?_⟩
    show SD K _ [.imm _, .imm _] _ _ _ _
    refine sd_retD (ed_is (c_vector_less (ed_ixT (ed_var rfl) (ed_mod (ed_add (ed_var rfl) ed_int) (ed_lenT (ed_var rfl)) ?p1) (at_next hz)) (ed_ixT (ed_var rfl) (ed_var rfl) (at_here hi)) ?r2) ?q3)
    case p1 => rw [List.length_map]; omega
    case r2 => exact ⟨(hS.cn hz _).mono (by decide), (hS.cn hz _).mono (by decide)⟩
    case q3 => rfl
def R_is_rim (ds : List PyData) (d : PyData) : Prop := ∃ (S : List P2) (r : Rim), (0 < S.length ∧ r.1 < S.length ∧ 0 ≤ r.2 ∧ r.2 < 1) ∧ ds = [encS S, encRim r] ∧ d = .bool true
theorem c_is_rim {t0 t1 : TE} {e0 e1 e2 : List EK} {S : List P2} {r : Rim} (a0 : ED K t0 e0 (encS S) e1) (a1 : ED K t1 e1 (encRim r) e2) (hp : 0 < S.length ∧ r.1 < S.length ∧ 0 ≤ r.2 ∧ r.2 < 1) : ED K (tCall (spP K R_is_rim) [] E0 (tCons t0 (tCons t1 tNil))) e0 (.bool true) e2 := ed_call (ad_cons a0 (ad_cons a1 ad_nil)) ⟨S, r, hp, rfl, rfl⟩
abbrev DD_is_rim (P : Program) (w : World) (K : Frag) (mg : Str → Option Value) (base : Heap) : Prop := Def P w K mg base 5 "is_rim" ["section", "value"] (spP K R_is_rim)
theorem ok_is_rim (T : Top K mg) (D_is_between : DD_is_between P w K mg base) (D_is_share : DD_is_share P w K mg base) : DD_is_rim P w K mg base := by
  obtain ⟨f, fd, F, hm⟩ := T.df "is_rim" 31 (by decide +kernel)
  have sc : FnScope ["section", "value"] ["section", "value"] (defScope (top 31)) := ⟨rfl, rfl, rfl, by decide +kernel, rfl, by decide +kernel, by decide +kernel⟩
  have m_isinstance := T.fr "isinstance" (by decide +kernel)
  have m_tuple := T.fr "tuple" (by decide +kernel)
  have m_len := T.fr "len" (by decide +kernel)
  refine def_of F hm sc (fun ds d h => ?_) (fun _ _ _ _ _ _ us hl => match us, hl with | [_, _], _ => rfl) (fun cdv A outer s H E ds d hr h => ?_)
  · obtain ⟨S, r, hp, rfl, rfl⟩ := h
    rfl
  · obtain ⟨S, r, hp, rfl, rfl⟩ := h
    have hr2 := hr.mono (j := 2) (by decide)
    have hr4 := hr.mono (j := 4) (by decide)
    refine ⟨_, (pss_cons (ps_if (pw_or (pt_not (pt_val (pe_callB call_isi (by rfl) m_isinstance bt_isinstance (pa_cons (pv 1) (pa_cons (pe_bltn (v := .ty "tuple") (by rfl) m_tuple bt_tuple rfl) pa_nil))))) (pw_or1 (pt_cmpR op_ne (pe_callB call_len_seq (by rfl) m_len bt_len (pa_cons (pv 1) pa_nil)) pe_int (nomark _)))).pt (pss_one (ps_ret pe_bl)) pss_nil)
      (pss_one (ps_ret (pe_and (pe_def D_is_between hr2 (by rfl) (pa_cons (pe_ix (r := rIx K) ix_seq (pv 1) pe_int (fun _ _ => rfl)) (pa_cons pe_int (pa_cons (pe_op op_sub (pe_callB call_len_seq (by rfl) m_len bt_len (pa_cons (pv 0) pa_nil)) pe_int) pa_nil)))) (pe_one (pe_def D_is_share hr4 (by rfl) (pa_cons (pe_ix (r := rIx K) ix_seq (pv 1) pe_int (fun _ _ => rfl)) pa_nil))))))), ?_⟩
    show SD K _ [.imm _, .imm _] _ _ _ _
    refine sd_then (sd_skip (td_is (td_or (td_not (td_B (ed_isi (ed_var rfl) rfl kit_tuple_tuple))) fun h => (td_test (ed_neI (ed_lenT (ed_var rfl)) ed_int))) ?f1)) (
    sd_retD (ed_is (ed_and (c_is_between (ed_ixT (ed_var rfl) ed_int at0) ed_int (ed_sub (ed_lenT (ed_var rfl)) ed_int) ?r3) fun h => (c_is_share (ed_ixT (ed_var rfl) ed_int at1) ?r2)) ?q4))
    case f1 => rfl
    case r2 => trivial
    case r3 => trivial
    case q4 =>
      obtain ⟨h0, h1, h2, h3⟩ := hp
      rw [decide_eq_true h2, decide_eq_true h3, List.length_map, decide_eq_true (show (0 : Int) ≤ (r.1 : Int) by omega), decide_eq_true (show (r.1 : Int) ≤ (S.length : Int) - 1 by omega)]
      rfl
def R_rim_point (ds : List PyData) (d : PyData) : Prop := ∃ (S : List P2) (r : Rim), (Sz S ∧ r.1 < S.length ∧ Sm 900 r.2) ∧ ds = [encS S, encRim r] ∧ d = encP (rp S r)
theorem c_rim_point {t0 t1 : TE} {e0 e1 e2 : List EK} {S : List P2} {r : Rim} (a0 : ED K t0 e0 (encS S) e1) (a1 : ED K t1 e1 (encRim r) e2) (hp : Sz S ∧ r.1 < S.length ∧ Sm 900 r.2) : ED K (tCall (spP K R_rim_point) [] E0 (tCons t0 (tCons t1 tNil))) e0 (encP (rp S r)) e2 := ed_call (ad_cons a0 (ad_cons a1 ad_nil)) ⟨S, r, hp, rfl, rfl⟩
abbrev DD_rim_point (P : Program) (w : World) (K : Frag) (mg : Str → Option Value) (base : Heap) : Prop := Def P w K mg base 5 "rim_point" ["section", "rim"] (spP K R_rim_point)
theorem rp_zero {S : List P2} {r : Rim} (h : r.2 = 0) : rp S r = cn S r.1 := by
  unfold rp
  rw [h]
  refine P2.eq ?_ ?_ <;> simp only [P2.add, P2.mul] <;> grind
theorem ok_rim_point (T : Top K mg) (D_vector_between : DD_vector_between P w K mg base) : DD_rim_point P w K mg base := by
  obtain ⟨f, fd, F, hm⟩ := T.df "rim_point" 32 (by decide +kernel)
  have sc : FnScope ["section", "rim"] ["section", "rim"] (defScope (top 32)) := ⟨rfl, rfl, rfl, by decide +kernel, rfl, by decide +kernel, by decide +kernel⟩
  have m_len := T.fr "len" (by decide +kernel)
  obtain ⟨aZERO, mZERO, zZERO⟩ := T.zero
  have rZERO : RelV (.ref aZERO) (.ref aZERO) := rfl
  refine def_of F hm sc (fun ds d h => ?_) (fun _ _ _ _ _ _ us hl => match us, hl with | [_, _], _ => rfl) (fun cdv A outer s H E ds d hr h => ?_)
  · obtain ⟨S, r, hp, rfl, rfl⟩ := h
    rfl
  · obtain ⟨S, r, hp, rfl, rfl⟩ := h
    have hr4 := hr.mono (j := 4) (by decide)
    obtain ⟨⟨hS, hz, hl⟩, hi, ht⟩ := hp
    refine ⟨_, (pss_cons (ps_if (pt_cmpR (r := rEqD K) (op_eqD hr.units) (pe_ix (r := rIx K) ix_seq (pv 1) pe_int (fun _ _ => rfl)) (pe_glob (by rfl) mZERO rZERO) (nomark _)) (pss_one (ps_ret (pe_ix (r := rIx K) ix_seq (pv 0) (pe_ix (r := rIx K) ix_seq (pv 1) pe_int (fun _ _ => rfl)) (fun _ _ => rfl)))) pss_nil)
      (pss_one (ps_ret (pe_def D_vector_between hr4 (by rfl) (pa_cons (pe_ix (r := rIx K) ix_seq (pv 0) (pe_ix (r := rIx K) ix_seq (pv 1) pe_int (fun _ _ => rfl)) (fun _ _ => rfl)) (pa_cons (pe_ix (r := rIx K) ix_seq (pv 0) (pe_op op_mod (pe_op op_add (pe_ix (r := rIx K) ix_seq (pv 1) pe_int (fun _ _ => rfl)) pe_int) (pe_callB call_len_seq (by rfl) m_len bt_len (pa_cons (pv 0) pa_nil))) (fun _ _ => rfl)) (pa_cons (pe_ix (r := rIx K) ix_seq (pv 1) pe_int (fun _ _ => rfl)) pa_nil))))))), ?_⟩
    show SD K _ [.imm _, .imm _] _ _ _ _
    refine sd_leave (td_test (ed_eqD (ed_ixT (ed_var rfl) ed_int at1) (ed_ZERO zZERO) ?s2 ?s3)) (fun h => sd_retD (ed_is (ed_ixT (ed_var rfl) (ed_ixT (ed_var rfl) ed_int at0) (at_here hi)) ?q1)) (fun h =>
    sd_retD (ed_is (c_vector_between (ed_ixT (ed_var rfl) (ed_ixT (ed_var rfl) ed_int at0) (at_here hi)) (ed_ixT (ed_var rfl) (ed_mod (ed_add (ed_ixT (ed_var rfl) ed_int at0) ed_int) (ed_lenT (ed_var rfl)) ?p4) (at_next hz)) (ed_ixT (ed_var rfl) ed_int at1) ?r5) ?q6))
    case s2 => rfl
    case s3 => rfl
    case q1 =>
      rw [eqvR] at h
      rw [rp_zero (of_decide_eq_true h)]
    case p4 => rw [List.length_map]; omega
    case r5 => exact ⟨hS.cn hz _, hS.cn hz _, ht⟩
    case q6 => rfl
def R_rim_to (ds : List PyData) (d : PyData) : Prop := ∃ (S : List P2) (i : Nat) (t : Rat), (0 < S.length) ∧ ds = [encS S, .int (i : Int), encR t] ∧ d = encRim (told S.length i t)
theorem c_rim_to {t0 t1 t2 : TE} {e0 e1 e2 e3 : List EK} {S : List P2} {i : Nat} {t : Rat} (a0 : ED K t0 e0 (encS S) e1) (a1 : ED K t1 e1 (.int (i : Int)) e2) (a2 : ED K t2 e2 (encR t) e3) (hp : 0 < S.length) : ED K (tCall (spP K R_rim_to) [] E0 (tCons t0 (tCons t1 (tCons t2 tNil)))) e0 (encRim (told S.length i t)) e3 := ed_call (ad_cons a0 (ad_cons a1 (ad_cons a2 ad_nil))) ⟨S, i, t, hp, rfl, rfl⟩
abbrev DD_rim_to (P : Program) (w : World) (K : Frag) (mg : Str → Option Value) (base : Heap) : Prop := Def P w K mg base 1 "rim_to" ["section", "index", "share"] (spP K R_rim_to)
theorem ok_rim_to (T : Top K mg)  : DD_rim_to P w K mg base := by
  obtain ⟨f, fd, F, hm⟩ := T.df "rim_to" 33 (by decide +kernel)
  have sc : FnScope ["section", "index", "share"] ["section", "index", "share"] (defScope (top 33)) := ⟨rfl, rfl, rfl, by decide +kernel, rfl, by decide +kernel, by decide +kernel⟩
  have m_len := T.fr "len" (by decide +kernel)
  obtain ⟨aZERO, mZERO, zZERO⟩ := T.zero
  have rZERO : RelV (.ref aZERO) (.ref aZERO) := rfl
  obtain ⟨aONE, mONE, zONE⟩ := T.one
  have rONE : RelV (.ref aONE) (.ref aONE) := rfl
  refine def_of F hm sc (fun ds d h => ?_) (fun _ _ _ _ _ _ us hl => match us, hl with | [_, _, _], _ => rfl) (fun cdv A outer s H E ds d hr h => ?_)
  · obtain ⟨S, i, t, hp, rfl, rfl⟩ := h
    rfl
  · obtain ⟨S, i, t, hp, rfl, rfl⟩ := h
    refine ⟨_, (pss_one (ps_ret (pe_ifExp (pt_cmpR (r := rEqD K) (op_eqD hr.units) (pv 2) (pe_glob (by rfl) mONE rONE) (nomark _)) (pe_tup (pa_cons (pe_op op_mod (pe_op op_add (pv 1) pe_int) (pe_callB call_len_seq (by rfl) m_len bt_len (pa_cons (pv 0) pa_nil))) (pa_cons (pe_glob (by rfl) mZERO rZERO) pa_nil))) (pe_tup (pa_cons (pv 1) (pa_cons (pv 2) pa_nil)))))), ?_⟩
    show SD K _ [.imm _, .imm _, .imm _] _ _ _ _
    refine sd_retD (ed_if (td_test (ed_eqD (ed_var rfl) (ed_ONE zONE) ?s1 ?s2)) (fun h => (ed_is (ed_tup (ad_cons (ed_mod (ed_add (ed_var rfl) ed_int) (ed_lenT (ed_var rfl)) ?p3) (ad_cons (ed_ZERO zZERO) ad_nil))) ?q4)) (fun h => (ed_is (ed_tup (ad_cons (ed_var rfl) (ad_cons (ed_var rfl) ad_nil))) ?q5)))
    case s1 => rfl
    case s2 => rfl
    case p3 => rw [List.length_map]; omega
    case q4 =>
      rw [eqvR] at h
      unfold told
      rw [if_pos (of_decide_eq_true h), List.length_map]
      show PyData.tuple [.int (((i : Int) + 1) % (S.length : Int)), encR 0] = .tuple [.int (((i + 1) % S.length : Nat) : Int), encR 0]
      rw [Int.natCast_emod]
      rfl
    case q5 =>
      rw [eqvR] at h
      unfold told
      rw [if_neg (of_decide_eq_false h)]
def R_share_between (ds : List PyData) (d : PyData) : Prop := ∃ (a : P2) (b : P2) (p : P2), (Pm 900 a ∧ Pm 900 b ∧ Pm 900 p ∧ a ≠ b) ∧ ds = [encP a, encP b, encP p] ∧ d = encR (shareB a b p)
theorem c_share_between {t0 t1 t2 : TE} {e0 e1 e2 e3 : List EK} {a : P2} {b : P2} {p : P2} (a0 : ED K t0 e0 (encP a) e1) (a1 : ED K t1 e1 (encP b) e2) (a2 : ED K t2 e2 (encP p) e3) (hp : Pm 900 a ∧ Pm 900 b ∧ Pm 900 p ∧ a ≠ b) : ED K (tCall (spP K R_share_between) [] E0 (tCons t0 (tCons t1 (tCons t2 tNil)))) e0 (encR (shareB a b p)) e3 := ed_call (ad_cons a0 (ad_cons a1 (ad_cons a2 ad_nil))) ⟨a, b, p, hp, rfl, rfl⟩
abbrev DD_share_between (P : Program) (w : World) (K : Frag) (mg : Str → Option Value) (base : Heap) : Prop := Def P w K mg base 3 "share_between" ["one", "two", "point"] (spP K R_share_between)
theorem share_x {a b p : P2} (h : a.x ≠ b.x) : (((p.X * (a.W : Int) - a.X * (p.W : Int)) * (b.W : Int) : Int) : Rat) / (((b.X * (a.W : Int) - a.X * (b.W : Int)) * (p.W : Int) : Int) : Rat) = shareB a b p := by
  unfold shareB
  rw [if_pos h]
  have ha := W_ne a
  have hb := W_ne b
  have hp := W_ne p
  have hd : b.x - a.x ≠ 0 := fun z => h (by grind)
  simp only [Rat.intCast_sub, Rat.intCast_mul, Rat.intCast_natCast, X_eq]
  grind
theorem share_y {a b p : P2} (h : ¬ a.x ≠ b.x) (h2 : a ≠ b) : (((p.Y * (a.W : Int) - a.Y * (p.W : Int)) * (b.W : Int) : Int) : Rat) / (((b.Y * (a.W : Int) - a.Y * (b.W : Int)) * (p.W : Int) : Int) : Rat) = shareB a b p := by
  unfold shareB
  rw [if_neg h]
  have ha := W_ne a
  have hb := W_ne b
  have hp := W_ne p
  have hd : b.y - a.y ≠ 0 := fun z => h2 (P2.eq (by grind) (by grind))
  simp only [Rat.intCast_sub, Rat.intCast_mul, Rat.intCast_natCast, Y_eq]
  grind
theorem share_nx {a b p : P2} (h : a.x ≠ b.x) : (b.X * (a.W : Int) - a.X * (b.W : Int)) * (p.W : Int) ≠ 0 := by
  refine ii (fun z => h ?_) (W_ne' p)
  have e : b.X * (a.W : Int) = a.X * (b.W : Int) := by omega
  have e2 := congrArg (fun z : Int => (z : Rat)) e
  simp only [Rat.intCast_mul, Rat.intCast_natCast, X_eq] at e2
  have ha := W_ne a
  have hb := W_ne b
  grind
theorem share_ny {a b p : P2} (h : ¬ a.x ≠ b.x) (h2 : a ≠ b) : (b.Y * (a.W : Int) - a.Y * (b.W : Int)) * (p.W : Int) ≠ 0 := by
  refine ii (fun z => h2 (P2.eq (by grind) ?_)) (W_ne' p)
  have e : b.Y * (a.W : Int) = a.Y * (b.W : Int) := by omega
  have e2 := congrArg (fun z : Int => (z : Rat)) e
  simp only [Rat.intCast_mul, Rat.intCast_natCast, Y_eq] at e2
  have ha := W_ne a
  have hb := W_ne b
  grind
end
end Hull
namespace Hull
open PySem PySem.Spec PyProof.Rows L2
section
variable {P : Program} {w : World} {K : Frag} {mg : Str → Option Value} {base : Heap}
theorem ok_share_between (T : Top K mg) (D_ratio : DD_ratio P w K mg base) : DD_share_between P w K mg base := by
  obtain ⟨f, fd, F, hm⟩ := T.df "share_between" 34 (by decide +kernel)
  have sc : FnScope ["one", "two", "point"] ["one", "two", "point"] (defScope (top 34)) := ⟨rfl, rfl, rfl, by decide +kernel, rfl, by decide +kernel, by decide +kernel⟩
  refine def_of F hm sc (fun ds d h => ?_) (fun _ _ _ _ _ _ us hl => match us, hl with | [_, _, _], _ => rfl) (fun cdv A outer s H E ds d hr h => ?_)
  · obtain ⟨a, b, p, hp, rfl, rfl⟩ := h
    rfl
  · obtain ⟨a, b, p, hp, rfl, rfl⟩ := h
    have hr2 := hr.mono (j := 2) (by decide)
    have hx := shareB_num hp.2.2.2 (p := p)
    refine ⟨_, (pss_cons (ps_if (pt_cmpR op_ne (pe_op op_mulW (pe_ix (r := rIx K) ix_seq (pv 0) pe_int (fun _ _ => rfl)) (pe_ix (r := rIx K) ix_seq (pv 1) pe_int (fun _ _ => rfl))) (pe_op op_mulW (pe_ix (r := rIx K) ix_seq (pv 1) pe_int (fun _ _ => rfl)) (pe_ix (r := rIx K) ix_seq (pv 0) pe_int (fun _ _ => rfl))) (nomark _)) (pss_one (ps_ret (pe_def D_ratio hr2 (by rfl) (pa_cons (pe_op op_mulW (pe_op op_sub (pe_op op_mulW (pe_ix (r := rIx K) ix_seq (pv 2) pe_int (fun _ _ => rfl)) (pe_ix (r := rIx K) ix_seq (pv 0) pe_int (fun _ _ => rfl))) (pe_op op_mulW (pe_ix (r := rIx K) ix_seq (pv 0) pe_int (fun _ _ => rfl)) (pe_ix (r := rIx K) ix_seq (pv 2) pe_int (fun _ _ => rfl)))) (pe_ix (r := rIx K) ix_seq (pv 1) pe_int (fun _ _ => rfl))) (pa_cons (pe_op op_mulW (pe_op op_sub (pe_op op_mulW (pe_ix (r := rIx K) ix_seq (pv 1) pe_int (fun _ _ => rfl)) (pe_ix (r := rIx K) ix_seq (pv 0) pe_int (fun _ _ => rfl))) (pe_op op_mulW (pe_ix (r := rIx K) ix_seq (pv 0) pe_int (fun _ _ => rfl)) (pe_ix (r := rIx K) ix_seq (pv 1) pe_int (fun _ _ => rfl)))) (pe_ix (r := rIx K) ix_seq (pv 2) pe_int (fun _ _ => rfl))) pa_nil))))) pss_nil)
      (pss_one (ps_ret (pe_def D_ratio hr2 (by rfl) (pa_cons (pe_op op_mulW (pe_op op_sub (pe_op op_mulW (pe_ix (r := rIx K) ix_seq (pv 2) pe_int (fun _ _ => rfl)) (pe_ix (r := rIx K) ix_seq (pv 0) pe_int (fun _ _ => rfl))) (pe_op op_mulW (pe_ix (r := rIx K) ix_seq (pv 0) pe_int (fun _ _ => rfl)) (pe_ix (r := rIx K) ix_seq (pv 2) pe_int (fun _ _ => rfl)))) (pe_ix (r := rIx K) ix_seq (pv 1) pe_int (fun _ _ => rfl))) (pa_cons (pe_op op_mulW (pe_op op_sub (pe_op op_mulW (pe_ix (r := rIx K) ix_seq (pv 1) pe_int (fun _ _ => rfl)) (pe_ix (r := rIx K) ix_seq (pv 0) pe_int (fun _ _ => rfl))) (pe_op op_mulW (pe_ix (r := rIx K) ix_seq (pv 0) pe_int (fun _ _ => rfl)) (pe_ix (r := rIx K) ix_seq (pv 1) pe_int (fun _ _ => rfl)))) (pe_ix (r := rIx K) ix_seq (pv 2) pe_int (fun _ _ => rfl))) pa_nil)))))), ?_⟩
    show SD K _ [.imm _, .imm _, .imm _] _ _ _ _
    refine sd_leave (td_test (ed_neI (ed_mul (ed_ixT (ed_var rfl) ed_int at0) (ed_ixT (ed_var rfl) ed_int at2) (cm hp.1.x hp.2.1.w (by decide) (by decide) (by decide))) (ed_mul (ed_ixT (ed_var rfl) ed_int at0) (ed_ixT (ed_var rfl) ed_int at2) (cm hp.2.1.x hp.1.w (by decide) (by decide) (by decide))))) (fun h => sd_retD (ed_is (c_ratio (ed_mul (ed_sub (ed_mul (ed_ixT (ed_var rfl) ed_int at0) (ed_ixT (ed_var rfl) ed_int at2) (cm hp.2.2.1.x hp.1.w (by decide) (by decide) (by decide))) (ed_mul (ed_ixT (ed_var rfl) ed_int at0) (ed_ixT (ed_var rfl) ed_int at2) (cm hp.1.x hp.2.2.1.w (by decide) (by decide) (by decide)))) (ed_ixT (ed_var rfl) ed_int at2) (cm (B.sub (B.mul hp.2.2.1.x hp.1.w) (B.mul hp.1.x hp.2.2.1.w)) hp.2.1.w (by decide) (by decide) (by decide))) (ed_mul (ed_sub (ed_mul (ed_ixT (ed_var rfl) ed_int at0) (ed_ixT (ed_var rfl) ed_int at2) (cm hp.2.1.x hp.1.w (by decide) (by decide) (by decide))) (ed_mul (ed_ixT (ed_var rfl) ed_int at0) (ed_ixT (ed_var rfl) ed_int at2) (cm hp.1.x hp.2.1.w (by decide) (by decide) (by decide)))) (ed_ixT (ed_var rfl) ed_int at2) (cm (B.sub (B.mul hp.2.1.x hp.1.w) (B.mul hp.1.x hp.2.1.w)) hp.2.2.1.w (by decide) (by decide) (by decide))) ?r1) ?q2)) (fun h =>
    sd_retD (ed_is (c_ratio (ed_mul (ed_sub (ed_mul (ed_ixT (ed_var rfl) ed_int at1) (ed_ixT (ed_var rfl) ed_int at2) (cm hp.2.2.1.y hp.1.w (by decide) (by decide) (by decide))) (ed_mul (ed_ixT (ed_var rfl) ed_int at1) (ed_ixT (ed_var rfl) ed_int at2) (cm hp.1.y hp.2.2.1.w (by decide) (by decide) (by decide)))) (ed_ixT (ed_var rfl) ed_int at2) (cm (B.sub (B.mul hp.2.2.1.y hp.1.w) (B.mul hp.1.y hp.2.2.1.w)) hp.2.1.w (by decide) (by decide) (by decide))) (ed_mul (ed_sub (ed_mul (ed_ixT (ed_var rfl) ed_int at1) (ed_ixT (ed_var rfl) ed_int at2) (cm hp.2.1.y hp.1.w (by decide) (by decide) (by decide))) (ed_mul (ed_ixT (ed_var rfl) ed_int at1) (ed_ixT (ed_var rfl) ed_int at2) (cm hp.1.y hp.2.1.w (by decide) (by decide) (by decide)))) (ed_ixT (ed_var rfl) ed_int at2) (cm (B.sub (B.mul hp.2.1.y hp.1.w) (B.mul hp.1.y hp.2.1.w)) hp.2.2.1.w (by decide) (by decide) (by decide))) ?r3) ?q4))
    case r1 =>
      have hc := hx.mp (by simpa using h)
      exact ⟨share_nx hc, (B.mul (B.sub (B.mul hp.2.2.1.x hp.1.w) (B.mul hp.1.x hp.2.2.1.w)) hp.2.1.w).mono (by decide), (B.mul (B.sub (B.mul hp.2.1.x hp.1.w) (B.mul hp.1.x hp.2.1.w)) hp.2.2.1.w).mono (by decide)⟩
    case q2 =>
      have hc := hx.mp (by simpa using h)
      rw [share_x hc]
    case r3 =>
      have hc : ¬ a.x ≠ b.x := fun z => (hx.mpr z) (by simpa using h)
      exact ⟨share_ny hc hp.2.2.2, (B.mul (B.sub (B.mul hp.2.2.1.y hp.1.w) (B.mul hp.1.y hp.2.2.1.w)) hp.2.1.w).mono (by decide), (B.mul (B.sub (B.mul hp.2.1.y hp.1.w) (B.mul hp.1.y hp.2.1.w)) hp.2.2.1.w).mono (by decide)⟩
    case q4 =>
      have hc : ¬ a.x ≠ b.x := fun z => (hx.mpr z) (by simpa using h)
      rw [share_y hc hp.2.2.2]
def encO (o : Option Rim) : PyData := match o with
  | none => .none
  | some r => encRim r
theorem enum_S {S : List P2} {i : Nat} {d : PyData} (h : (enumD (S.map encP))[i]? = some d) : i < S.length ∧ d = .tuple [.int (i : Int), encP (cn S i)] := by
  obtain ⟨d0, h1, rfl⟩ := enumD_at h
  have hi : i < S.length := by
    have := (List.getElem?_eq_some_iff.mp h1).1
    rw [List.length_map] at this
    exact this
  rw [cn_at hi] at h1
  exact ⟨hi, by rw [← Option.some.inj h1]⟩
theorem findSome_at {α : Type} {f : Nat → Option α} {n i : Nat} {r : α} (hi : i < n) (h0 : ∀ k, k < i → f k = none) (h : f i = some r) : (List.range n).findSome? f = some r := by
  have e : List.range n = List.range i ++ (List.range (n - i)).map (i + ·) := by
    rw [← List.range_add]; congr 1; omega
  rw [e, List.findSome?_append]
  have hn : (List.range i).findSome? f = none := List.findSome?_eq_none_iff.mpr fun k hk => h0 k (List.mem_range.mp hk)
  obtain ⟨m, hm⟩ : ∃ m, n - i = m + 1 := ⟨n - i - 1, by omega⟩
  rw [hn, hm, List.range_succ_eq_map]
  simp [h]
theorem findSome_none {α : Type} {f : Nat → Option α} {n : Nat} (h0 : ∀ k, k < n → f k = none) : (List.range n).findSome? f = none := List.findSome?_eq_none_iff.mpr fun k hk => h0 k (List.mem_range.mp hk)
def R_rim_at (ds : List PyData) (d : PyData) : Prop := ∃ (S : List P2) (p : P2), (Sz S ∧ Pm 900 p ∧ ∀ i, i < S.length → cn S i ≠ cn S (i + 1)) ∧ ds = [encS S, encP p] ∧ d = encO (rimAt S p)
theorem c_rim_at {t0 t1 : TE} {e0 e1 e2 : List EK} {S : List P2} {p : P2} (a0 : ED K t0 e0 (encS S) e1) (a1 : ED K t1 e1 (encP p) e2) (hp : Sz S ∧ Pm 900 p ∧ ∀ i, i < S.length → cn S i ≠ cn S (i + 1)) : ED K (tCall (spP K R_rim_at) [] E0 (tCons t0 (tCons t1 tNil))) e0 (encO (rimAt S p)) e2 := ed_call (ad_cons a0 (ad_cons a1 ad_nil)) ⟨S, p, hp, rfl, rfl⟩
abbrev DD_rim_at (P : Program) (w : World) (K : Frag) (mg : Str → Option Value) (base : Heap) : Prop := Def P w K mg base 5 "rim_at" ["section", "point"] (spP K R_rim_at)
theorem ok_rim_at (T : Top K mg) (D_is_share : DD_is_share P w K mg base) (D_turn_of : DD_turn_of P w K mg base) (D_share_between : DD_share_between P w K mg base) : DD_rim_at P w K mg base := by
  obtain ⟨f, fd, F, hm⟩ := T.df "rim_at" 35 (by decide +kernel)
  have sc : FnScope ["section", "point", "index", "corner", "end", "share"] ["section", "point"] (defScope (top 35)) := ⟨rfl, rfl, rfl, by decide +kernel, rfl, by decide +kernel, by decide +kernel⟩
  have m_len := T.fr "len" (by decide +kernel)
  have m_enumerate := T.fr "enumerate" (by decide +kernel)
  refine def_of F hm sc (fun ds d h => ?_) (fun _ _ _ _ _ _ us hl => match us, hl with | [_, _], _ => rfl) (fun cdv A outer s H E ds d hr h => ?_)
  · obtain ⟨S, p, hp, rfl, rfl⟩ := h
    rfl
  · obtain ⟨S, p, hp, rfl, rfl⟩ := h
    have hr2 := hr.mono (j := 2) (by decide)
    have hr3 := hr.mono (j := 3) (by decide)
    have hr4 := hr.mono (j := 4) (by decide)
    obtain ⟨⟨hS, hz, hl⟩, hpm, hne⟩ := hp
    refine ⟨_, (pss_cons (ps_for PassesOwn.never rfl (pi_enumS (by rfl) m_enumerate (pa_cons (pv 0) pa_nil)) (pg_tup rfl (pgs_cons (pg_name (i := 2) sc.nd rfl (Or.inl rfl)) (pgs_cons (pg_name (i := 3) sc.nd rfl (Or.inl rfl)) pgs_nil))) (pss_cons (ps_set (i := 4) sc.nd rfl (Or.inl rfl) (pe_ix (r := rIx K) ix_seq (pv 0) (pe_op op_mod (pe_op op_add (pv 2) pe_int) (pe_callB call_len_seq (by rfl) m_len bt_len (pa_cons (pv 0) pa_nil))) (fun _ _ => rfl)))
      (pss_one (ps_if (pt_cmpR op_eq (pe_def D_turn_of hr2 (by rfl) (pa_cons (pv 3) (pa_cons (pv 4) (pa_cons (pv 1) pa_nil)))) pe_int (nomark _)) (pss_cons (ps_set (i := 5) sc.nd rfl (Or.inl rfl) (pe_def D_share_between hr3 (by rfl) (pa_cons (pv 3) (pa_cons (pv 4) (pa_cons (pv 1) pa_nil)))))
      (pss_one (ps_if (pt_val (pe_def D_is_share hr4 (by rfl) (pa_cons (pv 5) pa_nil))) (pss_one (ps_ret (pe_tup (pa_cons (pv 2) (pa_cons (pv 5) pa_nil))))) pss_nil))) pss_nil))))
      (pss_one (ps_ret pe_non))), ?_⟩
    show SD K _ [.imm _, .imm _, .any, .any, .any, .any] _ _ _ _
    refine sd_seq (N := fun e => (∃ k1 k2 k3 k4, e = [.imm (encS S), .imm (encP p), k1, k2, k3, k4]) ∧ rimAt S p = none)
      (sd_for (fun i e => (∃ k1 k2 k3 k4, e = [.imm (encS S), .imm (encP p), k1, k2, k3, k4]) ∧ ∀ k, k < i → rimAt1 S p k = none) (id_enumST (ed_var rfl)) ⟨⟨_, _, _, _, rfl⟩, fun k hk => absurd hk (Nat.not_lt_zero _)⟩ (fun i d e' hd hI => ?_) (fun e' hI => ?_)) (fun e z => ?_)
    · obtain ⟨⟨k1, k2, k3, k4, rfl⟩, h0⟩ := hI
      obtain ⟨hi, rfl⟩ := enum_S hd
      have hnot : ∀ h : ¬ (tri (cn S i) (cn S (i + 1)) p = 0 ∧ 0 ≤ shareB (cn S i) (cn S (i + 1)) p ∧ shareB (cn S i) (cn S (i + 1)) p < 1), ∀ k, k < i + 1 → rimAt1 S p k = none := fun h k hk => by
        rcases (by omega : k < i ∨ k = i) with z | z
        · exact h0 k z
        · rw [z]; unfold rimAt1; rw [if_neg h]
      have hsg : (sg (tri (cn S i) (cn S (i + 1)) p) = 0) → tri (cn S i) (cn S (i + 1)) p = 0 := fun h => by
        unfold sg at h
        split at h
        · cases h
        · split at h
          · cases h
          · grind
      refine ⟨_, _, gd_tup (gds_cons gd_name (gds_cons gd_name gds_nil)), ?_⟩
      refine sd_wk (e1 := [.imm _, .imm _, .imm _, .imm _, .any, .any]) ?_ ⟨.inr rfl, .inr rfl, .inr rfl, .inr rfl, .inl rfl, .inl rfl, trivial⟩
      refine sd_then (e1 := [.imm _, .imm _, .imm _, .imm _, .imm _, .any]) (sd_set (ed_ixT (ed_var rfl) (ed_mod (ed_add (ed_var rfl) ed_int) (ed_lenT (ed_var rfl)) ?p1) (at_next hz))) (
    sd_if (td_test (ed_eqI (c_turn_of (ed_var rfl) (ed_var rfl) (ed_var rfl) ?r2) ed_int)) (fun h => sd_then (e1 := [.imm _, .imm _, .imm _, .imm _, .imm _, .imm _]) (sd_set (c_share_between (ed_var rfl) (ed_var rfl) (ed_var rfl) ?r3)) (
    sd_if (td_B (c_is_share (ed_var rfl) ?r4)) (fun h => sd_retD (ed_is (ed_tup (ad_cons (ed_var rfl) (ad_cons (ed_var rfl) ad_nil))) ?q5)) (fun h => sd_next ?n6))) (fun h => sd_next ?n7))
      case p1 => rw [List.length_map]; omega
      case r2 => exact ⟨(hS.cn hz _).mono (by decide), (hS.cn hz _).mono (by decide), hpm.mono (by decide)⟩
      case r3 => exact ⟨hS.cn hz _, hS.cn hz _, hpm, hne i hi⟩
      case r4 => trivial
      case q5 =>
        rename_i hs
        have hs : tri (cn S i) (cn S (i + 1)) p = 0 := hsg (of_decide_eq_true hs)
        have h := Bool.and_eq_true_iff.mp h
        have e1 : rimAt1 S p i = some (i, shareB (cn S i) (cn S (i + 1)) p) := by
          unfold rimAt1
          rw [if_pos ⟨hs, of_decide_eq_true h.1, of_decide_eq_true h.2⟩]
        have e2 : rimAt S p = some (i, shareB (cn S i) (cn S (i + 1)) p) := findSome_at hi h0 e1
        rw [e2]
        rfl
      case n6 =>
        refine ⟨⟨_, _, _, _, rfl⟩, hnot fun z => ?_⟩
        have h := Bool.and_eq_false_iff.mp h
        rcases h with h | h
        · exact absurd z.2.1 (of_decide_eq_false h)
        · exact absurd z.2.2 (of_decide_eq_false h)
      case n7 =>
        refine ⟨⟨_, _, _, _, rfl⟩, hnot fun z => ?_⟩
        rw [z.1] at h
        exact absurd h (by decide)
    · obtain ⟨hs, h0⟩ := hI
      rw [enumD_len, List.length_map] at h0
      exact ⟨hs, findSome_none h0⟩
    · obtain ⟨⟨k1, k2, k3, k4, rfl⟩, h0⟩ := z
      rw [h0]
      exact sd_retD ed_non
def edgesAt (n : Nat) (r : Rim) : List Nat := if r.2 = 0 then [r.1, (r.1 + n - 1) % n] else [r.1]
theorem back_mod {i n : Nat} (h : i < n) : ((i : Int) - 1) % (n : Int) = (((i + n - 1) % n : Nat) : Int) := by
  rw [Int.natCast_emod]
  rw [show ((i + n - 1 : Nat) : Int) = ((i : Int) - 1) + (n : Int) by omega, Int.add_emod_right]
def R_edges_at (ds : List PyData) (d : PyData) : Prop := ∃ (S : List P2) (r : Rim), (r.1 < S.length) ∧ ds = [encS S, encRim r] ∧ d = .tuple ((edgesAt S.length r).map encN)
theorem c_edges_at {t0 t1 : TE} {e0 e1 e2 : List EK} {S : List P2} {r : Rim} (a0 : ED K t0 e0 (encS S) e1) (a1 : ED K t1 e1 (encRim r) e2) (hp : r.1 < S.length) : ED K (tCall (spP K R_edges_at) [] E0 (tCons t0 (tCons t1 tNil))) e0 (.tuple ((edgesAt S.length r).map encN)) e2 := ed_call (ad_cons a0 (ad_cons a1 ad_nil)) ⟨S, r, hp, rfl, rfl⟩
abbrev DD_edges_at (P : Program) (w : World) (K : Frag) (mg : Str → Option Value) (base : Heap) : Prop := Def P w K mg base 1 "edges_at" ["section", "rim"] (spP K R_edges_at)
theorem ok_edges_at (T : Top K mg)  : DD_edges_at P w K mg base := by
  obtain ⟨f, fd, F, hm⟩ := T.df "edges_at" 36 (by decide +kernel)
  have sc : FnScope ["section", "rim"] ["section", "rim"] (defScope (top 36)) := ⟨rfl, rfl, rfl, by decide +kernel, rfl, by decide +kernel, by decide +kernel⟩
  have m_len := T.fr "len" (by decide +kernel)
  obtain ⟨aZERO, mZERO, zZERO⟩ := T.zero
  have rZERO : RelV (.ref aZERO) (.ref aZERO) := rfl
  refine def_of F hm sc (fun ds d h => ?_) (fun _ _ _ _ _ _ us hl => match us, hl with | [_, _], _ => rfl) (fun cdv A outer s H E ds d hr h => ?_)
  · obtain ⟨S, r, hp, rfl, rfl⟩ := h
    rfl
  · obtain ⟨S, r, hp, rfl, rfl⟩ := h
    refine ⟨_, (pss_one (ps_ret (pe_ifExp (pt_cmpR (r := rEqD K) (op_eqD hr.units) (pe_ix (r := rIx K) ix_seq (pv 1) pe_int (fun _ _ => rfl)) (pe_glob (by rfl) mZERO rZERO) (nomark _)) (pe_tup (pa_cons (pe_ix (r := rIx K) ix_seq (pv 1) pe_int (fun _ _ => rfl)) (pa_cons (pe_op op_mod (pe_op op_sub (pe_ix (r := rIx K) ix_seq (pv 1) pe_int (fun _ _ => rfl)) pe_int) (pe_callB call_len_seq (by rfl) m_len bt_len (pa_cons (pv 0) pa_nil))) pa_nil))) (pe_tup (pa_cons (pe_ix (r := rIx K) ix_seq (pv 1) pe_int (fun _ _ => rfl)) pa_nil))))), ?_⟩
    show SD K _ [.imm _, .imm _] _ _ _ _
    refine sd_retD (ed_if (td_test (ed_eqD (ed_ixT (ed_var rfl) ed_int at1) (ed_ZERO zZERO) ?s1 ?s2)) (fun h => (ed_is (ed_tup (ad_cons (ed_ixT (ed_var rfl) ed_int at0) (ad_cons (ed_mod (ed_sub (ed_ixT (ed_var rfl) ed_int at0) ed_int) (ed_lenT (ed_var rfl)) ?p3) ad_nil))) ?q4)) (fun h => (ed_is (ed_tup (ad_cons (ed_ixT (ed_var rfl) ed_int at0) ad_nil)) ?q5)))
    case s1 => rfl
    case s2 => rfl
    case p3 => rw [List.length_map]; omega
    case q4 =>
      rw [eqvR] at h
      unfold edgesAt
      rw [if_pos (of_decide_eq_true h), List.length_map, back_mod hp]
      rfl
    case q5 =>
      rw [eqvR] at h
      unfold edgesAt
      rw [if_neg (of_decide_eq_false h)]
      rfl
def R_comes_first (ds : List PyData) (d : PyData) : Prop := ∃ (ra : Rim) (rb : Rim), (Sm 4000 ra.2 ∧ Sm 4000 rb.2) ∧ ds = [encRim ra, encRim rb] ∧ d = .bool (decide (before ra rb))
theorem c_comes_first {t0 t1 : TE} {e0 e1 e2 : List EK} {ra : Rim} {rb : Rim} (a0 : ED K t0 e0 (encRim ra) e1) (a1 : ED K t1 e1 (encRim rb) e2) (hp : Sm 4000 ra.2 ∧ Sm 4000 rb.2) : ED K (tCall (spP K R_comes_first) [] E0 (tCons t0 (tCons t1 tNil))) e0 (.bool (decide (before ra rb))) e2 := ed_call (ad_cons a0 (ad_cons a1 ad_nil)) ⟨ra, rb, hp, rfl, rfl⟩
abbrev DD_comes_first (P : Program) (w : World) (K : Frag) (mg : Str → Option Value) (base : Heap) : Prop := Def P w K mg base 2 "comes_first" ["one", "two"] (spP K R_comes_first)
theorem ok_comes_first (T : Top K mg) (D_is_lower : DD_is_lower P w K mg base) : DD_comes_first P w K mg base := by
  obtain ⟨f, fd, F, hm⟩ := T.df "comes_first" 38 (by decide +kernel)
  have sc : FnScope ["one", "two"] ["one", "two"] (defScope (top 38)) := ⟨rfl, rfl, rfl, by decide +kernel, rfl, by decide +kernel, by decide +kernel⟩
  refine def_of F hm sc (fun ds d h => ?_) (fun _ _ _ _ _ _ us hl => match us, hl with | [_, _], _ => rfl) (fun cdv A outer s H E ds d hr h => ?_)
  · obtain ⟨ra, rb, hp, rfl, rfl⟩ := h
    rfl
  · obtain ⟨ra, rb, hp, rfl, rfl⟩ := h
    have hr1 := hr.mono (j := 1) (by decide)
    refine ⟨_, (pss_one (ps_ret (pe_or (pe_cmpR op_lt (pe_ix (r := rIx K) ix_seq (pv 0) pe_int (fun _ _ => rfl)) (pe_ix (r := rIx K) ix_seq (pv 1) pe_int (fun _ _ => rfl)) (nomark _)) (pe_one (pe_and (pe_cmpR op_eq (pe_ix (r := rIx K) ix_seq (pv 0) pe_int (fun _ _ => rfl)) (pe_ix (r := rIx K) ix_seq (pv 1) pe_int (fun _ _ => rfl)) (nomark _)) (pe_one (pe_def D_is_lower hr1 (by rfl) (pa_cons (pe_ix (r := rIx K) ix_seq (pv 0) pe_int (fun _ _ => rfl)) (pa_cons (pe_ix (r := rIx K) ix_seq (pv 1) pe_int (fun _ _ => rfl)) pa_nil))))))))), ?_⟩
    show SD K _ [.imm _, .imm _] _ _ _ _
    refine sd_retD (ed_is (ed_or (ed_lt (ed_ixT (ed_var rfl) ed_int at0) (ed_ixT (ed_var rfl) ed_int at0)) fun h => (ed_and (ed_eqI (ed_ixT (ed_var rfl) ed_int at0) (ed_ixT (ed_var rfl) ed_int at0)) fun h => (c_is_lower (ed_ixT (ed_var rfl) ed_int at1) (ed_ixT (ed_var rfl) ed_int at1) ?r1))) ?q2)
    case r1 => exact hp
    case q2 =>
      congr 1
      rw [← Bool.decide_and, ← Bool.decide_or]
      refine decide_eq_decide.mpr ?_
      show _ ↔ ra.1 < rb.1 ∨ (ra.1 = rb.1 ∧ ra.2 < rb.2)
      rw [Int.ofNat_lt, Int.ofNat_inj]
def R_next_corner (ds : List PyData) (d : PyData) : Prop := ∃ (S : List P2) (i : Nat), (0 < S.length) ∧ ds = [encS S, .int (i : Int)] ∧ d = encP (cn S (i + 1))
theorem c_next_corner {t0 t1 : TE} {e0 e1 e2 : List EK} {S : List P2} {i : Nat} (a0 : ED K t0 e0 (encS S) e1) (a1 : ED K t1 e1 (.int (i : Int)) e2) (hp : 0 < S.length) : ED K (tCall (spP K R_next_corner) [] E0 (tCons t0 (tCons t1 tNil))) e0 (encP (cn S (i + 1))) e2 := ed_call (ad_cons a0 (ad_cons a1 ad_nil)) ⟨S, i, hp, rfl, rfl⟩
abbrev DD_next_corner (P : Program) (w : World) (K : Frag) (mg : Str → Option Value) (base : Heap) : Prop := Def P w K mg base 1 "next_corner" ["polygon", "index"] (spP K R_next_corner)
theorem ok_next_corner (T : Top K mg)  : DD_next_corner P w K mg base := by
  obtain ⟨f, fd, F, hm⟩ := T.df "next_corner" 47 (by decide +kernel)
  have sc : FnScope ["polygon", "index"] ["polygon", "index"] (defScope (top 47)) := ⟨rfl, rfl, rfl, by decide +kernel, rfl, by decide +kernel, by decide +kernel⟩
  have m_len := T.fr "len" (by decide +kernel)
  refine def_of F hm sc (fun ds d h => ?_) (fun _ _ _ _ _ _ us hl => match us, hl with | [_, _], _ => rfl) (fun cdv A outer s H E ds d hr h => ?_)
  · obtain ⟨S, i, hp, rfl, rfl⟩ := h
    rfl
  · obtain ⟨S, i, hp, rfl, rfl⟩ := h
    refine ⟨_, (pss_one (ps_ret (pe_ix (r := rIx K) ix_seq (pv 0) (pe_op op_mod (pe_op op_add (pv 1) pe_int) (pe_callB call_len_seq (by rfl) m_len bt_len (pa_cons (pv 0) pa_nil))) (fun _ _ => rfl)))), ?_⟩
    show SD K _ [.imm _, .imm _] _ _ _ _
    refine sd_retD (ed_is (ed_ixT (ed_var rfl) (ed_mod (ed_add (ed_var rfl) ed_int) (ed_lenT (ed_var rfl)) ?p1) (at_next hp)) ?q2)
    case p1 => rw [List.length_map]; omega
    case q2 => rfl
theorem rp_nats {K : Frag} {H : Hp} : ∀ {l : List Nat} {xs : List V}, RpA K H xs (l.map encN) → xs = l.map fun (k : Nat) => V.int (k : Int)
  | [], _, h => by cases h; rfl
  | m :: l, _, h => by
    cases h with
    | cons h1 h2 =>
      cases h1
      rw [rp_nats h2]
      rfl
theorem inV_nats (k : Nat) : ∀ l : List Nat, inV (.int (k : Int)) (l.map fun (k : Nat) => V.int (k : Int)) = decide (k ∈ l)
  | [] => by simp [inV]
  | m :: l => by
    have ih := inV_nats k l
    unfold inV at ih ⊢
    rw [List.map_cons, List.any_cons, ih]
    have e : eqV (.int (m : Int)) (.int (k : Int)) = decide (k = m) := by
      show ((m : Int) == (k : Int)) = _
      by_cases h : k = m
      · subst h; simp
      · rw [decide_eq_false h]
        simp
        omega
    rw [e, ← Bool.decide_or]
    exact decide_eq_decide.mpr (by simp)
theorem flat_nats : ∀ l : List Nat, (l.map fun (k : Nat) => V.int (k : Int)).all flatV = true
  | [] => rfl
  | m :: l => by rw [List.map_cons, List.all_cons, flat_nats l]; rfl
theorem ed_inN {K : Frag} {ta tb : TE} {e e1 e2 : List EK} {k : Nat} {l : List Nat} (ha : ED K ta e (encN k) e1) (hb : ED K tb e1 (.tuple (l.map encN)) e2) : ED K (tOp (rIn K false) ta tb) e (.bool (decide (k ∈ l))) e2 :=
  ed_bin ha hb fun H0 M X0 ps σ H x y g2 Q q => by
    have h1 := rp_int g2.top2
    have h2 := g2.top
    cases h2 with
    | tup s r =>
      rw [rp_nats r] at s
      refine ⟨_, _, rfl, .inr s, by rw [h1]; rfl, flat_nats l, ?_⟩
      rw [h1, if_neg (by decide), inV_nats]
      exact q _ H (g2.pop.pop.bl _)
def R_is_line (ds : List PyData) (d : PyData) : Prop := ∃ (S : List P2) (z : Rim × Rim), (S.length ≤ 100 ∧ z.1.1 < S.length ∧ 0 ≤ z.1.2 ∧ z.1.2 < 1 ∧ z.2.1 < S.length ∧ 0 ≤ z.2.2 ∧ z.2.2 < 1 ∧ ∀ k ∈ edgesAt S.length z.1, k ∉ edgesAt S.length z.2) ∧ ds = [encS S, encSt z] ∧ d = .bool true
theorem c_is_line {t0 t1 : TE} {e0 e1 e2 : List EK} {S : List P2} {z : Rim × Rim} (a0 : ED K t0 e0 (encS S) e1) (a1 : ED K t1 e1 (encSt z) e2) (hp : S.length ≤ 100 ∧ z.1.1 < S.length ∧ 0 ≤ z.1.2 ∧ z.1.2 < 1 ∧ z.2.1 < S.length ∧ 0 ≤ z.2.2 ∧ z.2.2 < 1 ∧ ∀ k ∈ edgesAt S.length z.1, k ∉ edgesAt S.length z.2) : ED K (tCall (spP K R_is_line) [] E0 (tCons t0 (tCons t1 tNil))) e0 (.bool true) e2 := ed_call (ad_cons a0 (ad_cons a1 ad_nil)) ⟨S, z, hp, rfl, rfl⟩
abbrev DD_is_line (P : Program) (w : World) (K : Frag) (mg : Str → Option Value) (base : Heap) : Prop := Def P w K mg base 6 "is_line" ["section", "value"] (spP K R_is_line)
theorem ok_is_line (T : Top K mg) (D_is_rim : DD_is_rim P w K mg base) (D_edges_at : DD_edges_at P w K mg base) : DD_is_line P w K mg base := by
  obtain ⟨f, fd, F, hm⟩ := T.df "is_line" 37 (by decide +kernel)
  have sc : FnScope ["section", "value", "index"] ["section", "value"] (defScope (top 37)) := ⟨rfl, rfl, rfl, by decide +kernel, rfl, by decide +kernel, by decide +kernel⟩
  have m_isinstance := T.fr "isinstance" (by decide +kernel)
  have m_tuple := T.fr "tuple" (by decide +kernel)
  have m_len := T.fr "len" (by decide +kernel)
  have m_any := T.fr "any" (by decide +kernel)
  refine def_of F hm sc (fun ds d h => ?_) (fun _ _ _ _ _ _ us hl => match us, hl with | [_, _], _ => rfl) (fun cdv A outer s H E ds d hr h => ?_)
  · obtain ⟨S, z, hp, rfl, rfl⟩ := h
    rfl
  · obtain ⟨S, z, hp, rfl, rfl⟩ := h
    have hr1 := hr.mono (j := 1) (by decide)
    have hr5 := hr.mono (j := 5) (by decide)
    obtain ⟨hl, h1, h2, h3, h4, h5, h6, hno⟩ := hp
    refine ⟨_, (pss_cons (ps_if (pw_or (pt_not (pt_val (pe_callB call_isi (by rfl) m_isinstance bt_isinstance (pa_cons (pv 1) (pa_cons (pe_bltn (v := .ty "tuple") (by rfl) m_tuple bt_tuple rfl) pa_nil))))) (pw_or1 (pt_cmpR op_ne (pe_callB call_len_seq (by rfl) m_len bt_len (pa_cons (pv 1) pa_nil)) pe_int (nomark _)))).pt (pss_one (ps_ret pe_bl)) pss_nil)
      (pss_cons (ps_if (pw_or (pt_not (pt_val (pe_def D_is_rim hr5 (by rfl) (pa_cons (pv 0) (pa_cons (pe_ix (r := rIx K) ix_seq (pv 1) pe_int (fun _ _ => rfl)) pa_nil))))) (pw_or1 (pt_not (pt_val (pe_def D_is_rim hr5 (by rfl) (pa_cons (pv 0) (pa_cons (pe_ix (r := rIx K) ix_seq (pv 1) pe_int (fun _ _ => rfl)) pa_nil))))))).pt (pss_one (ps_ret pe_bl)) pss_nil)
      (pss_one (ps_ret (pe_not (pe_callB (cr_any rfl) (by rfl) m_any bt_any (pa_cons (pe_lc (own := [("index", 2)]) rfl sc.nd (pi_seq (pe_def D_edges_at hr1 (by rfl) (pa_cons (pv 0) (pa_cons (pe_ix (r := rIx K) ix_seq (pv 1) pe_int (fun _ _ => rfl)) pa_nil)))) (blkOk_by (own := [("index", 2)]) (N := ["section", "value", "index"]) (sc := defScope (top 37)) (by decide +kernel)) (fun _ _ _ _ _ => (pg_name (i := 2) sc.nd rfl (Or.inl rfl))) (fun _ _ _ _ _ => pts_nil) (fun _ _ _ _ _ => (pe_cmpR (r := rIn K false) op_in_seq (pv 2) (pe_def D_edges_at hr1 (by rfl) (pa_cons (pv 0) (pa_cons (pe_ix (r := rIx K) ix_seq (pv 1) pe_int (fun _ _ => rfl)) pa_nil))) (by rfl)))) pa_nil))))))), ?_⟩
    show SD K _ [.imm _, .imm _, .any] _ _ _ _
    refine sd_then (sd_skip (td_is (td_or (td_not (td_B (ed_isi (ed_var rfl) rfl kit_tuple_tuple))) fun h => (td_test (ed_neI (ed_lenT (ed_var rfl)) ed_int))) ?f1)) (
    sd_then (sd_skip (td_is (td_or (td_not (td_B (c_is_rim (ed_var rfl) (ed_ixT (ed_var rfl) ed_int at0) ?r3))) fun h => (td_not (td_B (c_is_rim (ed_var rfl) (ed_ixT (ed_var rfl) ed_int at1) ?r2)))) ?f4)) (
    sd_retD (ed_is (ed_not (ed_any (ed_lc (rs := ((edgesAt S.length z.1).map fun k => decide (k ∈ edgesAt S.length z.2)).map .bool) (id_seqT (c_edges_at (S := S) (r := z.1) (ed_var rfl) (ed_ixT (ed_var rfl) ed_int at0) h1)) ?ca5 ?cb6 ?cc7 ?cd8))) ?q9)))
    case f1 => rfl
    case r3 => exact ⟨by omega, h1, h2, h3⟩
    case r2 => exact ⟨by omega, h4, h5, h6⟩
    case f4 => rfl
    case ca5 => intro i k h hm; exact at_one (l := .any) h hm rfl
    case cb6 => simp
    case cc7 => unfold edgesAt; split <;> simp
    case cd8 =>
      intro i d r hd hr'
      rw [List.getElem?_map] at hd
      cases hn : (edgesAt S.length z.1)[i]? with
      | none => rw [hn] at hd; cases hd
      | some n =>
        rw [hn] at hd
        cases Option.some.inj hd
        have er : r = .bool (decide (n ∈ edgesAt S.length z.2)) := by
          rw [List.getElem?_map, List.getElem?_map, hn] at hr'
          exact (Option.some.inj hr').symm
        rw [er]
        exact ⟨_, [2], fun j h => h, gd_name, ed_inN (ed_var rfl) (c_edges_at (S := S) (r := z.2) (ed_var rfl) (ed_ixT (ed_var rfl) ed_int at1) h4)⟩
    case q9 =>
      congr 1
      have e : ((edgesAt S.length z.1).map fun k => decide (k ∈ edgesAt S.length z.2)).any id = false := by
        rw [List.any_map, List.any_eq_false]
        intro k hk
        simpa using hno k hk
      rw [e]
      rfl
def R_has_inside (ds : List PyData) (d : PyData) : Prop := ∃ (S : List P2) (p : P2), (Sz S ∧ Pm 900 p ∧ ∀ i, i < S.length → 0 < tri (cn S i) (cn S (i + 1)) p) ∧ ds = [encS S, encP p] ∧ d = .bool true
theorem c_has_inside {t0 t1 : TE} {e0 e1 e2 : List EK} {S : List P2} {p : P2} (a0 : ED K t0 e0 (encS S) e1) (a1 : ED K t1 e1 (encP p) e2) (hp : Sz S ∧ Pm 900 p ∧ ∀ i, i < S.length → 0 < tri (cn S i) (cn S (i + 1)) p) : ED K (tCall (spP K R_has_inside) [] E0 (tCons t0 (tCons t1 tNil))) e0 (.bool true) e2 := ed_call (ad_cons a0 (ad_cons a1 ad_nil)) ⟨S, p, hp, rfl, rfl⟩
abbrev DD_has_inside (P : Program) (w : World) (K : Frag) (mg : Str → Option Value) (base : Heap) : Prop := Def P w K mg base 3 "has_inside" ["section", "point"] (spP K R_has_inside)
theorem ok_has_inside (T : Top K mg) (D_turn_of : DD_turn_of P w K mg base) (D_next_corner : DD_next_corner P w K mg base) : DD_has_inside P w K mg base := by
  obtain ⟨f, fd, F, hm⟩ := T.df "has_inside" 48 (by decide +kernel)
  have sc : FnScope ["section", "point", "at", "corner"] ["section", "point"] (defScope (top 48)) := ⟨rfl, rfl, rfl, by decide +kernel, rfl, by decide +kernel, by decide +kernel⟩
  have m_all := T.fr "all" (by decide +kernel)
  have m_enumerate := T.fr "enumerate" (by decide +kernel)
  refine def_of F hm sc (fun ds d h => ?_) (fun _ _ _ _ _ _ us hl => match us, hl with | [_, _], _ => rfl) (fun cdv A outer s H E ds d hr h => ?_)
  · obtain ⟨S, p, hp, rfl, rfl⟩ := h
    rfl
  · obtain ⟨S, p, hp, rfl, rfl⟩ := h
    have hr1 := hr.mono (j := 1) (by decide)
    have hr2 := hr.mono (j := 2) (by decide)
    obtain ⟨⟨hS, hz, hl⟩, hpm, hin⟩ := hp
    refine ⟨_, (pss_one (ps_ret (pe_callB (cr_all rfl) (by rfl) m_all bt_all (pa_cons (pe_lc (g := gTup K 2 (gCons (gName 2) (gCons (gName 3) gNil))) (own := [("at", 2), ("corner", 3)]) rfl sc.nd (pi_enumS (by rfl) m_enumerate (pa_cons (pv 0) pa_nil)) (blkOk_by (own := [("at", 2), ("corner", 3)]) (N := ["section", "point", "at", "corner"]) (sc := defScope (top 48)) (by decide +kernel)) (fun _ _ _ _ _ => (pg_tup rfl (pgs_cons (pg_name (i := 2) sc.nd rfl (Or.inl rfl)) (pgs_cons (pg_name (i := 3) sc.nd rfl (Or.inl rfl)) pgs_nil)))) (fun _ _ _ _ _ => pts_nil) (fun _ _ _ _ _ => (pe_cmpR op_gt (pe_def D_turn_of hr2 (by rfl) (pa_cons (pv 3) (pa_cons (pe_def D_next_corner hr1 (by rfl) (pa_cons (pv 0) (pa_cons (pv 2) pa_nil))) (pa_cons (pv 1) pa_nil)))) pe_int (nomark _)))) pa_nil)))), ?_⟩
    show SD K _ [.imm _, .imm _, .any, .any] _ _ _ _
    refine sd_retD (ed_is (ed_all (ed_lc (rs := (S.map fun _ => true).map .bool) (id_enumST (ed_var rfl)) ?ca1 ?cb2 ?cc3 ?cd4)) ?q5)
    case ca1 => intro i k h hm; exact at_two h hm rfl rfl
    case cb2 => rw [enumD_len]; simp
    case cc3 => rw [enumD_len, List.length_map]; omega
    case cd4 =>
      intro i d r hd hr'
      obtain ⟨hi, rfl⟩ := enum_S hd
      have er : r = .bool true := by
        rw [List.getElem?_map, List.getElem?_map, List.getElem?_eq_getElem hi] at hr'
        exact (Option.some.inj hr').symm
      rw [er]
      refine ⟨[.imm _, .imm _, .imm _, .imm _], [2, 3], fun j h => h, gd_tup (gds_cons gd_name (gds_cons gd_name gds_nil)), ?_⟩
      refine ed_is (ed_gt (c_turn_of (ed_var rfl) (c_next_corner (ed_var rfl) (ed_var rfl) hz) (ed_var rfl) ⟨(hS.cn hz _).mono (by decide), (hS.cn hz _).mono (by decide), hpm.mono (by decide)⟩) ed_int) ?_
      rw [sg_pos (hin i hi)]
      rfl
    case q5 => congr 1; simp
def R_chord_ends (ds : List PyData) (d : PyData) : Prop := ∃ (S : List P2) (z : Rim × Rim), (Sz S ∧ z.1.1 < S.length ∧ z.2.1 < S.length ∧ Sm 900 z.1.2 ∧ Sm 900 z.2.2) ∧ ds = [encS S, encSt z] ∧ d = .tuple [encP (rp S z.1), encP (rp S z.2)]
theorem c_chord_ends {t0 t1 : TE} {e0 e1 e2 : List EK} {S : List P2} {z : Rim × Rim} (a0 : ED K t0 e0 (encS S) e1) (a1 : ED K t1 e1 (encSt z) e2) (hp : Sz S ∧ z.1.1 < S.length ∧ z.2.1 < S.length ∧ Sm 900 z.1.2 ∧ Sm 900 z.2.2) : ED K (tCall (spP K R_chord_ends) [] E0 (tCons t0 (tCons t1 tNil))) e0 (.tuple [encP (rp S z.1), encP (rp S z.2)]) e2 := ed_call (ad_cons a0 (ad_cons a1 ad_nil)) ⟨S, z, hp, rfl, rfl⟩
abbrev DD_chord_ends (P : Program) (w : World) (K : Frag) (mg : Str → Option Value) (base : Heap) : Prop := Def P w K mg base 6 "chord_ends" ["section", "stand"] (spP K R_chord_ends)
theorem ok_chord_ends (T : Top K mg) (D_rim_point : DD_rim_point P w K mg base) : DD_chord_ends P w K mg base := by
  obtain ⟨f, fd, F, hm⟩ := T.df "chord_ends" 52 (by decide +kernel)
  have sc : FnScope ["section", "stand"] ["section", "stand"] (defScope (top 52)) := ⟨rfl, rfl, rfl, by decide +kernel, rfl, by decide +kernel, by decide +kernel⟩
  refine def_of F hm sc (fun ds d h => ?_) (fun _ _ _ _ _ _ us hl => match us, hl with | [_, _], _ => rfl) (fun cdv A outer s H E ds d hr h => ?_)
  · obtain ⟨S, z, hp, rfl, rfl⟩ := h
    rfl
  · obtain ⟨S, z, hp, rfl, rfl⟩ := h
    have hr5 := hr.mono (j := 5) (by decide)
    refine ⟨_, (pss_one (ps_ret (pe_tup (pa_cons (pe_def D_rim_point hr5 (by rfl) (pa_cons (pv 0) (pa_cons (pe_ix (r := rIx K) ix_seq (pv 1) pe_int (fun _ _ => rfl)) pa_nil))) (pa_cons (pe_def D_rim_point hr5 (by rfl) (pa_cons (pv 0) (pa_cons (pe_ix (r := rIx K) ix_seq (pv 1) pe_int (fun _ _ => rfl)) pa_nil))) pa_nil))))), ?_⟩
    show SD K _ [.imm _, .imm _] _ _ _ _
    refine sd_retD (ed_is (ed_tup (ad_cons (c_rim_point (r := z.1) (ed_var rfl) (ed_ixT (ed_var rfl) ed_int at0) ⟨hp.1, hp.2.1, hp.2.2.2.1⟩) (ad_cons (c_rim_point (r := z.2) (ed_var rfl) (ed_ixT (ed_var rfl) ed_int at1) ⟨hp.1, hp.2.2.1, hp.2.2.2.2⟩) ad_nil))) ?q1)
    case q1 => rfl
end
end Hull
namespace Hull
open PySem PySem.Spec PyProof.Rows L2
section
variable {P : Program} {w : World} {K : Frag} {mg : Str → Option Value} {base : Heap}
theorem passed_step {n i k : Nat} : (((i + k) % n : Nat) : Int) + 1 = ((((i + k) % n + 1 : Nat)) : Int) := by omega
def passL (n i k : Nat) : List Nat := (List.range k).map fun t => (i + t + 1) % n
theorem passL_succ (n i k : Nat) : passL n i (k + 1) = passL n i k ++ [(i + k + 1) % n] := by unfold passL; rw [List.range_succ, List.map_append]; rfl
theorem passL_len (n i k : Nat) : (passL n i k).length = k := by unfold passL; rw [List.length_map, List.length_range]
theorem next_at (n i k : Nat) : (((((i + k) % n : Nat) : Int) + 1) % (n : Int)) = (((i + (k + 1)) % n : Nat) : Int) := by
  rw [passed_step, ← Int.natCast_emod, Nat.mod_add_mod]
  rfl
def R_passed_corners (ds : List PyData) (d : PyData) : Prop := ∃ (S : List P2) (z : Rim × Rim), (S.length ≤ 100 ∧ z.1.1 < S.length ∧ z.2.1 < S.length) ∧ ds = [encS S, encSt z] ∧ d = .list ((passed S.length z).map encN)
theorem c_passed_corners {t0 t1 : TE} {e0 e1 e2 : List EK} {S : List P2} {z : Rim × Rim} (a0 : ED K t0 e0 (encS S) e1) (a1 : ED K t1 e1 (encSt z) e2) (hp : S.length ≤ 100 ∧ z.1.1 < S.length ∧ z.2.1 < S.length) : ED K (tCall (spP K R_passed_corners) [] E0 (tCons t0 (tCons t1 tNil))) e0 (.list ((passed S.length z).map encN)) e2 := ed_call (ad_cons a0 (ad_cons a1 ad_nil)) ⟨S, z, hp, rfl, rfl⟩
abbrev DD_passed_corners (P : Program) (w : World) (K : Frag) (mg : Str → Option Value) (base : Heap) : Prop := Def P w K mg base 1 "passed_corners" ["section", "stand"] (spP K R_passed_corners)
theorem ok_passed_corners (T : Top K mg)  : DD_passed_corners P w K mg base := by
  obtain ⟨f, fd, F, hm⟩ := T.df "passed_corners" 53 (by decide +kernel)
  have sc : FnScope ["section", "stand", "index", "last", "found"] ["section", "stand"] (defScope (top 53)) := ⟨rfl, rfl, rfl, by decide +kernel, rfl, by decide +kernel, by decide +kernel⟩
  have m_len := T.fr "len" (by decide +kernel)
  obtain ⟨aZERO, mZERO, zZERO⟩ := T.zero
  have rZERO : RelV (.ref aZERO) (.ref aZERO) := rfl
  refine def_of F hm sc (fun ds d h => ?_) (fun _ _ _ _ _ _ us hl => match us, hl with | [_, _], _ => rfl) (fun cdv A outer s H E ds d hr h => ?_)
  · obtain ⟨S, z, hp, rfl, rfl⟩ := h
    rfl
  · obtain ⟨S, z, hp, rfl, rfl⟩ := h
    obtain ⟨hl, hi, hj⟩ := hp
    refine ⟨_, (pss_cons (ps_par (i := 2) (j := 3) rfl sc.nd rfl rfl (by decide) rfl rfl (pa_cons (pe_ix (r := rIx K) ix_seq (pe_ix (r := rIx K) ix_seq (pv 1) pe_int (fun _ _ => rfl)) pe_int (fun _ _ => rfl)) (pa_cons (pe_ix (r := rIx K) ix_seq (pe_ix (r := rIx K) ix_seq (pv 1) pe_int (fun _ _ => rfl)) pe_int (fun _ _ => rfl)) pa_nil)) rfl)
      (pss_cons (ps_set (i := 4) sc.nd rfl (Or.inl rfl) (pe_lst pa_nil))
      (pss_cons (ps_while PassesOwn.never (pt_cmpR op_ne (pv 2) (pv 3) (nomark _)) (pss_cons (ps_set (i := 2) sc.nd rfl (Or.inl rfl) (pe_op op_mod (pe_op op_add (pv 2) pe_int) (pe_callB call_len_seq (by rfl) m_len bt_len (pa_cons (pv 0) pa_nil))))
      (pss_one (ps_expr (pe_bm PySem.F.plainAttrs_list PySem.F.slot_list_append PySem.F.type_list_append mt_append (pv 4) (pa_cons (pv 2) pa_nil))))))
      (pss_one (ps_ret (pe_ifExp (pt_cmpR (r := rEqD K) (op_eqD hr.units) (pe_ix (r := rIx K) ix_seq (pe_ix (r := rIx K) ix_seq (pv 1) pe_int (fun _ _ => rfl)) pe_int (fun _ _ => rfl)) (pe_glob (by rfl) mZERO rZERO) (nomark _)) (pe_slice sl_list (pv 4) po_none (po_some (pe_un un_neg pe_int))) (pv 4))))))), ?_⟩
    show SD K _ [.imm _, .imm _, .any, .any, .any] _ _ _ _
    refine sd_then (e1 := [.imm (encS S), .imm (encSt z), .imm (encN z.1.1), .imm (encN z.2.1), .any]) (sd_par (ad_cons (ed_ixT (ed_ixT (ed_var rfl) ed_int at0) ed_int at0) (ad_cons (ed_ixT (ed_ixT (ed_var rfl) ed_int at1) ed_int at0) ad_nil))) (
      sd_then (e1 := [.imm (encS S), .imm (encSt z), .imm (encN z.1.1), .imm (encN z.2.1), .lis []]) (sd_setM (edm_lst ad_nil)) (
      sd_seq (N := fun e => e = [.imm (encS S), .imm (encSt z), .imm (encN z.2.1), .imm (encN z.2.1), .lis ((passL S.length z.1.1 (arcN S.length z.1.1 z.2.1)).map encN)])
        (sd_while (fun m e => ∃ k, k ≤ arcN S.length z.1.1 z.2.1 ∧ m = arcN S.length z.1.1 z.2.1 - k ∧ e = [.imm (encS S), .imm (encSt z), .imm (encN ((z.1.1 + k) % S.length)), .imm (encN z.2.1), .lis ((passL S.length z.1.1 k).map encN)]) _ ⟨0, Nat.zero_le _, rfl, ?_⟩ (fun m e' hI => ?_)) (fun e hz => ?_)))
    · rw [Nat.add_zero, Nat.mod_eq_of_lt hi]
      rfl
    · obtain ⟨k, hk, rfl, rfl⟩ := hI
      have hlt := arc_lt hi hj
      refine ⟨_, _, td_test (ed_neI (ed_var rfl) (ed_var rfl)), fun hb => ?_, fun hb => ?_⟩
      · have hne : ¬ (((z.1.1 + k) % S.length : Nat) : Int) = ((z.2.1 : Nat) : Int) := by simpa using hb
        have hk2 : k < arcN S.length z.1.1 z.2.1 := by
          rcases (by omega : k < arcN S.length z.1.1 z.2.1 ∨ k = arcN S.length z.1.1 z.2.1) with h | h
          · exact h
          · rw [h, arc_stop hi hj] at hne
            exact absurd rfl hne
        refine sd_then (sd_set (ed_eq (ed_mod (ed_add (ed_var rfl) ed_int) (ed_lenT (ed_var rfl)) (by rw [List.length_map]; omega)) (d2 := encN ((z.1.1 + (k + 1)) % S.length)) (by rw [List.length_map, next_at]))) (
          sd_imp (sd_app rfl (ed_var rfl) rfl (by rw [List.length_map, passL_len]; omega)) fun e' he => ?_)
        refine ⟨_, Nat.sub_lt_sub_left hk2 (Nat.lt_succ_self k), k + 1, hk2, rfl, ?_⟩
        rw [he, passL_succ, List.map_append]
        rfl
      · have he : (((z.1.1 + k) % S.length : Nat) : Int) = ((z.2.1 : Nat) : Int) := by simpa using hb
        have he : (z.1.1 + k) % S.length = z.2.1 := by omega
        have hk2 : k = arcN S.length z.1.1 z.2.1 := by
          rcases (by omega : k < arcN S.length z.1.1 z.2.1 ∨ k = arcN S.length z.1.1 z.2.1) with h | h
          · exact absurd he (arc_ne hi hj h)
          · exact h
        subst hk2
        rw [he]
    · subst hz
      refine sd_retD (ed_if (e2 := [.imm (encS S), .imm (encSt z), .imm (encN z.2.1), .imm (encN z.2.1), .any]) (td_test (ed_eqD (ed_ixT (ed_ixT (ed_var rfl) ed_int at1) ed_int at1) (ed_ZERO zZERO) rfl rfl)) (fun h => ed_is (ed_wk (ed_slM rfl od_no (od_some (ed_neg ed_int))) ⟨.inr rfl, .inr rfl, .inr rfl, .inr rfl, .inl rfl, trivial⟩) ?_) (fun h => ed_is (ed_wk (ed_varM rfl) ⟨.inr rfl, .inr rfl, .inr rfl, .inr rfl, .inl rfl, trivial⟩) ?_))
      · rw [eqvR] at h
        rw [cut_most]
        unfold passed
        rw [if_pos (of_decide_eq_true h), ← List.map_dropLast]
        rfl
      · rw [eqvR] at h
        unfold passed
        rw [if_neg (of_decide_eq_false h)]
        rfl
def R_points_below (ds : List PyData) (d : PyData) : Prop := ∃ (S : List P2) (z : Rim × Rim), (Sz S ∧ z.1.1 < S.length ∧ z.2.1 < S.length ∧ Sm 900 z.1.2 ∧ Sm 900 z.2.2) ∧ ds = [encS S, encSt z] ∧ d = .list ((below S z).map encP)
theorem c_points_below {t0 t1 : TE} {e0 e1 e2 : List EK} {S : List P2} {z : Rim × Rim} (a0 : ED K t0 e0 (encS S) e1) (a1 : ED K t1 e1 (encSt z) e2) (hp : Sz S ∧ z.1.1 < S.length ∧ z.2.1 < S.length ∧ Sm 900 z.1.2 ∧ Sm 900 z.2.2) : ED K (tCall (spP K R_points_below) [] E0 (tCons t0 (tCons t1 tNil))) e0 (.list ((below S z).map encP)) e2 := ed_call (ad_cons a0 (ad_cons a1 ad_nil)) ⟨S, z, hp, rfl, rfl⟩
abbrev DD_points_below (P : Program) (w : World) (K : Frag) (mg : Str → Option Value) (base : Heap) : Prop := Def P w K mg base 7 "points_below" ["section", "stand"] (spP K R_points_below)
theorem passed_lt {n : Nat} {z : Stand} (h1 : z.1.1 < n) : ∀ k ∈ passed n z, k < n := fun k hk => by
  have hn : 0 < n := by omega
  have key : ∀ k ∈ (List.range (arcN n z.1.1 z.2.1)).map (fun k => (z.1.1 + k + 1) % n), k < n := fun k hk => by
    obtain ⟨t, _, rfl⟩ := List.mem_map.mp hk
    exact Nat.mod_lt _ hn
  unfold passed at hk
  split at hk
  · exact key k ((List.dropLast_sublist _).mem hk)
  · exact key k hk
theorem passed_len {n : Nat} {z : Stand} (h1 : z.1.1 < n) (h2 : z.2.1 < n) : (passed n z).length < n := by
  have h := arc_lt h1 h2
  unfold passed
  split
  · rw [List.length_dropLast, List.length_map, List.length_range]; omega
  · rw [List.length_map, List.length_range]; exact h
theorem below_len {S : List P2} {z : Stand} (h1 : z.1.1 < S.length) (h2 : z.2.1 < S.length) : (below S z).length ≤ S.length + 1 := by
  have := passed_len h1 h2
  unfold below
  simp only [List.length_append, List.length_map, List.length_cons, List.length_nil]
  omega
theorem ok_points_below (T : Top K mg) (D_chord_ends : DD_chord_ends P w K mg base) (D_passed_corners : DD_passed_corners P w K mg base) : DD_points_below P w K mg base := by
  obtain ⟨f, fd, F, hm⟩ := T.df "points_below" 54 (by decide +kernel)
  have sc : FnScope ["section", "stand", "left", "right", "index"] ["section", "stand"] (defScope (top 54)) := ⟨rfl, rfl, rfl, by decide +kernel, rfl, by decide +kernel, by decide +kernel⟩
  refine def_of F hm sc (fun ds d h => ?_) (fun _ _ _ _ _ _ us hl => match us, hl with | [_, _], _ => rfl) (fun cdv A outer s H E ds d hr h => ?_)
  · obtain ⟨S, z, hp, rfl, rfl⟩ := h
    rfl
  · obtain ⟨S, z, hp, rfl, rfl⟩ := h
    have hr1 := hr.mono (j := 1) (by decide)
    have hr6 := hr.mono (j := 6) (by decide)
    refine ⟨_, (pss_cons (ps_asg (pe_def D_chord_ends hr6 (by rfl) (pa_cons (pv 0) (pa_cons (pv 1) pa_nil))) (pg_tup rfl (pgs_cons (pg_name (i := 2) sc.nd rfl (Or.inl rfl)) (pgs_cons (pg_name (i := 3) sc.nd rfl (Or.inl rfl)) pgs_nil))))
      (pss_one (ps_ret (pe_op op_cat (pe_op op_cat (pe_lst (pa_cons (pv 2) pa_nil)) (pe_lc (own := [("index", 4)]) rfl sc.nd (pi_seq (pe_def D_passed_corners hr1 (by rfl) (pa_cons (pv 0) (pa_cons (pv 1) pa_nil)))) (blkOk_by (own := [("index", 4)]) (N := ["section", "stand", "left", "right", "index"]) (sc := defScope (top 54)) (by decide +kernel)) (fun _ _ _ _ _ => (pg_name (i := 4) sc.nd rfl (Or.inl rfl))) (fun _ _ _ _ _ => pts_nil) (fun _ _ _ _ _ => (pe_ix (r := rIx K) ix_seq (pv 0) (pv 4) (fun _ _ => rfl))))) (pe_lst (pa_cons (pv 3) pa_nil)))))), ?_⟩
    show SD K _ [.imm _, .imm _, .any, .any, .any] _ _ _ _
    refine sd_then (e1 := [.imm _, .imm _, .imm _, .imm _, .any]) (sd_asg (c_chord_ends (ed_var rfl) (ed_var rfl) ?r1) (gd_tup (gds_cons gd_name (gds_cons gd_name gds_nil)))) (
    sd_retD (ed_is (ed_cat (ed_cat (ed_lst (ad_cons (ed_var rfl) ad_nil)) (ed_lcM (h := fun (k : Nat) => encP (cn S k)) (id_seqL (c_passed_corners (ed_var rfl) (ed_var rfl) ⟨hp.1.2.2, hp.2.1, hp.2.2.1⟩)) (by rfl) ?cc2 ?cd3) ?z4) (ed_lst (ad_cons (ed_var rfl) ad_nil)) ?z5) ?q6))
    case r1 => exact hp
    case cc2 => have := passed_len hp.2.1 hp.2.2.1; have := hp.1.2.2; omega
    case cd3 =>
      intro k hk
      exact ⟨_, [4], fun j h => h, gd_name, ed_ixT (ed_var rfl) (ed_var rfl) (at_here (passed_lt hp.2.1 k hk))⟩
    case z4 =>
      have := passed_len hp.2.1 hp.2.2.1; have := hp.1.2.2
      simp only [List.length_append, List.length_map, List.length_cons, List.length_nil]
      omega
    case z5 =>
      have := passed_len hp.2.1 hp.2.2.1; have := hp.1.2.2
      simp only [List.length_append, List.length_map, List.length_cons, List.length_nil]
      omega
    case q6 =>
      unfold below
      simp only [List.map_append, List.map_cons, List.map_nil, List.map_map]
      rfl
theorem grid_gp {L w : Nat} : (L : Int).fdiv (w : Int) = ((L / w : Nat) : Int) := by
  rw [Int.fdiv_eq_ediv_of_nonneg _ (by omega), ← Int.natCast_ediv]
theorem B_nat {k n : Nat} (h : n < 2 ^ k) : B k (n : Int) := by unfold B; rw [Int.natAbs_natCast]; exact h
def R_on_grid (ds : List PyData) (d : PyData) : Prop := ∃ (z : Bool × List P2), (Ps 3900 z.2 ∧ z.2.length ≤ 100 ∧ grid z.2 < 2 ^ 3900) ∧ ds = [sq z.1 (z.2.map encP)] ∧ d = .tuple [.list ((z.2.map (gp (grid z.2))).map encU), encN (grid z.2)]
theorem c_on_grid {t0 : TE} {e0 e1 : List EK} {z : Bool × List P2} (a0 : ED K t0 e0 (sq z.1 (z.2.map encP)) e1) (hp : Ps 3900 z.2 ∧ z.2.length ≤ 100 ∧ grid z.2 < 2 ^ 3900) : ED K (tCall (spP K R_on_grid) [] E0 (tCons t0 tNil)) e0 (.tuple [.list ((z.2.map (gp (grid z.2))).map encU), encN (grid z.2)]) e1 := ed_call (ad_cons a0 ad_nil) ⟨z, hp, rfl, rfl⟩
abbrev DD_on_grid (P : Program) (w : World) (K : Frag) (mg : Str → Option Value) (base : Heap) : Prop := Def P w K mg base 3 "on_grid" ["points"] (spP K R_on_grid)
theorem ok_on_grid (T : Top K mg) (D_multiple_of : DD_multiple_of P w K mg base) : DD_on_grid P w K mg base := by
  obtain ⟨f, fd, F, hm⟩ := T.df "on_grid" 41 (by decide +kernel)
  have sc : FnScope ["points", "under", "point", "x", "y", "w"] ["points"] (defScope (top 41)) := ⟨rfl, rfl, rfl, by decide +kernel, rfl, by decide +kernel, by decide +kernel⟩
  refine def_of F hm sc (fun ds d h => ?_) (fun _ _ _ _ _ _ us hl => match us, hl with | [_], _ => rfl) (fun cdv A outer s H E ds d hr h => ?_)
  · obtain ⟨z, hp, rfl, rfl⟩ := h
    rfl
  · obtain ⟨z, hp, rfl, rfl⟩ := h
    have hr2 := hr.mono (j := 2) (by decide)
    refine ⟨_, (pss_cons (ps_set (i := 1) sc.nd rfl (Or.inr rfl) pe_int)
      (pss_cons (ps_for PassesOwn.never rfl (pi_seq (pv 0)) (pg_name (i := 2) sc.nd rfl (Or.inl rfl)) (pss_one (ps_set (i := 1) sc.nd rfl (Or.inr rfl) (pe_def D_multiple_of hr2 (by rfl) (pa_cons (pv 1) (pa_cons (pe_ix (r := rIx K) ix_seq (pv 2) pe_int (fun _ _ => rfl)) pa_nil))))))
      (pss_one (ps_ret (pe_tup (pa_cons (pe_lc (g := gTup K 3 (gCons (gName 3) (gCons (gName 4) (gCons (gName 5) gNil)))) (own := [("x", 3), ("y", 4), ("w", 5)]) rfl sc.nd (pi_seq (pv 0)) (blkOk_by (own := [("x", 3), ("y", 4), ("w", 5)]) (N := ["points", "under", "point", "x", "y", "w"]) (sc := defScope (top 41)) (by decide +kernel)) (fun _ _ _ _ _ => (pg_tup rfl (pgs_cons (pg_name (i := 3) sc.nd rfl (Or.inl rfl)) (pgs_cons (pg_name (i := 4) sc.nd rfl (Or.inl rfl)) (pgs_cons (pg_name (i := 5) sc.nd rfl (Or.inl rfl)) pgs_nil))))) (fun _ _ _ _ _ => pts_nil) (fun _ _ _ _ _ => (pe_tup (pa_cons (pe_op op_mulW (pv 3) (pe_op op_fdivX (pv 1) (pv 5))) (pa_cons (pe_op op_mulW (pv 4) (pe_op op_fdivX (pv 1) (pv 5))) pa_nil))))) (pa_cons (pv 1) pa_nil))))))), ?_⟩
    obtain ⟨hP, hl, hL⟩ := hp
    show SD K _ [.imm _, .any, .any, .any, .any, .any] _ _ _ _
    refine sd_then (e1 := [.imm (sq z.1 (z.2.map encP)), .imm (encN 1), .any, .any, .any, .any]) (sd_set ed_int) (sd_seq (N := fun e => ∃ k, e = [.imm (sq z.1 (z.2.map encP)), .imm (encN (grid z.2)), k, .any, .any, .any])
      (sd_forM (fun pre e => ∃ k, e = [.imm (sq z.1 (z.2.map encP)), .imm (encN (grid pre)), k, .any, .any, .any]) (id_sq (ed_var rfl)) ⟨.any, rfl⟩ (fun pre x post e' hs hI => ?_) (fun e' hI => hI)) (fun e hz => ?_))
    · obtain ⟨k, rfl⟩ := hI
      have hx : x ∈ z.2 := by rw [hs]; exact List.mem_append_right _ List.mem_cons_self
      have hg : grid pre < 2 ^ 3900 := by
        have h := grid_take z.2 pre.length
        rw [hs, List.take_left] at h
        rw [hs] at hL
        omega
      refine ⟨_, _, gd_name, sd_imp (sd_set (ed_eq (c_multiple_of (n := ((grid pre : Nat) : Int)) (m := (x.W : Int)) (ed_var rfl) (ed_ixT (ed_var rfl) ed_int at2) ⟨by have := grid_pos pre; omega, by have := W_pos x; omega, (B_nat hg).mono (by decide), (hP x hx).w.mono (by decide)⟩) (d2 := encN (grid (pre ++ [x]))) ?_)) fun e' he => ⟨.imm (encP x), ?_⟩⟩
      · rw [grid_app]
        rfl
      · rw [he]
        rfl
    · obtain ⟨k, rfl⟩ := hz
      refine sd_retD (ed_is (ed_tup (ad_cons (ed_lcM (h := fun p => encU (gp (grid z.2) p)) (id_sq (ed_var rfl)) (by rfl) (by omega) fun p hp' => ⟨_, [3, 4, 5], fun j h => h, gd_tup (gds_cons gd_name (gds_cons gd_name (gds_cons gd_name gds_nil))), ?_⟩) (ad_cons (ed_var rfl) ad_nil))) ?_)
      · have hw := W_pos p
        have hc : CDivX ((grid z.2 : Nat) : Int) (p.W : Int) := dv (W_ne' p) (hP p hp').w (by decide) (by decide)
        have hq : B 3900 (((grid z.2 / p.W : Nat)) : Int) := B_nat (Nat.lt_of_le_of_lt (Nat.div_le_self _ _) hL)
        refine ed_is (ed_tup (ad_cons (ed_mul (ed_var rfl) (ed_fdiv (ed_var rfl) (ed_var rfl) hc) ?_) (ad_cons (ed_mul (ed_var rfl) (ed_fdiv (ed_var rfl) (ed_var rfl) hc) ?_) ad_nil))) ?_
        · rw [grid_gp]; exact cm (hP p hp').x hq (by decide) (by decide) (by decide)
        · rw [grid_gp]; exact cm (hP p hp').y hq (by decide) (by decide) (by decide)
        · rw [grid_gp]
          rfl
      · rw [List.map_map]
        rfl
def R_crosses (ds : List PyData) (d : PyData) : Prop := ∃ (qs : List (Int × Int)), (qs.length ≤ 100 ∧ ∀ q ∈ qs, B 8000 q.1 ∧ B 8000 q.2) ∧ ds = [.list (qs.map encU)] ∧ d = .list ((crI qs).map .int)
theorem c_crosses {t0 : TE} {e0 e1 : List EK} {qs : List (Int × Int)} (a0 : ED K t0 e0 (.list (qs.map encU)) e1) (hp : qs.length ≤ 100 ∧ ∀ q ∈ qs, B 8000 q.1 ∧ B 8000 q.2) : ED K (tCall (spP K R_crosses) [] E0 (tCons t0 tNil)) e0 (.list ((crI qs).map .int)) e1 := ed_call (ad_cons a0 ad_nil) ⟨qs, hp, rfl, rfl⟩
abbrev DD_crosses (P : Program) (w : World) (K : Frag) (mg : Str → Option Value) (base : Heap) : Prop := Def P w K mg base 1 "crosses" ["pairs"] (spP K R_crosses)
theorem zipD_map {α β : Type} (f : α → PyData) (g : β → PyData) : ∀ (as : List α) (bs : List β), zipD (as.map f) (bs.map g) = (as.zip bs).map fun p => .tuple [f p.1, g p.2]
  | [], _ => rfl
  | _ :: _, [] => rfl
  | a :: as, b :: bs => by
    have ih := zipD_map f g as bs
    unfold zipD at ih ⊢
    rw [List.map_cons, List.map_cons, List.zipWith_cons_cons, ih, List.zip_cons_cons, List.map_cons]
theorem crI_zip (qs : List (Int × Int)) : crI qs = (qs.zip (qs.drop 1 ++ qs.take 1)).map fun p => p.1.1 * p.2.2 - p.1.2 * p.2.1 := by
  unfold crI
  rw [List.zip, List.map_zipWith]
theorem zip_mem {α β : Type} {p : α × β} {as : List α} {bs : List β} (h : p ∈ as.zip bs) : p.1 ∈ as ∧ p.2 ∈ bs := List.of_mem_zip h
theorem cyc_mem {α : Type} {x : α} {l : List α} (h : x ∈ l.drop 1 ++ l.take 1) : x ∈ l := by
  rcases List.mem_append.mp h with h | h
  · exact List.mem_of_mem_drop h
  · exact List.mem_of_mem_take h
theorem ok_crosses (T : Top K mg)  : DD_crosses P w K mg base := by
  obtain ⟨f, fd, F, hm⟩ := T.df "crosses" 49 (by decide +kernel)
  have sc : FnScope ["pairs", "one", "two"] ["pairs"] (defScope (top 49)) := ⟨rfl, rfl, rfl, by decide +kernel, rfl, by decide +kernel, by decide +kernel⟩
  have m_zip := T.fr "zip" (by decide +kernel)
  refine def_of F hm sc (fun ds d h => ?_) (fun _ _ _ _ _ _ us hl => match us, hl with | [_], _ => rfl) (fun cdv A outer s H E ds d hr h => ?_)
  · obtain ⟨qs, hp, rfl, rfl⟩ := h
    rfl
  · obtain ⟨qs, hp, rfl, rfl⟩ := h
    refine ⟨_, (pss_one (ps_ret (pe_lc (g := gTup K 2 (gCons (gName 1) (gCons (gName 2) gNil))) (own := [("one", 1), ("two", 2)]) rfl sc.nd (pi_zip (by rfl) m_zip (pa_cons (pv 0) (pa_cons (pe_op op_cat (pe_slice sl_list (pv 0) (po_some pe_int) po_none) (pe_slice sl_list (pv 0) po_none (po_some pe_int))) pa_nil))) (blkOk_by (own := [("one", 1), ("two", 2)]) (N := ["pairs", "one", "two"]) (sc := defScope (top 49)) (by decide +kernel)) (fun _ _ _ _ _ => (pg_tup rfl (pgs_cons (pg_name (i := 1) sc.nd rfl (Or.inl rfl)) (pgs_cons (pg_name (i := 2) sc.nd rfl (Or.inl rfl)) pgs_nil)))) (fun _ _ _ _ _ => pts_nil) (fun _ _ _ _ _ => (pe_op op_sub (pe_op op_mulW (pe_ix (r := rIx K) ix_seq (pv 1) pe_int (fun _ _ => rfl)) (pe_ix (r := rIx K) ix_seq (pv 2) pe_int (fun _ _ => rfl))) (pe_op op_mulW (pe_ix (r := rIx K) ix_seq (pv 1) pe_int (fun _ _ => rfl)) (pe_ix (r := rIx K) ix_seq (pv 2) pe_int (fun _ _ => rfl)))))))), ?_⟩
    show SD K _ [.imm _, .any, .any] _ _ _ _
    refine sd_retD (ed_is (ed_lcM (l := qs.zip (qs.drop 1 ++ qs.take 1)) (f := fun p => .tuple [encU p.1, encU p.2]) (h := fun p => .int (p.1.1 * p.2.2 - p.1.2 * p.2.1)) (id_eq (id_zip (ed_var rfl) (ed_cat (ed_eq (ed_slL (ed_var rfl) (od_some ed_int) od_no) (d2 := .list ((qs.drop 1).map encU)) ?_) (ed_eq (ed_slL (ed_var rfl) od_no (od_some ed_int)) (d2 := .list ((qs.take 1).map encU)) ?_) ?_) ?_) ?_) (by rfl) ?_ fun p hp' => ⟨_, [1, 2], fun j h => h, gd_tup (gds_cons gd_name (gds_cons gd_name gds_nil)), ed_sub (ed_mul (ed_ixT (ed_var rfl) ed_int at0) (ed_ixT (ed_var rfl) ed_int at1) ?_) (ed_mul (ed_ixT (ed_var rfl) ed_int at1) (ed_ixT (ed_var rfl) ed_int at0) ?_)⟩) ?_)
    · exact congrArg PyData.list ((cut_drop (k := 1)).trans (List.map_drop ..).symm)
    · exact congrArg PyData.list ((cut_take (k := 1)).trans (List.map_take ..).symm)
    · rw [List.length_map, List.length_map, List.length_drop, List.length_take]; omega
    · rw [List.length_append, List.length_map, List.length_map, List.length_map, List.length_drop, List.length_take]; omega
    · rw [← List.map_append, zipD_map]
    · rw [List.length_zip]; omega
    · have h1 := hp.2 _ (zip_mem hp').1
      have h2 := hp.2 _ (cyc_mem (zip_mem hp').2)
      exact cm h1.1 h2.2 (by decide) (by decide) (by decide)
    · have h1 := hp.2 _ (zip_mem hp').1
      have h2 := hp.2 _ (cyc_mem (zip_mem hp').2)
      exact cm h1.2 h2.1 (by decide) (by decide) (by decide)
    · rw [crI_zip, List.map_map]
      rfl
def R_plate_area (ds : List PyData) (d : PyData) : Prop := ∃ (z : Bool × List P2), (Ps 900 z.2 ∧ z.2.length < 64 ∧ grid z.2 < 2 ^ 3000) ∧ ds = [sq z.1 (z.2.map encP)] ∧ d = encR (area z.2)
theorem c_plate_area {t0 : TE} {e0 e1 : List EK} {z : Bool × List P2} (a0 : ED K t0 e0 (sq z.1 (z.2.map encP)) e1) (hp : Ps 900 z.2 ∧ z.2.length < 64 ∧ grid z.2 < 2 ^ 3000) : ED K (tCall (spP K R_plate_area) [] E0 (tCons t0 tNil)) e0 (encR (area z.2)) e1 := ed_call (ad_cons a0 ad_nil) ⟨z, hp, rfl, rfl⟩
abbrev DD_plate_area (P : Program) (w : World) (K : Frag) (mg : Str → Option Value) (base : Heap) : Prop := Def P w K mg base 4 "plate_area" ["points"] (spP K R_plate_area)
theorem ok_plate_area (T : Top K mg) (D_ratio : DD_ratio P w K mg base) (D_on_grid : DD_on_grid P w K mg base) (D_crosses : DD_crosses P w K mg base) : DD_plate_area P w K mg base := by
  obtain ⟨f, fd, F, hm⟩ := T.df "plate_area" 50 (by decide +kernel)
  have sc : FnScope ["points", "pairs", "under"] ["points"] (defScope (top 50)) := ⟨rfl, rfl, rfl, by decide +kernel, rfl, by decide +kernel, by decide +kernel⟩
  have m_sum := T.fr "sum" (by decide +kernel)
  refine def_of F hm sc (fun ds d h => ?_) (fun _ _ _ _ _ _ us hl => match us, hl with | [_], _ => rfl) (fun cdv A outer s H E ds d hr h => ?_)
  · obtain ⟨z, hp, rfl, rfl⟩ := h
    rfl
  · obtain ⟨z, hp, rfl, rfl⟩ := h
    have hr1 := hr.mono (j := 1) (by decide)
    have hr2 := hr.mono (j := 2) (by decide)
    have hr3 := hr.mono (j := 3) (by decide)
    refine ⟨_, (pss_cons (ps_asg (pe_def D_on_grid hr3 (by rfl) (pa_cons (pv 0) pa_nil)) (pg_tup rfl (pgs_cons (pg_name (i := 1) sc.nd rfl (Or.inl rfl)) (pgs_cons (pg_name (i := 2) sc.nd rfl (Or.inl rfl)) pgs_nil))))
      (pss_one (ps_ret (pe_def D_ratio hr2 (by rfl) (pa_cons (pe_callB (cr_sum rfl) (by rfl) m_sum bt_sum (pa_cons (pe_def D_crosses hr1 (by rfl) (pa_cons (pv 1) pa_nil)) pa_nil)) (pa_cons (pe_op op_mulW (pe_op op_mulW pe_int (pv 2)) (pv 2)) pa_nil)))))), ?_⟩
    obtain ⟨hP, hl, hL⟩ := hp
    have hqb : ∀ q ∈ z.2.map (gp (grid z.2)), B 3900 q.1 ∧ B 3900 q.2 := fun q hq => by
      obtain ⟨p, hp, rfl⟩ := List.mem_map.mp hq
      exact gp_B (hP p hp) hL
    have hg : B 3000 ((grid z.2 : Nat) : Int) := B_nat hL
    have hg0 := grid_pos z.2
    have hlt : grid z.2 < 2 ^ 3900 := Nat.lt_of_lt_of_le hL (Nat.pow_le_pow_right (by decide) (by decide))
    show SD K _ [.imm _, .any, .any] _ _ _ _
    refine sd_then (e1 := [.imm (sq z.1 (z.2.map encP)), .imm (.list ((z.2.map (gp (grid z.2))).map encU)), .imm (encN (grid z.2))]) (sd_asg (c_on_grid (ed_var rfl) ⟨fun p hp => (hP p hp).mono (by decide), by omega, hlt⟩) (gd_tup (gds_cons gd_name (gds_cons gd_name gds_nil)))) (
      sd_retD (ed_is (c_ratio (ed_sum (c_crosses (ed_var rfl) ⟨by rw [List.length_map]; omega, fun q hq => ⟨(hqb q hq).1.mono (by decide), (hqb q hq).2.mono (by decide)⟩⟩)) (ed_mul (ed_mul ed_int (ed_var rfl) (cm (B.lit (k := 2) rfl) hg (by decide) (by decide) (by decide))) (ed_var rfl) (cm ((B.lit (k := 2) rfl).mul hg) hg (by decide) (by decide) (by decide))) ⟨?_, ?_, ?_⟩) ?_))
    · exact ii (ii (by decide) (by omega)) (by omega)
    · exact (sum_B64 (fun i hi => crI_B hqb i hi) (by rw [crI_len, List.length_map]; omega)).mono (by decide)
    · exact (((B.lit (k := 2) rfl).mul hg).mul hg).mono (by decide)
    · rw [area_int]
def R_stand_area (ds : List PyData) (d : PyData) : Prop := ∃ (S : List P2) (z : Rim × Rim), (Sz S ∧ z.1.1 < S.length ∧ z.2.1 < S.length ∧ Sm 900 z.1.2 ∧ Sm 900 z.2.2 ∧ Ps 900 (below S z) ∧ S.length < 60 ∧ grid (below S z) < 2 ^ 3000) ∧ ds = [encS S, encSt z] ∧ d = encR (stArea S z)
theorem c_stand_area {t0 t1 : TE} {e0 e1 e2 : List EK} {S : List P2} {z : Rim × Rim} (a0 : ED K t0 e0 (encS S) e1) (a1 : ED K t1 e1 (encSt z) e2) (hp : Sz S ∧ z.1.1 < S.length ∧ z.2.1 < S.length ∧ Sm 900 z.1.2 ∧ Sm 900 z.2.2 ∧ Ps 900 (below S z) ∧ S.length < 60 ∧ grid (below S z) < 2 ^ 3000) : ED K (tCall (spP K R_stand_area) [] E0 (tCons t0 (tCons t1 tNil))) e0 (encR (stArea S z)) e2 := ed_call (ad_cons a0 (ad_cons a1 ad_nil)) ⟨S, z, hp, rfl, rfl⟩
abbrev DD_stand_area (P : Program) (w : World) (K : Frag) (mg : Str → Option Value) (base : Heap) : Prop := Def P w K mg base 8 "stand_area" ["section", "stand"] (spP K R_stand_area)
theorem ok_stand_area (T : Top K mg) (D_plate_area : DD_plate_area P w K mg base) (D_points_below : DD_points_below P w K mg base) : DD_stand_area P w K mg base := by
  obtain ⟨f, fd, F, hm⟩ := T.df "stand_area" 55 (by decide +kernel)
  have sc : FnScope ["section", "stand"] ["section", "stand"] (defScope (top 55)) := ⟨rfl, rfl, rfl, by decide +kernel, rfl, by decide +kernel, by decide +kernel⟩
  refine def_of F hm sc (fun ds d h => ?_) (fun _ _ _ _ _ _ us hl => match us, hl with | [_, _], _ => rfl) (fun cdv A outer s H E ds d hr h => ?_)
  · obtain ⟨S, z, hp, rfl, rfl⟩ := h
    rfl
  · obtain ⟨S, z, hp, rfl, rfl⟩ := h
    have hr4 := hr.mono (j := 4) (by decide)
    have hr7 := hr.mono (j := 7) (by decide)
    refine ⟨_, (pss_one (ps_ret (pe_def D_plate_area hr4 (by rfl) (pa_cons (pe_def D_points_below hr7 (by rfl) (pa_cons (pv 0) (pa_cons (pv 1) pa_nil))) pa_nil)))), ?_⟩
    show SD K _ [.imm _, .imm _] _ _ _ _
    refine sd_retD (ed_is (c_plate_area (z := (true, below S z)) (c_points_below (ed_var rfl) (ed_var rfl) ⟨hp.1, hp.2.1, hp.2.2.1, hp.2.2.2.1, hp.2.2.2.2.1⟩) ⟨hp.2.2.2.2.2.1, by have := below_len hp.2.1 hp.2.2.1; have := hp.2.2.2.2.2.2.1; show (below S z).length < 64; omega, hp.2.2.2.2.2.2.2⟩) ?q1)
    case q1 => rfl
end
end Hull
namespace Hull
open PySem PySem.Spec PyProof.Rows L2
section
variable {P : Program} {w : World} {K : Frag} {mg : Str → Option Value} {base : Heap}
def Bu (k : Nat) (q : Int × Int) : Prop := B k q.1 ∧ B k q.2
theorem at_last {α : Type} {a : α} {l : List α} : atI (l ++ [a]) (-1) = some a := by
  unfold atI ixN
  rw [if_neg (by decide), if_pos (by rw [List.length_append]; simp only [List.length_cons, List.length_nil]; omega)]
  have e : ((-1 : Int) + ((l ++ [a]).length : Int)).toNat = l.length := by simp only [List.length_append, List.length_cons, List.length_nil]; omega
  show (l ++ [a])[((-1 : Int) + ((l ++ [a]).length : Int)).toNat]? = _
  rw [e, List.getElem?_append_right (Nat.le_refl _), Nat.sub_self]
  rfl
theorem at_prev {α : Type} {a b : α} {l : List α} : atI (l ++ [a] ++ [b]) (-2) = some a := by
  unfold atI ixN
  rw [if_neg (by decide), if_pos (by simp only [List.length_append, List.length_cons, List.length_nil]; omega)]
  have e : ((-2 : Int) + ((l ++ [a] ++ [b]).length : Int)).toNat = l.length := by simp only [List.length_append, List.length_cons, List.length_nil]; omega
  show (l ++ [a] ++ [b])[((-2 : Int) + ((l ++ [a] ++ [b]).length : Int)).toNat]? = _
  rw [e, List.append_assoc, List.getElem?_append_right (Nat.le_refl _), Nat.sub_self]
  rfl
def R_bends_left (ds : List PyData) (d : PyData) : Prop := ∃ (ua : Int × Int) (ub : Int × Int) (uc : Int × Int), (Bu 3900 ua ∧ Bu 3900 ub ∧ Bu 3900 uc) ∧ ds = [.tuple [.int ua.1, .int ua.2], .tuple [.int ub.1, .int ub.2], .tuple [.int uc.1, .int uc.2]] ∧ d = .bool (bendI ua ub uc)
theorem c_bends_left {t0 t1 t2 : TE} {e0 e1 e2 e3 : List EK} {ua : Int × Int} {ub : Int × Int} {uc : Int × Int} (a0 : ED K t0 e0 (.tuple [.int ua.1, .int ua.2]) e1) (a1 : ED K t1 e1 (.tuple [.int ub.1, .int ub.2]) e2) (a2 : ED K t2 e2 (.tuple [.int uc.1, .int uc.2]) e3) (hp : Bu 3900 ua ∧ Bu 3900 ub ∧ Bu 3900 uc) : ED K (tCall (spP K R_bends_left) [] E0 (tCons t0 (tCons t1 (tCons t2 tNil)))) e0 (.bool (bendI ua ub uc)) e3 := ed_call (ad_cons a0 (ad_cons a1 (ad_cons a2 ad_nil))) ⟨ua, ub, uc, hp, rfl, rfl⟩
abbrev DD_bends_left (P : Program) (w : World) (K : Frag) (mg : Str → Option Value) (base : Heap) : Prop := Def P w K mg base 1 "bends_left" ["one", "two", "three"] (spP K R_bends_left)
theorem ok_bends_left (T : Top K mg)  : DD_bends_left P w K mg base := by
  obtain ⟨f, fd, F, hm⟩ := T.df "bends_left" 42 (by decide +kernel)
  have sc : FnScope ["one", "two", "three"] ["one", "two", "three"] (defScope (top 42)) := ⟨rfl, rfl, rfl, by decide +kernel, rfl, by decide +kernel, by decide +kernel⟩
  refine def_of F hm sc (fun ds d h => ?_) (fun _ _ _ _ _ _ us hl => match us, hl with | [_, _, _], _ => rfl) (fun cdv A outer s H E ds d hr h => ?_)
  · obtain ⟨ua, ub, uc, hp, rfl, rfl⟩ := h
    rfl
  · obtain ⟨ua, ub, uc, hp, rfl, rfl⟩ := h
    refine ⟨_, (pss_one (ps_ret (pe_cmpR op_gt (pe_op op_mulW (pe_op op_sub (pe_ix (r := rIx K) ix_seq (pv 1) pe_int (fun _ _ => rfl)) (pe_ix (r := rIx K) ix_seq (pv 0) pe_int (fun _ _ => rfl))) (pe_op op_sub (pe_ix (r := rIx K) ix_seq (pv 2) pe_int (fun _ _ => rfl)) (pe_ix (r := rIx K) ix_seq (pv 0) pe_int (fun _ _ => rfl)))) (pe_op op_mulW (pe_op op_sub (pe_ix (r := rIx K) ix_seq (pv 1) pe_int (fun _ _ => rfl)) (pe_ix (r := rIx K) ix_seq (pv 0) pe_int (fun _ _ => rfl))) (pe_op op_sub (pe_ix (r := rIx K) ix_seq (pv 2) pe_int (fun _ _ => rfl)) (pe_ix (r := rIx K) ix_seq (pv 0) pe_int (fun _ _ => rfl)))) (nomark _)))), ?_⟩
    show SD K _ [.imm _, .imm _, .imm _] _ _ _ _
    refine sd_retD (ed_is (ed_gt (ed_mul (ed_sub (ed_ixT (ed_var rfl) ed_int at0) (ed_ixT (ed_var rfl) ed_int at0)) (ed_sub (ed_ixT (ed_var rfl) ed_int at1) (ed_ixT (ed_var rfl) ed_int at1)) (cm (B.sub hp.2.1.1 hp.1.1) (B.sub hp.2.2.2 hp.1.2) (by decide) (by decide) (by decide))) (ed_mul (ed_sub (ed_ixT (ed_var rfl) ed_int at1) (ed_ixT (ed_var rfl) ed_int at1)) (ed_sub (ed_ixT (ed_var rfl) ed_int at0) (ed_ixT (ed_var rfl) ed_int at0)) (cm (B.sub hp.2.1.2 hp.1.2) (B.sub hp.2.2.1 hp.1.1) (by decide) (by decide) (by decide)))) ?q1)
    case q1 => rfl
def R_bend_chain (ds : List PyData) (d : PyData) : Prop := ∃ (qs : List (Int × Int)), (qs.length ≤ 100 ∧ ∀ q ∈ qs, Bu 3900 q) ∧ ds = [.list (qs.map encU)] ∧ d = .list ((chain bendI qs).map encU)
theorem c_bend_chain {t0 : TE} {e0 e1 : List EK} {qs : List (Int × Int)} (a0 : ED K t0 e0 (.list (qs.map encU)) e1) (hp : qs.length ≤ 100 ∧ ∀ q ∈ qs, Bu 3900 q) : ED K (tCall (spP K R_bend_chain) [] E0 (tCons t0 tNil)) e0 (.list ((chain bendI qs).map encU)) e1 := ed_call (ad_cons a0 ad_nil) ⟨qs, hp, rfl, rfl⟩
abbrev DD_bend_chain (P : Program) (w : World) (K : Frag) (mg : Str → Option Value) (base : Heap) : Prop := Def P w K mg base 2 "bend_chain" ["pairs"] (spP K R_bend_chain)
theorem ok_bend_chain (T : Top K mg) (D_bends_left : DD_bends_left P w K mg base) : DD_bend_chain P w K mg base := by
  obtain ⟨f, fd, F, hm⟩ := T.df "bend_chain" 43 (by decide +kernel)
  have sc : FnScope ["pairs", "found", "pair"] ["pairs"] (defScope (top 43)) := ⟨rfl, rfl, rfl, by decide +kernel, rfl, by decide +kernel, by decide +kernel⟩
  have m_len := T.fr "len" (by decide +kernel)
  refine def_of F hm sc (fun ds d h => ?_) (fun _ _ _ _ _ _ us hl => match us, hl with | [_], _ => rfl) (fun cdv A outer s H E ds d hr h => ?_)
  · obtain ⟨qs, hp, rfl, rfl⟩ := h
    rfl
  · obtain ⟨qs, hp, rfl, rfl⟩ := h
    have hr1 := hr.mono (j := 1) (by decide)
    obtain ⟨hl, hB⟩ := hp
    refine ⟨_, (pss_cons (ps_set (i := 1) sc.nd rfl (Or.inl rfl) (pe_lst pa_nil))
      (pss_cons (ps_for PassesOwn.never rfl (pi_seq (pv 0)) (pg_name (i := 2) sc.nd rfl (Or.inl rfl)) (pss_cons (ps_while PassesOwn.never (pw_and (pt_cmpR op_gt (pe_callB call_len_seq (by rfl) m_len bt_len (pa_cons (pv 1) pa_nil)) pe_int (nomark _)) (pw_and1 (pt_not (pt_val (pe_def D_bends_left hr1 (by rfl) (pa_cons (pe_ix (r := rIx K) ix_seq (pv 1) (pe_un un_neg pe_int) (fun _ _ => rfl)) (pa_cons (pe_ix (r := rIx K) ix_seq (pv 1) (pe_un un_neg pe_int) (fun _ _ => rfl)) (pa_cons (pv 2) pa_nil)))))))).pt (pss_one (ps_expr (pe_bm0 PySem.F.plainAttrs_list PySem.F.slot_list_pop PySem.F.type_list_pop mt_pop (pv 1)))))
      (pss_one (ps_expr (pe_bm PySem.F.plainAttrs_list PySem.F.slot_list_append PySem.F.type_list_append mt_append (pv 1) (pa_cons (pv 2) pa_nil))))))
      (pss_one (ps_ret (pv 1))))), ?_⟩
    show SD K _ [.imm _, .any, .any] _ _ _ _
    refine sd_then (e1 := [.imm (encUs qs), .lis [], .any]) (sd_setM (edm_lst ad_nil)) (
      sd_seq (N := fun e => ∃ k, e = [.imm (encUs qs), .lis ((chain bendI qs).map encU), k])
        (sd_forM (fun pre e => ∃ k, e = [.imm (encUs qs), .lis ((chain bendI pre).map encU), k]) (id_seqL (ed_var rfl)) ⟨.any, rfl⟩ (fun pre x post e' hs hI => ?_) (fun e' hI => hI)) (fun e hz => ?_))
    · obtain ⟨k, rfl⟩ := hI
      have hx : x ∈ qs := by rw [hs]; exact List.mem_append_right _ List.mem_cons_self
      have hpre : ∀ z ∈ pre, z ∈ qs := fun z hz => by rw [hs]; exact List.mem_append_left _ hz
      have hlp : pre.length < 100 := by
        have := congrArg List.length hs
        rw [List.length_append, List.length_cons] at this
        omega
      have hst : ∀ z ∈ chainR bendI pre, Bu 3900 z := fun z hz => hB z (hpre z (chain_sub (bend := bendI) (List.mem_reverse.mpr hz)))
      refine ⟨[.imm (encUs qs), .lis ((chain bendI pre).map encU), .imm (encU x)], _, gd_name, sd_seq (N := fun e => e = [.imm (encUs qs), .lis ((popR bendI x (chainR bendI pre)).reverse.map encU), .imm (encU x)])
        (sd_while (fun m e => ∃ st, m = st.length ∧ popR bendI x st = popR bendI x (chainR bendI pre) ∧ (∀ z ∈ st, Bu 3900 z) ∧ e = [.imm (encUs qs), .lis (st.reverse.map encU), .imm (encU x)]) _ ⟨chainR bendI pre, rfl, rfl, hst, rfl⟩ (fun m e' hI => ?_)) (fun e hz => ?_)⟩
      · obtain ⟨st, rfl, hpop, hBs, rfl⟩ := hI
        match st, hpop, hBs with
        | [], hpop, hBs => exact ⟨false, _, td_is (td_and (td_test (ed_gt (ed_lenM rfl) ed_int)) (c := false) fun h => absurd h (by decide)) rfl, (fun h => nomatch h), fun _ => by rw [← hpop]; rfl⟩
        | [b], hpop, hBs => exact ⟨false, _, td_is (td_and (td_test (ed_gt (ed_lenM rfl) ed_int)) (c := false) fun h => absurd h (by simp)) (by simp), (fun h => nomatch h), fun _ => by rw [← hpop]; rfl⟩
        | b :: a :: r, hpop, hBs =>
          have e1 : (b :: a :: r).reverse.map encU = r.reverse.map encU ++ [encU a] ++ [encU b] := by simp
          refine ⟨!bendI a b x, _, td_is (td_and (td_test (ed_gt (ed_lenM rfl) ed_int)) (c := !bendI a b x) fun h => (td_not (td_B (c_bends_left (ed_ixM rfl (ed_neg ed_int) (by rw [e1]; exact at_prev)) (ed_ixM rfl (ed_neg ed_int) (by rw [e1]; exact at_last)) (ed_var rfl) ⟨hBs a (by simp), hBs b (by simp), hB x hx⟩)))) ?_, fun h => ?_, fun h => ?_⟩
          · rw [decide_eq_true (show (1 : Int) < (((b :: a :: r).reverse.map encU).length : Int) by rw [List.length_map, List.length_reverse, List.length_cons, List.length_cons]; omega)]
            rfl
          · have hb : bendI a b x = false := by simpa using h
            refine sd_imp (sd_pop rfl (by simp)) fun e' he => ⟨_, ?_, a :: r, rfl, ?_, fun z hz => hBs z (List.mem_cons_of_mem _ hz), ?_⟩
            · simp only [List.length_cons]; omega
            · rw [← hpop]
              conv => rhs; unfold popR
              rw [hb]
              rfl
            · rw [he, e1, List.dropLast_concat]
              simp
          · have hb : bendI a b x = true := by simpa using h
            rw [← hpop]
            unfold popR
            rw [hb]
            rfl
      · subst hz
        refine sd_imp (sd_app rfl (ed_var rfl) rfl ?_) fun e' he => ⟨.imm (encU x), ?_⟩
        · have h1 := popR_len (bend := bendI) x (st := chainR bendI pre)
          have h2 := chain_len (bend := bendI) (l := pre)
          unfold chain at h2
          rw [List.length_reverse] at h2
          rw [List.length_map, List.length_reverse]
          omega
        · rw [he]
          have ec : chain bendI (pre ++ [x]) = (popR bendI x (chainR bendI pre)).reverse ++ [x] := by
            unfold chain chainR
            rw [List.foldl_append]
            show (stepR bendI _ x).reverse = _
            unfold stepR
            rw [List.reverse_cons]
          rw [ec, List.map_append]
          rfl
    · obtain ⟨k, rfl⟩ := hz
      exact sd_wk (e1 := [_, _, .any]) (sd_retD (ed_varM rfl)) ⟨.inr rfl, .inr rfl, .inl rfl, trivial⟩
theorem hull_len (qs : List (Int × Int)) (h : qs.length < 100) : (hullI qs).length < 200 := by
  have h1 := srtB_len ordU qs
  have h2 := chain_len (bend := bendI) (l := srtB ltU qs)
  have h3 := chain_len (bend := bendI) (l := (srtB ltU qs).reverse)
  rw [List.length_reverse] at h3
  unfold hullI
  split
  · omega
  · rw [List.length_append, List.length_dropLast, List.length_dropLast]; omega
def R_hull (ds : List PyData) (d : PyData) : Prop := ∃ (S : List P2), (Ps 900 S ∧ S.length < 64 ∧ grid S < 2 ^ 3000) ∧ ds = [encS S] ∧ d = encS (hullP S)
theorem c_hull {t0 : TE} {e0 e1 : List EK} {S : List P2} (a0 : ED K t0 e0 (encS S) e1) (hp : Ps 900 S ∧ S.length < 64 ∧ grid S < 2 ^ 3000) : ED K (tCall (spP K R_hull) [] E0 (tCons t0 tNil)) e0 (encS (hullP S)) e1 := ed_call (ad_cons a0 ad_nil) ⟨S, hp, rfl, rfl⟩
abbrev DD_hull (P : Program) (w : World) (K : Frag) (mg : Str → Option Value) (base : Heap) : Prop := Def P w K mg base 4 "hull" ["points"] (spP K R_hull)
theorem ok_hull (T : Top K mg) (D_vector : DD_vector P w K mg base) (D_on_grid : DD_on_grid P w K mg base) (D_bend_chain : DD_bend_chain P w K mg base) : DD_hull P w K mg base := by
  obtain ⟨f, fd, F, hm⟩ := T.df "hull" 44 (by decide +kernel)
  have sc : FnScope ["points", "pairs", "under", "rows", "found", "x", "y"] ["points"] (defScope (top 44)) := ⟨rfl, rfl, rfl, by decide +kernel, rfl, by decide +kernel, by decide +kernel⟩
  have m_tuple := T.fr "tuple" (by decide +kernel)
  have m_len := T.fr "len" (by decide +kernel)
  have m_sorted := T.fr "sorted" (by decide +kernel)
  have m_set := T.fr "set" (by decide +kernel)
  refine def_of F hm sc (fun ds d h => ?_) (fun _ _ _ _ _ _ us hl => match us, hl with | [_], _ => rfl) (fun cdv A outer s H E ds d hr h => ?_)
  · obtain ⟨S, hp, rfl, rfl⟩ := h
    rfl
  · obtain ⟨S, hp, rfl, rfl⟩ := h
    have hr2 := hr.mono (j := 2) (by decide)
    have hr3 := hr.mono (j := 3) (by decide)
    obtain ⟨hP, hl, hL⟩ := hp
    refine ⟨_, (pss_cons (ps_asg (pe_def D_on_grid hr3 (by rfl) (pa_cons (pv 0) pa_nil)) (pg_tup rfl (pgs_cons (pg_name (i := 1) sc.nd rfl (Or.inl rfl)) (pgs_cons (pg_name (i := 2) sc.nd rfl (Or.inr rfl)) pgs_nil))))
      (pss_cons (ps_set (i := 3) sc.nd rfl (Or.inl rfl) (pe_callB (cr_sortG rfl) (by rfl) m_sorted bt_sorted (pa_cons (pe_callTy (cr_setOfT rfl hr.units) (by rfl) m_set bt_set (pa_cons (pv 1) pa_nil)) pa_nil)))
      (pss_cons (ps_set (i := 4) sc.nd rfl (Or.inl rfl) (pe_ifExp (pt_cmpR op_eq (pe_callB call_len_seq (by rfl) m_len bt_len (pa_cons (pv 3) pa_nil)) pe_int (nomark _)) (pv 3) (pe_op op_cat (pe_slice sl_list (pe_def D_bend_chain hr2 (by rfl) (pa_cons (pv 3) pa_nil)) po_none (po_some (pe_un un_neg pe_int))) (pe_slice sl_list (pe_def D_bend_chain hr2 (by rfl) (pa_cons (pe_revL (pv 3)) pa_nil)) po_none (po_some (pe_un un_neg pe_int))))))
      (pss_one (ps_ret (pe_callTy call_tuple_of (by rfl) m_tuple bt_tuple (pa_cons (pe_lc (g := gTup K 2 (gCons (gName 5) (gCons (gName 6) gNil))) (own := [("x", 5), ("y", 6)]) rfl sc.nd (pi_seq (pv 4)) (blkOk_by (own := [("x", 5), ("y", 6)]) (N := ["points", "pairs", "under", "rows", "found", "x", "y"]) (sc := defScope (top 44)) (by decide +kernel)) (fun _ _ _ _ _ => (pg_tup rfl (pgs_cons (pg_name (i := 5) sc.nd rfl (Or.inl rfl)) (pgs_cons (pg_name (i := 6) sc.nd rfl (Or.inl rfl)) pgs_nil)))) (fun _ _ _ _ _ => pts_nil) (fun _ _ _ _ _ => (pe_def D_vector hr2 (by rfl) (pa_cons (pv 5) (pa_cons (pv 6) (pa_cons (pv 2) pa_nil)))))) pa_nil))))))), ?_⟩
    have hlt : grid S < 2 ^ 3900 := Nat.lt_of_lt_of_le hL (Nat.pow_le_pow_right (by decide) (by decide))
    have hg0 := grid_pos S
    have hqb : ∀ q ∈ S.map (gp (grid S)), Bu 3900 q := fun q hq => by
      obtain ⟨p, hp, rfl⟩ := List.mem_map.mp hq
      exact gp_B (hP p hp) hL
    have hsb : ∀ q ∈ srtB ltU (S.map (gp (grid S))), Bu 3900 q := fun q hq => hqb q ((mem_srtB ordU).mp hq)
    have hsl : (srtB ltU (S.map (gp (grid S)))).length ≤ 100 := by
      have := srtB_len ordU (S.map (gp (grid S)))
      rw [List.length_map] at this
      omega
    have hbp : ∀ q ∈ S.map (gp (grid S)), Bp (2 ^ 3900) q := fun q hq => by
      have h : q.2.natAbs < 2 ^ 3900 := (hqb q hq).2
      generalize ez : (2 : Nat) ^ 3900 = z at h
      have e2 : (2 : Int) ^ 3900 = (z : Int) := by rw [← ez, Int.natCast_pow]; rfl
      unfold Bp
      rw [e2]
      omega
    show SD K _ [.imm _, .any, .any, .any, .any, .any, .any] _ _ _ _
    refine sd_then (e1 := [.imm (encS S), .imm (encUs (S.map (gp (grid S)))), .imm (encN (grid S)), .any, .any, .any, .any]) (sd_asg (c_on_grid (z := (false, S)) (ed_var rfl) ⟨fun p hp => (hP p hp).mono (by decide), by show S.length ≤ 100; omega, hlt⟩) (gd_tup (gds_cons gd_name (gds_cons gd_name gds_nil)))) (
      sd_then (e1 := [.imm (encS S), .imm (encUs (S.map (gp (grid S)))), .imm (encN (grid S)), .imm (encUs (srtB ltU (S.map (gp (grid S))))), .any, .any, .any]) (sd_set (ed_sortSet (ed_var rfl) (by rw [List.length_map]; exact hl) hbp)) (
      sd_then (e1 := [.imm (encS S), .imm (encUs (S.map (gp (grid S)))), .imm (encN (grid S)), .imm (encUs (srtB ltU (S.map (gp (grid S))))), .imm (encUs (hullI (S.map (gp (grid S))))), .any, .any])
        (sd_set (ed_if (d := encUs (hullI (S.map (gp (grid S))))) (td_test (ed_eqI (ed_lenL (ed_var rfl)) ed_int)) (fun h => ed_is (ed_var rfl) ?_) (fun h => ed_is (ed_cat (ed_slL (c_bend_chain (ed_var rfl) ⟨hsl, hsb⟩) od_no (od_some (ed_neg ed_int))) (ed_slL (c_bend_chain (qs := (srtB ltU (S.map (gp (grid S)))).reverse) (ed_is (ed_rev (ed_var rfl)) (by rw [List.map_reverse])) ⟨by rw [List.length_reverse]; exact hsl, fun q hq => hsb q (List.mem_reverse.mp hq)⟩) od_no (od_some (ed_neg ed_int))) ?_) ?_))) (
      sd_retD (ed_is (ed_tupOf (ed_lcM (h := fun q : Int × Int => encP ⟨(q.1 : Rat) / (((grid S : Nat) : Int) : Rat), (q.2 : Rat) / (((grid S : Nat) : Int) : Rat)⟩) (id_seqL (ed_var rfl)) (by rfl) (by have := hull_len (S.map (gp (grid S))) (by rw [List.length_map]; omega); omega) fun q hq => ⟨_, [5, 6], fun j h => h, gd_tup (gds_cons gd_name (gds_cons gd_name gds_nil)), c_vector (ed_var rfl) (ed_var rfl) (ed_var rfl) ⟨by omega, (hqb q (hullI_sub hq)).1.mono (by decide), (hqb q (hullI_sub hq)).2.mono (by decide), (B_nat hL).mono (by decide)⟩⟩)) ?_))))
    · have h : ((((srtB ltU (S.map (gp (grid S)))).map encU).length : Nat) : Int) = 1 := of_decide_eq_true h
      rw [List.length_map] at h
      unfold hullI
      rw [if_pos (by omega)]
    · have h1 := chain_len (bend := bendI) (l := srtB ltU (S.map (gp (grid S))))
      have h2 := chain_len (bend := bendI) (l := (srtB ltU (S.map (gp (grid S)))).reverse)
      rw [List.length_reverse] at h2
      show (cutD _ none (some (-1))).length + (cutD _ none (some (-1))).length ≤ 1000
      rw [cut_most, cut_most, List.length_dropLast, List.length_dropLast, List.length_map, List.length_map]
      omega
    · have h : ¬ ((((srtB ltU (S.map (gp (grid S)))).map encU).length : Nat) : Int) = 1 := of_decide_eq_false h
      rw [List.length_map] at h
      show PyData.list (cutD _ none (some (-1)) ++ cutD _ none (some (-1))) = _
      unfold encUs hullI
      rw [if_neg (by omega), cut_most, cut_most, List.map_append, List.map_dropLast, List.map_dropLast]
    · rw [hull_gp hg0 fun p hp => grid_dvd hp, List.map_map]
      refine congrArg PyData.tuple (List.map_congr_left fun p hp => ?_)
      show encP _ = encP p
      rw [gp_back hg0 (grid_dvd (hullP_sub hp))]
theorem shS (S : List P2) : SeqAt.shaped (encS S) = true := by
  have h1 : ∀ S : List P2, PyData.canLayAll0 (S.map encP) = true := fun S => by
    induction S with
    | nil => rfl
    | cons p S ih => rw [List.map_cons, PyData.canLayAll0, ih]; rfl
  have h2 : ∀ S : List P2, PyData.depthAll (S.map encP) ≤ 1 := fun S => by
    induction S with
    | nil => decide
    | cons p S ih =>
      rw [List.map_cons, PyData.depthAll]
      have : PyData.depth (encP p) = 1 := rfl
      omega
  unfold SeqAt.shaped
  have e1 : PyData.canLay0 (encS S) = true := by simp only [PyData.canLay0]; exact h1 S
  have e2 : PyData.depth (encS S) ≤ 64 := by simp only [PyData.depth]; have := h2 S; omega
  rw [e1, decide_eq_true e2]
  rfl
theorem eqvAll_P : ∀ a b : List P2, PyData.eqvAll (a.map encP) (b.map encP) = decide (a = b)
  | [], [] => by simp [PyData.eqvAll]
  | [], _ :: _ => by simp [PyData.eqvAll]
  | _ :: _, [] => by simp [PyData.eqvAll]
  | x :: a, y :: b => by
    rw [List.map_cons, List.map_cons, PyData.eqvAll, eqvP, eqvAll_P a b, ← Bool.decide_and]
    exact decide_eq_decide.mpr (by simp)
theorem eqvS (a b : List P2) : PyData.eqv (encS a) (encS b) = decide (a = b) := by
  rw [PyData.eqv]
  exact eqvAll_P a b
/-- what is_plate says yes to -/
structure Plate (S : List P2) : Prop where
  ps : Ps 900 S
  lo : 3 ≤ S.length
  hi : S.length ≤ 8
  gr : grid S < 2 ^ 3000
  hull : hullP S = S
def R_is_shape (ds : List PyData) (d : PyData) : Prop := ∃ (S : List P2), (Plate S) ∧ ds = [encS S] ∧ d = .bool true
theorem c_is_shape {t0 : TE} {e0 e1 : List EK} {S : List P2} (a0 : ED K t0 e0 (encS S) e1) (hp : Plate S) : ED K (tCall (spP K R_is_shape) [] E0 (tCons t0 tNil)) e0 (.bool true) e1 := ed_call (ad_cons a0 ad_nil) ⟨S, hp, rfl, rfl⟩
abbrev DD_is_shape (P : Program) (w : World) (K : Frag) (mg : Str → Option Value) (base : Heap) : Prop := Def P w K mg base 5 "is_shape" ["value"] (spP K R_is_shape)
theorem ok_is_shape (T : Top K mg) (D_is_vector : DD_is_vector P w K mg base) (D_hull : DD_hull P w K mg base) : DD_is_shape P w K mg base := by
  obtain ⟨f, fd, F, hm⟩ := T.df "is_shape" 45 (by decide +kernel)
  have sc : FnScope ["value", "corner"] ["value"] (defScope (top 45)) := ⟨rfl, rfl, rfl, by decide +kernel, rfl, by decide +kernel, by decide +kernel⟩
  have m_isinstance := T.fr "isinstance" (by decide +kernel)
  have m_tuple := T.fr "tuple" (by decide +kernel)
  have m_all := T.fr "all" (by decide +kernel)
  refine def_of F hm sc (fun ds d h => ?_) (fun _ _ _ _ _ _ us hl => match us, hl with | [_], _ => rfl) (fun cdv A outer s H E ds d hr h => ?_)
  · obtain ⟨S, hp, rfl, rfl⟩ := h
    rfl
  · obtain ⟨S, hp, rfl, rfl⟩ := h
    have hr3 := hr.mono (j := 3) (by decide)
    have hr4 := hr.mono (j := 4) (by decide)
    refine ⟨_, (pss_cons (ps_if (pw_or (pt_not (pt_val (pe_callB call_isi (by rfl) m_isinstance bt_isinstance (pa_cons (pv 0) (pa_cons (pe_bltn (v := .ty "tuple") (by rfl) m_tuple bt_tuple rfl) pa_nil))))) (pw_or (pt_cmpR (r := rEqD K) (op_eqD hr.units) (pv 0) (pe_tup pa_nil) (nomark _)) (pw_or1 (pt_not (pt_val (pe_callB (cr_all rfl) (by rfl) m_all bt_all (pa_cons (pe_lc (own := [("corner", 1)]) rfl sc.nd (pi_seq (pv 0)) (blkOk_by (own := [("corner", 1)]) (N := ["value", "corner"]) (sc := defScope (top 45)) (by decide +kernel)) (fun _ _ _ _ _ => (pg_name (i := 1) sc.nd rfl (Or.inl rfl))) (fun _ _ _ _ _ => pts_nil) (fun _ _ _ _ _ => (pe_def D_is_vector hr3 (by rfl) (pa_cons (pv 1) pa_nil)))) pa_nil))))))).pt (pss_one (ps_ret pe_bl)) pss_nil)
      (pss_one (ps_ret (pe_cmpR (r := rEqD K) (op_eqD hr.units) (pe_def D_hull hr4 (by rfl) (pa_cons (pv 0) pa_nil)) (pv 0) (nomark _))))), ?_⟩
    show SD K _ [.imm _, .any] _ _ _ _
    refine sd_then (sd_skip (td_is (td_or (td_not (td_B (ed_isi (ed_var rfl) rfl kit_tuple_tuple))) fun h => (td_or (td_test (ed_eqD (ed_var rfl) (ed_tup ad_nil) ?s1 ?s2)) fun h => (td_not (td_B (ed_all (bs := S.map fun _ => true) (ed_is (ed_lcM (h := fun _ => PyData.bool true) (id_seqT (ed_var rfl)) (by rfl) ?cc1 ?cd2) ?qq3)))))) ?f3)) (
    sd_retD (ed_is (ed_eqD (c_hull (ed_var rfl) ⟨hp.ps, by have := hp.hi; omega, hp.gr⟩) (ed_var rfl) ?s4 ?s5) ?q6))
    case cc1 => have := hp.hi; omega
    case cd2 =>
      intro p hp'
      exact ⟨_, [1], fun j h => h, gd_name, c_is_vector (ed_var rfl) trivial⟩
    case qq3 => rw [List.map_map]; rfl
    case s1 => exact shS S
    case s2 => rfl
    case f3 =>
      have h0 : PyData.eqv (encS S) (encS []) = false := by
        rw [eqvS, decide_eq_false]
        intro z
        have := hp.lo
        rw [z] at this
        simp at this
      have h1 : (S.map fun _ => true).all id = true := by simp
      show (!true || (PyData.eqv (encS S) (encS []) || !((S.map fun _ => true).all id))) = false
      rw [h0, h1]
      rfl
    case s4 => rw [hp.hull]; exact shS S
    case s5 => exact shS S
    case q6 => rw [hp.hull, eqvS]; simp
def R_is_plate (ds : List PyData) (d : PyData) : Prop := ∃ (S : List P2), (Plate S) ∧ ds = [encS S] ∧ d = .bool true
theorem c_is_plate {t0 : TE} {e0 e1 : List EK} {S : List P2} (a0 : ED K t0 e0 (encS S) e1) (hp : Plate S) : ED K (tCall (spP K R_is_plate) [] E0 (tCons t0 tNil)) e0 (.bool true) e1 := ed_call (ad_cons a0 ad_nil) ⟨S, hp, rfl, rfl⟩
abbrev DD_is_plate (P : Program) (w : World) (K : Frag) (mg : Str → Option Value) (base : Heap) : Prop := Def P w K mg base 6 "is_plate" ["value"] (spP K R_is_plate)
theorem ok_is_plate (T : Top K mg) (D_is_shape : DD_is_shape P w K mg base) : DD_is_plate P w K mg base := by
  obtain ⟨f, fd, F, hm⟩ := T.df "is_plate" 46 (by decide +kernel)
  have sc : FnScope ["value"] ["value"] (defScope (top 46)) := ⟨rfl, rfl, rfl, by decide +kernel, rfl, by decide +kernel, by decide +kernel⟩
  have m_len := T.fr "len" (by decide +kernel)
  obtain ⟨tM, mMOST_EDGES⟩ := T.most
  have rMOST_EDGES : RelV (.int 8) (.int 8 tM) := ⟨tM, rfl⟩
  refine def_of F hm sc (fun ds d h => ?_) (fun _ _ _ _ _ _ us hl => match us, hl with | [_], _ => rfl) (fun cdv A outer s H E ds d hr h => ?_)
  · obtain ⟨S, hp, rfl, rfl⟩ := h
    rfl
  · obtain ⟨S, hp, rfl, rfl⟩ := h
    have hr5 := hr.mono (j := 5) (by decide)
    refine ⟨_, (pss_one (ps_ret (pe_and (pe_def D_is_shape hr5 (by rfl) (pa_cons (pv 0) pa_nil)) (pe_one (pe_chain op_le op_le pe_int (pe_callB call_len_seq (by rfl) m_len bt_len (pa_cons (pv 0) pa_nil)) (pe_glob (by rfl) mMOST_EDGES rMOST_EDGES)))))), ?_⟩
    show SD K _ [.imm _] _ _ _ _
    refine sd_retD (ed_is (ed_and (c_is_shape (ed_var rfl) hp) fun h => (ed_chainI ed_int (ed_lenT (ed_var rfl)) fun h => ed_int)) ?q1)
    case q1 =>
      have := hp.lo
      have := hp.hi
      rw [List.length_map, decide_eq_true (show (3 : Int) ≤ (S.length : Int) by omega), decide_eq_true (show (S.length : Int) ≤ 8 by omega)]
      rfl
end
end Hull
namespace Hull
open PySem PySem.Spec PyProof.Rows L2
section
variable {P : Program} {w : World} {K : Frag} {mg : Str → Option Value} {base : Heap}
theorem lv_at {z : (Int × Int) × List P2} {i : Nat} (h : i < z.2.length) : atI (z.2.map fun p => encR (lev z.1 p)) (i : Int) = some (encR (lev z.1 (cn z.2 i))) := atN (by rw [List.getElem?_map, cn_get h]; rfl)
theorem lv_next {z : (Int × Int) × List P2} {i : Nat} {n : Nat} (hn : n = z.2.length) (h : 0 < n) : atI (z.2.map fun p => encR (lev z.1 p)) (((i : Int) + 1) % (n : Int)) = some (encR (lev z.1 (cn z.2 (i + 1)))) := by
  have e : (((i : Int) + 1) % (n : Int)) = (((i + 1) % n : Nat) : Int) := by rw [Int.natCast_emod]; rfl
  subst hn
  rw [e, lv_at (Nat.mod_lt _ h), cn_mod]
def R_crossing (ds : List PyData) (d : PyData) : Prop := ∃ (S : List P2) (i : Nat) (z : (Int × Int) × List P2) (ra : Rat), (S = z.2 ∧ 0 < S.length ∧ i < S.length ∧ Sm 4000 ra ∧ Sm 2000 ra ∧ Sm 900 (lev z.1 (cn S i)) ∧ Sm 900 (lev z.1 (cn S (i + 1))) ∧ lev z.1 (cn S (i + 1)) ≠ lev z.1 (cn S i)) ∧ ds = [encS S, .int (i : Int), .list (z.2.map fun p => encR (lev z.1 p)), encR ra] ∧ d = encRim (cross1 S z.1 ra i)
theorem c_crossing {t0 t1 t2 t3 : TE} {e0 e1 e2 e3 e4 : List EK} {S : List P2} {i : Nat} {z : (Int × Int) × List P2} {ra : Rat} (a0 : ED K t0 e0 (encS S) e1) (a1 : ED K t1 e1 (.int (i : Int)) e2) (a2 : ED K t2 e2 (.list (z.2.map fun p => encR (lev z.1 p))) e3) (a3 : ED K t3 e3 (encR ra) e4) (hp : S = z.2 ∧ 0 < S.length ∧ i < S.length ∧ Sm 4000 ra ∧ Sm 2000 ra ∧ Sm 900 (lev z.1 (cn S i)) ∧ Sm 900 (lev z.1 (cn S (i + 1))) ∧ lev z.1 (cn S (i + 1)) ≠ lev z.1 (cn S i)) : ED K (tCall (spP K R_crossing) [] E0 (tCons t0 (tCons t1 (tCons t2 (tCons t3 tNil))))) e0 (encRim (cross1 S z.1 ra i)) e4 := ed_call (ad_cons a0 (ad_cons a1 (ad_cons a2 (ad_cons a3 ad_nil)))) ⟨S, i, z, ra, hp, rfl, rfl⟩
abbrev DD_crossing (P : Program) (w : World) (K : Frag) (mg : Str → Option Value) (base : Heap) : Prop := Def P w K mg base 4 "crossing" ["section", "index", "levels", "height"] (spP K R_crossing)
theorem ok_crossing (T : Top K mg) (D_ratio : DD_ratio P w K mg base) (D_ratio_less : DD_ratio_less P w K mg base) (D_rim_to : DD_rim_to P w K mg base) : DD_crossing P w K mg base := by
  obtain ⟨f, fd, F, hm⟩ := T.df "crossing" 56 (by decide +kernel)
  have sc : FnScope ["section", "index", "levels", "height", "here", "there", "gone", "whole"] ["section", "index", "levels", "height"] (defScope (top 56)) := ⟨rfl, rfl, rfl, by decide +kernel, rfl, by decide +kernel, by decide +kernel⟩
  have m_len := T.fr "len" (by decide +kernel)
  refine def_of F hm sc (fun ds d h => ?_) (fun _ _ _ _ _ _ us hl => match us, hl with | [_, _, _, _], _ => rfl) (fun cdv A outer s H E ds d hr h => ?_)
  · obtain ⟨S, i, z, ra, hp, rfl, rfl⟩ := h
    rfl
  · obtain ⟨S, i, z, ra, hp, rfl, rfl⟩ := h
    have hr1 := hr.mono (j := 1) (by decide)
    have hr2 := hr.mono (j := 2) (by decide)
    have hr3 := hr.mono (j := 3) (by decide)
    obtain ⟨rfl, h0, hi, hra4, hra2, hl1, hl2, hne⟩ := hp
    have hg : Sm 2901 (ra - lev z.1 (cn z.2 i)) := hra2.sub hl1
    have hw : Sm 1801 (lev z.1 (cn z.2 (i + 1)) - lev z.1 (cn z.2 i)) := hl2.sub hl1
    have hw0 : lev z.1 (cn z.2 (i + 1)) - lev z.1 (cn z.2 i) ≠ 0 := fun q => hne (by grind)
    refine ⟨_, (pss_cons (ps_par (i := 4) (j := 5) rfl sc.nd rfl rfl (by decide) rfl rfl (pa_cons (pe_ix (r := rIx K) ix_seq (pv 2) (pv 1) (fun _ _ => rfl)) (pa_cons (pe_ix (r := rIx K) ix_seq (pv 2) (pe_op op_mod (pe_op op_add (pv 1) pe_int) (pe_callB call_len_seq (by rfl) m_len bt_len (pa_cons (pv 0) pa_nil))) (fun _ _ => rfl)) pa_nil)) rfl)
      (pss_cons (ps_par (i := 6) (j := 7) rfl sc.nd rfl rfl (by decide) rfl rfl (pa_cons (pe_def D_ratio_less hr3 (by rfl) (pa_cons (pv 3) (pa_cons (pv 4) pa_nil))) (pa_cons (pe_def D_ratio_less hr3 (by rfl) (pa_cons (pv 5) (pa_cons (pv 4) pa_nil))) pa_nil)) rfl)
      (pss_one (ps_ret (pe_def D_rim_to hr1 (by rfl) (pa_cons (pv 0) (pa_cons (pv 1) (pa_cons (pe_def D_ratio hr2 (by rfl) (pa_cons (pe_op op_mulW (pe_ix (r := rIx K) ix_seq (pv 6) pe_int (fun _ _ => rfl)) (pe_ix (r := rIx K) ix_seq (pv 7) pe_int (fun _ _ => rfl))) (pa_cons (pe_op op_mulW (pe_ix (r := rIx K) ix_seq (pv 6) pe_int (fun _ _ => rfl)) (pe_ix (r := rIx K) ix_seq (pv 7) pe_int (fun _ _ => rfl))) pa_nil))) pa_nil)))))))), ?_⟩
    show SD K _ [.imm _, .imm _, .imm _, .imm _, .any, .any, .any, .any] _ _ _ _
    refine sd_then (e1 := [.imm _, .imm _, .imm _, .imm _, .imm _, .imm _, .any, .any]) (sd_par (ad_cons (ed_ixL (ed_var rfl) (ed_var rfl) (lv_at (z := z) hi)) (ad_cons (ed_ixL (ed_var rfl) (ed_mod (ed_add (ed_var rfl) ed_int) (ed_lenT (ed_var rfl)) ?p1) (lv_next (z := z) (by rw [List.length_map]) (by rw [List.length_map]; exact h0))) ad_nil))) (
    sd_then (e1 := [.imm _, .imm _, .imm _, .imm _, .imm _, .imm _, .imm _, .imm _]) (sd_par (ad_cons (c_ratio_less (ed_var rfl) (ed_var rfl) ?r2) (ad_cons (c_ratio_less (ed_var rfl) (ed_var rfl) ?r3) ad_nil))) (
    sd_retD (ed_is (c_rim_to (ed_var rfl) (ed_var rfl) (c_ratio (ed_mul (ed_ixT (ed_var rfl) ed_int at0) (ed_ixT (ed_var rfl) ed_int at1) (cm hg.n hw.d (by decide) (by decide) (by decide))) (ed_mul (ed_ixT (ed_var rfl) ed_int at1) (ed_ixT (ed_var rfl) ed_int at0) (cm hg.d hw.n (by decide) (by decide) (by decide))) ?r4) ?r5) ?q6)))
    case p1 => rw [List.length_map]; omega
    case r2 => exact ⟨hra4, hl1.mono (by decide)⟩
    case r3 => exact ⟨hl2.mono (by decide), hl1.mono (by decide)⟩
    case r4 => exact ⟨ii (den_ne' _) (num_ne hw0), (B.mul hg.n hw.d).mono (by decide), (B.mul hg.d hw.n).mono (by decide)⟩
    case r5 => exact h0
    case q6 => rw [rat_over _ _ hw0]; rfl
def lineOf (S : List P2) (u : Int × Int) (h : Rat) : Option Stand := match lineL S u h S.length, lineR S u h S.length with
  | some l, some r => if (S.any fun p => decide (h < lev u p)) = true then some (l, r) else none
  | _, _ => none
def encOS (z : Option Stand) : PyData := match z with
  | none => .none
  | some s => encSt s
theorem lineL_succ (S : List P2) (u : Int × Int) (h : Rat) (i : Nat) : lineL S u h (i + 1) = if lev u (cn S (i + 1)) < h ∧ ¬ lev u (cn S i) < h then some (cross1 S u h i) else lineL S u h i := by
  unfold lineL
  rw [List.range_succ, List.foldl_append]
  rfl
theorem lineR_succ (S : List P2) (u : Int × Int) (h : Rat) (i : Nat) : lineR S u h (i + 1) = if lev u (cn S i) < h ∧ ¬ lev u (cn S (i + 1)) < h then some (cross1 S u h i) else lineR S u h i := by
  unfold lineR
  rw [List.range_succ, List.foldl_append]
  rfl
theorem id_enumV {K : Frag} {te : TE} {e e1 : List EK} {z : (Int × Int) × List P2} (h : ED K te e (.list (z.2.map fun p => encR (lev z.1 p))) e1) : ID K (iEnumS K (tCons te tNil)) e ((List.range z.2.length).map fun (i : Nat) => .tuple [.int (i : Int), encR (lev z.1 (cn z.2 i))]) e1 :=
  id_eq (id_enumSL h) (enumD_map z.2 (fun p => encR (lev z.1 p)) (fun (i : Nat) => encR (lev z.1 (cn z.2 i))) fun i x q => by
    have hi := (List.getElem?_eq_some_iff.mp q).1
    rw [cn_get hi] at q
    rw [Option.some.inj q])
theorem isN_O (o : Option Rim) : isNone (encO o) = o.isNone := by cases o <;> rfl
/-- numbers of a height -/
structure LvOk (S : List P2) (u : Int × Int) (h : Rat) : Prop where
  u1 : B 100 u.1
  u2 : B 100 u.2
  ra : Sm 2000 h
  lv : ∀ p ∈ S, Sm 900 (lev u p)
def R_line_of (ds : List PyData) (d : PyData) : Prop := ∃ (S : List P2) (u : Int × Int) (ra : Rat), (Ps 900 S ∧ 0 < S.length ∧ S.length ≤ 100 ∧ LvOk S u ra) ∧ ds = [encS S, .tuple [.int u.1, .int u.2], encR ra] ∧ d = encOS (lineOf S u ra)
theorem c_line_of {t0 t1 t2 : TE} {e0 e1 e2 e3 : List EK} {S : List P2} {u : Int × Int} {ra : Rat} (a0 : ED K t0 e0 (encS S) e1) (a1 : ED K t1 e1 (.tuple [.int u.1, .int u.2]) e2) (a2 : ED K t2 e2 (encR ra) e3) (hp : Ps 900 S ∧ 0 < S.length ∧ S.length ≤ 100 ∧ LvOk S u ra) : ED K (tCall (spP K R_line_of) [] E0 (tCons t0 (tCons t1 (tCons t2 tNil)))) e0 (encOS (lineOf S u ra)) e3 := ed_call (ad_cons a0 (ad_cons a1 (ad_cons a2 ad_nil))) ⟨S, u, ra, hp, rfl, rfl⟩
abbrev DD_line_of (P : Program) (w : World) (K : Frag) (mg : Str → Option Value) (base : Heap) : Prop := Def P w K mg base 5 "line_of" ["section", "up", "height"] (spP K R_line_of)
theorem ok_line_of (T : Top K mg) (D_is_lower : DD_is_lower P w K mg base) (D_level_of : DD_level_of P w K mg base) (D_crossing : DD_crossing P w K mg base) : DD_line_of P w K mg base := by
  obtain ⟨f, fd, F, hm⟩ := T.df "line_of" 57 (by decide +kernel)
  have sc : FnScope ["section", "up", "height", "levels", "left", "right", "index", "level", "is_under", "is_next", "corner"] ["section", "up", "height"] (defScope (top 57)) := ⟨rfl, rfl, rfl, by decide +kernel, rfl, by decide +kernel, by decide +kernel⟩
  have m_len := T.fr "len" (by decide +kernel)
  have m_any := T.fr "any" (by decide +kernel)
  have m_enumerate := T.fr "enumerate" (by decide +kernel)
  refine def_of F hm sc (fun ds d h => ?_) (fun _ _ _ _ _ _ us hl => match us, hl with | [_, _, _], _ => rfl) (fun cdv A outer s H E ds d hr h => ?_)
  · obtain ⟨S, u, ra, hp, rfl, rfl⟩ := h
    rfl
  · obtain ⟨S, u, ra, hp, rfl, rfl⟩ := h
    have hr1 := hr.mono (j := 1) (by decide)
    have hr3 := hr.mono (j := 3) (by decide)
    have hr4 := hr.mono (j := 4) (by decide)
    obtain ⟨hP, h0, hl, hv⟩ := hp
    refine ⟨_, (pss_cons (ps_setLc (i := 3) (own := [("corner", 10)]) rfl sc.nd rfl rfl (sw_true rfl rfl rfl (by decide +kernel)) (pi_seq (pv 0)) (blkOk_by (own := [("corner", 10)]) (N := ["section", "up", "height", "levels", "left", "right", "index", "level", "is_under", "is_next", "corner"]) (sc := defScope (top 57)) (by decide +kernel)) (fun _ _ _ _ _ => (pg_name (i := 10) sc.nd rfl (Or.inl rfl))) (fun _ _ _ _ _ => pts_nil) (fun _ _ _ _ _ => (pe_def D_level_of hr3 (by rfl) (pa_cons (pv 1) (pa_cons (pv 10) pa_nil)))))
      (pss_cons (ps_asg (pe_tup (pa_cons pe_non (pa_cons pe_non pa_nil))) (pg_tup rfl (pgs_cons (pg_name (i := 4) sc.nd rfl (Or.inl rfl)) (pgs_cons (pg_name (i := 5) sc.nd rfl (Or.inl rfl)) pgs_nil))))
      (pss_cons (ps_for PassesOwn.never rfl (pi_enumS (by rfl) m_enumerate (pa_cons (pv 3) pa_nil)) (pg_tup rfl (pgs_cons (pg_name (i := 6) sc.nd rfl (Or.inl rfl)) (pgs_cons (pg_name (i := 7) sc.nd rfl (Or.inl rfl)) pgs_nil))) (pss_cons (ps_par (i := 8) (j := 9) rfl sc.nd rfl rfl (by decide) rfl rfl (pa_cons (pe_def D_is_lower hr1 (by rfl) (pa_cons (pv 7) (pa_cons (pv 2) pa_nil))) (pa_cons (pe_def D_is_lower hr1 (by rfl) (pa_cons (pe_ix (r := rIx K) ix_seq (pv 3) (pe_op op_mod (pe_op op_add (pv 6) pe_int) (pe_callB call_len_seq (by rfl) m_len bt_len (pa_cons (pv 0) pa_nil))) (fun _ _ => rfl)) (pa_cons (pv 2) pa_nil))) pa_nil)) rfl)
      (pss_cons (ps_if (pw_and (pt_val (pv 9)) (pw_and1 (pt_not (pt_val (pv 8))))).pt (pss_one (ps_set (i := 4) sc.nd rfl (Or.inl rfl) (pe_def D_crossing hr4 (by rfl) (pa_cons (pv 0) (pa_cons (pv 6) (pa_cons (pv 3) (pa_cons (pv 2) pa_nil))))))) pss_nil)
      (pss_one (ps_if (pw_and (pt_val (pv 8)) (pw_and1 (pt_not (pt_val (pv 9))))).pt (pss_one (ps_set (i := 5) sc.nd rfl (Or.inl rfl) (pe_def D_crossing hr4 (by rfl) (pa_cons (pv 0) (pa_cons (pv 6) (pa_cons (pv 3) (pa_cons (pv 2) pa_nil))))))) pss_nil)))))
      (pss_cons (ps_if (pw_or (pt_cmpR op_isN (pv 4) pe_non (nomark _)) (pw_or (pt_cmpR op_isN (pv 5) pe_non (nomark _)) (pw_or1 (pt_not (pt_val (pe_callB (cr_any rfl) (by rfl) m_any bt_any (pa_cons (pe_lc (own := [("level", 7)]) rfl sc.nd (pi_seq (pv 3)) (blkOk_by (own := [("level", 7)]) (N := ["section", "up", "height", "levels", "left", "right", "index", "level", "is_under", "is_next", "corner"]) (sc := defScope (top 57)) (by decide +kernel)) (fun _ _ _ _ _ => (pg_name (i := 7) sc.nd rfl (Or.inl rfl))) (fun _ _ _ _ _ => pts_nil) (fun _ _ _ _ _ => (pe_def D_is_lower hr1 (by rfl) (pa_cons (pv 2) (pa_cons (pv 7) pa_nil))))) pa_nil))))))).pt (pss_one (ps_ret pe_non)) pss_nil)
      (pss_one (ps_ret (pe_tup (pa_cons (pv 4) (pa_cons (pv 5) pa_nil))))))))), ?_⟩
    have hcn : ∀ i, Sm 900 (lev u (cn S i)) := fun i => hv.lv _ (cn_mem h0)
    have hr4 : Sm 4000 ra := hv.ra.mono (by decide)
    show SD K _ [.imm _, .imm _, .imm _, .any, .any, .any, .any, .any, .any, .any, .any] _ _ _ _
    refine sd_then (e1 := [.imm (encS S), .imm (encU u), .imm (encR ra), .imm (.list (S.map fun p => encR (lev u p))), .any, .any, .any, .any, .any, .any, .any]) (sd_set (ed_lcM (h := fun p => encR (lev u p)) (id_seqT (ed_var rfl)) (by rfl) (by omega) fun p hp => ⟨_, [10], fun j h => h, gd_name, c_level_of (ed_var rfl) (ed_var rfl) ⟨hv.u1, hv.u2, (hP p hp).mono (by decide)⟩⟩)) (
      sd_then (e1 := [.imm (encS S), .imm (encU u), .imm (encR ra), .imm (.list (S.map fun p => encR (lev u p))), .imm (encO (none)), .imm (encO (none)), .any, .any, .any, .any, .any]) (sd_asg (ed_tup (ad_cons ed_non (ad_cons ed_non ad_nil))) (gd_tup (gds_cons gd_name (gds_cons gd_name gds_nil)))) (
      sd_seq (N := fun e => ∃ k1 k2 k3 k4, e = [.imm (encS S), .imm (encU u), .imm (encR ra), .imm (.list (S.map fun p => encR (lev u p))), .imm (encO (lineL S u ra S.length)), .imm (encO (lineR S u ra S.length)), k1, k2, k3, k4, .any])
        (sd_forR (fun i e => ∃ k1 k2 k3 k4, e = [.imm (encS S), .imm (encU u), .imm (encR ra), .imm (.list (S.map fun p => encR (lev u p))), .imm (encO (lineL S u ra i)), .imm (encO (lineR S u ra i)), k1, k2, k3, k4, .any]) (id_enumV (z := (u, S)) (ed_var rfl)) ⟨.any, .any, .any, .any, rfl⟩ (fun i e' hi hI => ?_) (fun e' hI => hI)) (fun e hz => ?_)))
    · obtain ⟨k1, k2, k3, k4, rfl⟩ := hI
      have hi : i < S.length := hi
      have hcr : lev u (cn S (i + 1)) < ra ∧ ¬ lev u (cn S i) < ra ∨ lev u (cn S i) < ra ∧ ¬ lev u (cn S (i + 1)) < ra → lev u (cn S (i + 1)) ≠ lev u (cn S i) := fun h q => by
        rw [q] at h
        rcases h with h | h
        · exact h.2 h.1
        · exact h.2 h.1
      refine ⟨_, _, gd_tup (gds_cons gd_name (gds_cons gd_name gds_nil)), ?_⟩
      refine sd_then (e1 := [.imm (encS S), .imm (encU u), .imm (encR ra), .imm (.list (S.map fun p => encR (lev u p))), .imm (encO (lineL S u ra i)), .imm (encO (lineR S u ra i)), .imm (encN i), .imm (encR (lev u (cn S i))), .imm (.bool (decide (lev u (cn S i) < ra))), .imm (.bool (decide (lev u (cn S (i + 1)) < ra))), .any]) (sd_par (ad_cons (c_is_lower (ed_var rfl) (ed_var rfl) ⟨(hcn i).mono (by decide), hr4⟩) (ad_cons (c_is_lower (ed_ixL (ed_var rfl) (ed_mod (ed_add (ed_var rfl) ed_int) (ed_lenT (ed_var rfl)) (by rw [List.length_map]; omega)) (lv_next (z := (u, S)) (by rw [List.length_map]) (by rw [List.length_map]; exact h0))) (ed_var rfl) ⟨(hcn _).mono (by decide), hr4⟩) ad_nil))) (
        sd_seq (N := fun e => e = [.imm (encS S), .imm (encU u), .imm (encR ra), .imm (.list (S.map fun p => encR (lev u p))), .imm (encO (lineL S u ra (i + 1))), .imm (encO (lineR S u ra i)), .imm (encN i), .imm (encR (lev u (cn S i))), .imm (.bool (decide (lev u (cn S i) < ra))), .imm (.bool (decide (lev u (cn S (i + 1)) < ra))), .any])
          (sd_if (td_and (td_B (ed_var rfl)) fun h => td_not (td_B (ed_var rfl))) (fun h => ?_) (fun h => sd_next ?_)) (fun e hz => ?_))
      · have h := Bool.and_eq_true_iff.mp h
        have hc : lev u (cn S (i + 1)) < ra ∧ ¬ lev u (cn S i) < ra := ⟨of_decide_eq_true h.1, by simpa using h.2⟩
        refine sd_imp (sd_set (c_crossing (S := S) (i := i) (z := (u, S)) (ra := ra) (ed_var rfl) (ed_var rfl) (ed_var rfl) (ed_var rfl) ⟨rfl, h0, hi, hr4, hv.ra, hcn i, hcn _, hcr (.inl hc)⟩)) fun e' he => ?_
        rw [he, lineL_succ, if_pos hc]
        rfl
      · rw [lineL_succ, if_neg]
        intro hc
        rw [decide_eq_true hc.1, decide_eq_false hc.2] at h
        exact absurd h (by decide)
      · subst hz
        refine sd_if (td_and (td_B (ed_var rfl)) fun h => td_not (td_B (ed_var rfl))) (fun h => ?_) (fun h => sd_next ?_)
        · have h := Bool.and_eq_true_iff.mp h
          have hc : lev u (cn S i) < ra ∧ ¬ lev u (cn S (i + 1)) < ra := ⟨of_decide_eq_true h.1, by simpa using h.2⟩
          refine sd_imp (sd_set (c_crossing (S := S) (i := i) (z := (u, S)) (ra := ra) (ed_var rfl) (ed_var rfl) (ed_var rfl) (ed_var rfl) ⟨rfl, h0, hi, hr4, hv.ra, hcn i, hcn _, hcr (.inr hc)⟩)) fun e' he => ?_
          rw [he, lineR_succ, if_pos hc]
          exact ⟨_, _, _, _, rfl⟩
        · have hc : ¬ (lev u (cn S i) < ra ∧ ¬ lev u (cn S (i + 1)) < ra) := fun hc => by
            rw [decide_eq_true hc.1, decide_eq_false hc.2] at h
            exact absurd h (by decide)
          rw [lineR_succ, if_neg hc]
          exact ⟨_, _, _, _, rfl⟩
    · obtain ⟨k1, k2, k3, k4, rfl⟩ := hz
      refine sd_wk (e1 := [.imm (encS S), .imm (encU u), .imm (encR ra), .imm (.list (S.map fun p => encR (lev u p))), .imm (encO (lineL S u ra S.length)), .imm (encO (lineR S u ra S.length)), .any, .any, .any, .any, .any]) ?_ ⟨.inr rfl, .inr rfl, .inr rfl, .inr rfl, .inr rfl, .inr rfl, .inl rfl, .inl rfl, .inl rfl, .inl rfl, .inl rfl, trivial⟩
      refine sd_leave (b := (lineL S u ra S.length).isNone || ((lineR S u ra S.length).isNone || !(S.any fun p => decide (ra < lev u p)))) (td_or (td_is (td_test (ed_isN (ed_var rfl))) (isN_O _)) fun h => td_or (td_is (td_test (ed_isN (ed_var rfl))) (isN_O _)) fun h => td_not (td_B (ed_is (ed_any (bs := S.map fun p => decide (ra < lev u p)) (ed_is (ed_lcM (h := fun p => PyData.bool (decide (ra < lev u p))) (id_seqL (ed_var rfl)) (by rfl) (by omega) fun p hp => ⟨_, [7], fun j h => h, gd_name, c_is_lower (ed_var rfl) (ed_var rfl) ⟨hr4, (hv.lv p hp).mono (by decide)⟩⟩) (by rw [List.map_map]; rfl))) (by rw [List.any_map]; rfl)))) (fun h => sd_retD (ed_is ed_non ?_)) (fun h => sd_retD (ed_is (ed_tup (ad_cons (ed_var rfl) (ad_cons (ed_var rfl) ad_nil))) ?_))
      · unfold lineOf
        cases q1 : lineL S u ra S.length with
        | none => rfl
        | some l =>
          cases q2 : lineR S u ra S.length with
          | none => rfl
          | some r =>
            rw [q1, q2] at h
            have h3 : (S.any fun p => decide (ra < lev u p)) = false := by simpa using h
            simp only [h3]
            rfl
      · unfold lineOf
        cases q1 : lineL S u ra S.length with
        | none => rw [q1] at h; exact absurd h (by simp)
        | some l =>
          cases q2 : lineR S u ra S.length with
          | none => rw [q1, q2] at h; exact absurd h (by simp)
          | some r =>
            rw [q1, q2] at h
            have h3 : (S.any fun p => decide (ra < lev u p)) = true := by simpa using h
            simp only [h3]
            rfl
/-- a stand whose numbers are small -/
structure StOk (S : List P2) (z : Stand) : Prop where
  i1 : z.1.1 < S.length
  i2 : z.2.1 < S.length
  s1 : Sm 900 z.1.2
  s2 : Sm 900 z.2.2
  ps : Ps 900 (below S z)
  gr : grid (below S z) < 2 ^ 3000
def areaUp (S : List P2) (u : Int × Int) (h : Rat) : Rat := match lineOf S u h with
  | some z => stArea S z
  | none => if (S.any fun p => decide (lev u p < h)) = true then area S else 0
theorem sq_S (S : List P2) : sq false (S.map encP) = encS S := rfl
def R_area_up_to (ds : List PyData) (d : PyData) : Prop := ∃ (S : List P2) (u : Int × Int) (ra : Rat), (Plate S ∧ LvOk S u ra ∧ ∀ z, lineOf S u ra = some z → StOk S z) ∧ ds = [encS S, .tuple [.int u.1, .int u.2], encR ra] ∧ d = encR (areaUp S u ra)
theorem c_area_up_to {t0 t1 t2 : TE} {e0 e1 e2 e3 : List EK} {S : List P2} {u : Int × Int} {ra : Rat} (a0 : ED K t0 e0 (encS S) e1) (a1 : ED K t1 e1 (.tuple [.int u.1, .int u.2]) e2) (a2 : ED K t2 e2 (encR ra) e3) (hp : Plate S ∧ LvOk S u ra ∧ ∀ z, lineOf S u ra = some z → StOk S z) : ED K (tCall (spP K R_area_up_to) [] E0 (tCons t0 (tCons t1 (tCons t2 tNil)))) e0 (encR (areaUp S u ra)) e3 := ed_call (ad_cons a0 (ad_cons a1 (ad_cons a2 ad_nil))) ⟨S, u, ra, hp, rfl, rfl⟩
abbrev DD_area_up_to (P : Program) (w : World) (K : Frag) (mg : Str → Option Value) (base : Heap) : Prop := Def P w K mg base 9 "area_up_to" ["section", "up", "height"] (spP K R_area_up_to)
theorem ok_area_up_to (T : Top K mg) (D_is_lower : DD_is_lower P w K mg base) (D_level_of : DD_level_of P w K mg base) (D_plate_area : DD_plate_area P w K mg base) (D_stand_area : DD_stand_area P w K mg base) (D_line_of : DD_line_of P w K mg base) : DD_area_up_to P w K mg base := by
  obtain ⟨f, fd, F, hm⟩ := T.df "area_up_to" 58 (by decide +kernel)
  have sc : FnScope ["section", "up", "height", "stand", "corner"] ["section", "up", "height"] (defScope (top 58)) := ⟨rfl, rfl, rfl, by decide +kernel, rfl, by decide +kernel, by decide +kernel⟩
  have m_any := T.fr "any" (by decide +kernel)
  obtain ⟨aZERO, mZERO, zZERO⟩ := T.zero
  have rZERO : RelV (.ref aZERO) (.ref aZERO) := rfl
  refine def_of F hm sc (fun ds d h => ?_) (fun _ _ _ _ _ _ us hl => match us, hl with | [_, _, _], _ => rfl) (fun cdv A outer s H E ds d hr h => ?_)
  · obtain ⟨S, u, ra, hp, rfl, rfl⟩ := h
    rfl
  · obtain ⟨S, u, ra, hp, rfl, rfl⟩ := h
    have hr1 := hr.mono (j := 1) (by decide)
    have hr3 := hr.mono (j := 3) (by decide)
    have hr4 := hr.mono (j := 4) (by decide)
    have hr5 := hr.mono (j := 5) (by decide)
    have hr8 := hr.mono (j := 8) (by decide)
    obtain ⟨hpl, hv, hst⟩ := hp
    have h0 : 0 < S.length := by have := hpl.lo; omega
    have h8 := hpl.hi
    refine ⟨_, (pss_cons (ps_set (i := 3) sc.nd rfl (Or.inl rfl) (pe_def D_line_of hr5 (by rfl) (pa_cons (pv 0) (pa_cons (pv 1) (pa_cons (pv 2) pa_nil)))))
      (pss_cons (ps_if (pt_cmpR op_notN (pv 3) pe_non (nomark _)) (pss_one (ps_ret (pe_def D_stand_area hr8 (by rfl) (pa_cons (pv 0) (pa_cons (pv 3) pa_nil))))) pss_nil)
      (pss_one (ps_ret (pe_ifExp (pt_val (pe_callB (cr_any rfl) (by rfl) m_any bt_any (pa_cons (pe_lc (own := [("corner", 4)]) rfl sc.nd (pi_seq (pv 0)) (blkOk_by (own := [("corner", 4)]) (N := ["section", "up", "height", "stand", "corner"]) (sc := defScope (top 58)) (by decide +kernel)) (fun _ _ _ _ _ => (pg_name (i := 4) sc.nd rfl (Or.inl rfl))) (fun _ _ _ _ _ => pts_nil) (fun _ _ _ _ _ => (pe_def D_is_lower hr1 (by rfl) (pa_cons (pe_def D_level_of hr3 (by rfl) (pa_cons (pv 1) (pa_cons (pv 4) pa_nil))) (pa_cons (pv 2) pa_nil))))) pa_nil))) (pe_def D_plate_area hr4 (by rfl) (pa_cons (pv 0) pa_nil)) (pe_glob (by rfl) mZERO rZERO)))))), ?_⟩
    show SD K _ [.imm _, .imm _, .imm _, .any, .any] _ _ _ _
    refine sd_then (e1 := [.imm (encS S), .imm (encU u), .imm (encR ra), .imm (encOS (lineOf S u ra)), .any]) (sd_set (c_line_of (ed_var rfl) (ed_var rfl) (ed_var rfl) ⟨hpl.ps, h0, by omega, hv⟩)) ?_
    unfold areaUp
    cases q : lineOf S u ra with
    | some z =>
      refine sd_leave (td_test (ed_isNN (ed_var rfl))) (fun h => ?_) (fun h => nomatch h)
      have hz := hst z q
      exact sd_retD (c_stand_area (S := S) (z := z) (ed_var rfl) (ed_var rfl) ⟨⟨hpl.ps, h0, by omega⟩, hz.i1, hz.i2, hz.s1, hz.s2, hz.ps, by omega, hz.gr⟩)
    | none =>
      refine sd_leave (td_test (ed_isNN (ed_var rfl))) (fun h => nomatch h) (fun h => ?_)
      refine sd_retD (ed_if (b := S.any fun p => decide (lev u p < ra)) (td_B (ed_is (ed_any (bs := S.map fun p => decide (lev u p < ra)) (ed_is (ed_lcM (h := fun p => PyData.bool (decide (lev u p < ra))) (id_seqT (ed_var rfl)) (by rfl) (by omega) fun p hp => ⟨_, [4], fun j h => h, gd_name, c_is_lower (c_level_of (ed_var rfl) (ed_var rfl) ⟨hv.u1, hv.u2, (hpl.ps p hp).mono (by decide)⟩) (ed_var rfl) ⟨(hv.lv p hp).mono (by decide), hv.ra.mono (by decide)⟩⟩) (by rw [List.map_map]; rfl))) (by rw [List.any_map]; rfl))) (fun h => ed_is (c_plate_area (z := (false, S)) (ed_var rfl) ⟨hpl.ps, by show S.length < 64; omega, hpl.gr⟩) ?_) (fun h => ed_is (ed_ZERO zZERO) ?_))
      · rw [h]; rfl
      · rw [h]; rfl
def R_check_point (ds : List PyData) (d : PyData) : Prop := ∃ (p : P2), (True) ∧ ds = [encP p] ∧ d = .none
theorem c_check_point {t0 : TE} {e0 e1 : List EK} {p : P2} (a0 : ED K t0 e0 (encP p) e1) (hp : True) : ED K (tCall (spP K R_check_point) [] E0 (tCons t0 tNil)) e0 (.none) e1 := ed_call (ad_cons a0 ad_nil) ⟨p, hp, rfl, rfl⟩
abbrev DD_check_point (P : Program) (w : World) (K : Frag) (mg : Str → Option Value) (base : Heap) : Prop := Def P w K mg base 4 "check_point" ["value"] (spP K R_check_point)
theorem ok_check_point (T : Top K mg) (D_is_vector : DD_is_vector P w K mg base) : DD_check_point P w K mg base := by
  obtain ⟨f, fd, F, hm⟩ := T.df "check_point" 68 (by decide +kernel)
  have sc : FnScope ["value"] ["value"] (defScope (top 68)) := ⟨rfl, rfl, rfl, by decide +kernel, rfl, by decide +kernel, by decide +kernel⟩
  refine def_of F hm sc (fun ds d h => ?_) (fun _ _ _ _ _ _ us hl => match us, hl with | [_], _ => rfl) (fun cdv A outer s H E ds d hr h => ?_)
  · obtain ⟨p, hp, rfl, rfl⟩ := h
    rfl
  · obtain ⟨p, hp, rfl, rfl⟩ := h
    have hr3 := hr.mono (j := 3) (by decide)
    refine ⟨_, (pss_one (ps_if (pt_not (pt_val (pe_def D_is_vector hr3 (by rfl) (pa_cons (pv 0) pa_nil)))) (pss_one ps_never) pss_nil)), ?_⟩
    show SD K _ [.imm _] _ _ _ _
    refine sd_skipN (td_is (td_not (td_B (c_is_vector (ed_var rfl) ?r1))) ?f2) ?n3
    case r1 => trivial
    case f2 => rfl
    case n3 => rfl
def R_check_fraction (ds : List PyData) (d : PyData) : Prop := ∃ (ra : Rat), (True) ∧ ds = [encR ra] ∧ d = .none
theorem c_check_fraction {t0 : TE} {e0 e1 : List EK} {ra : Rat} (a0 : ED K t0 e0 (encR ra) e1) (hp : True) : ED K (tCall (spP K R_check_fraction) [] E0 (tCons t0 tNil)) e0 (.none) e1 := ed_call (ad_cons a0 ad_nil) ⟨ra, hp, rfl, rfl⟩
abbrev DD_check_fraction (P : Program) (w : World) (K : Frag) (mg : Str → Option Value) (base : Heap) : Prop := Def P w K mg base 4 "check_fraction" ["value"] (spP K R_check_fraction)
theorem ok_check_fraction (T : Top K mg) (D_is_ratio : DD_is_ratio P w K mg base) : DD_check_fraction P w K mg base := by
  obtain ⟨f, fd, F, hm⟩ := T.df "check_fraction" 69 (by decide +kernel)
  have sc : FnScope ["value"] ["value"] (defScope (top 69)) := ⟨rfl, rfl, rfl, by decide +kernel, rfl, by decide +kernel, by decide +kernel⟩
  refine def_of F hm sc (fun ds d h => ?_) (fun _ _ _ _ _ _ us hl => match us, hl with | [_], _ => rfl) (fun cdv A outer s H E ds d hr h => ?_)
  · obtain ⟨ra, hp, rfl, rfl⟩ := h
    rfl
  · obtain ⟨ra, hp, rfl, rfl⟩ := h
    have hr3 := hr.mono (j := 3) (by decide)
    refine ⟨_, (pss_one (ps_if (pt_not (pt_val (pe_def D_is_ratio hr3 (by rfl) (pa_cons (pv 0) pa_nil)))) (pss_one ps_never) pss_nil)), ?_⟩
    show SD K _ [.imm _] _ _ _ _
    refine sd_skipN (td_is (td_not (td_B (c_is_ratio (ed_var rfl) ?r1))) ?f2) ?n3
    case r1 => trivial
    case f2 => rfl
    case n3 => rfl
def R_check_up (ds : List PyData) (d : PyData) : Prop := ∃ (u : Int × Int), (gcdN [u.1, u.2] = 1) ∧ ds = [.tuple [.int u.1, .int u.2]] ∧ d = .none
theorem c_check_up {t0 : TE} {e0 e1 : List EK} {u : Int × Int} (a0 : ED K t0 e0 (.tuple [.int u.1, .int u.2]) e1) (hp : gcdN [u.1, u.2] = 1) : ED K (tCall (spP K R_check_up) [] E0 (tCons t0 tNil)) e0 (.none) e1 := ed_call (ad_cons a0 ad_nil) ⟨u, hp, rfl, rfl⟩
abbrev DD_check_up (P : Program) (w : World) (K : Frag) (mg : Str → Option Value) (base : Heap) : Prop := Def P w K mg base 4 "check_up" ["value"] (spP K R_check_up)
theorem ok_check_up (T : Top K mg) (D_is_pointing : DD_is_pointing P w K mg base) : DD_check_up P w K mg base := by
  obtain ⟨f, fd, F, hm⟩ := T.df "check_up" 70 (by decide +kernel)
  have sc : FnScope ["value"] ["value"] (defScope (top 70)) := ⟨rfl, rfl, rfl, by decide +kernel, rfl, by decide +kernel, by decide +kernel⟩
  refine def_of F hm sc (fun ds d h => ?_) (fun _ _ _ _ _ _ us hl => match us, hl with | [_], _ => rfl) (fun cdv A outer s H E ds d hr h => ?_)
  · obtain ⟨u, hp, rfl, rfl⟩ := h
    rfl
  · obtain ⟨u, hp, rfl, rfl⟩ := h
    have hr3 := hr.mono (j := 3) (by decide)
    refine ⟨_, (pss_one (ps_if (pt_not (pt_val (pe_def D_is_pointing hr3 (by rfl) (pa_cons (pv 0) pa_nil)))) (pss_one ps_never) pss_nil)), ?_⟩
    show SD K _ [.imm _] _ _ _ _
    refine sd_skipN (td_is (td_not (td_B (c_is_pointing (ed_var rfl) ?r1))) ?f2) ?n3
    case r1 => exact hp
    case f2 => rfl
    case n3 => rfl
def R_check_section (ds : List PyData) (d : PyData) : Prop := ∃ (S : List P2), (Plate S) ∧ ds = [encS S] ∧ d = .none
theorem c_check_section {t0 : TE} {e0 e1 : List EK} {S : List P2} (a0 : ED K t0 e0 (encS S) e1) (hp : Plate S) : ED K (tCall (spP K R_check_section) [] E0 (tCons t0 tNil)) e0 (.none) e1 := ed_call (ad_cons a0 ad_nil) ⟨S, hp, rfl, rfl⟩
abbrev DD_check_section (P : Program) (w : World) (K : Frag) (mg : Str → Option Value) (base : Heap) : Prop := Def P w K mg base 7 "check_section" ["value"] (spP K R_check_section)
theorem ok_check_section (T : Top K mg) (D_is_plate : DD_is_plate P w K mg base) : DD_check_section P w K mg base := by
  obtain ⟨f, fd, F, hm⟩ := T.df "check_section" 71 (by decide +kernel)
  have sc : FnScope ["value"] ["value"] (defScope (top 71)) := ⟨rfl, rfl, rfl, by decide +kernel, rfl, by decide +kernel, by decide +kernel⟩
  refine def_of F hm sc (fun ds d h => ?_) (fun _ _ _ _ _ _ us hl => match us, hl with | [_], _ => rfl) (fun cdv A outer s H E ds d hr h => ?_)
  · obtain ⟨S, hp, rfl, rfl⟩ := h
    rfl
  · obtain ⟨S, hp, rfl, rfl⟩ := h
    have hr6 := hr.mono (j := 6) (by decide)
    refine ⟨_, (pss_one (ps_if (pt_not (pt_val (pe_def D_is_plate hr6 (by rfl) (pa_cons (pv 0) pa_nil)))) (pss_one ps_never) pss_nil)), ?_⟩
    show SD K _ [.imm _] _ _ _ _
    refine sd_skipN (td_is (td_not (td_B (c_is_plate (ed_var rfl) ?r1))) ?f2) ?n3
    case r1 => exact hp
    case f2 => rfl
    case n3 => rfl
def R_check_stand (ds : List PyData) (d : PyData) : Prop := ∃ (S : List P2) (z : Rim × Rim), (S.length ≤ 100 ∧ z.1.1 < S.length ∧ 0 ≤ z.1.2 ∧ z.1.2 < 1 ∧ z.2.1 < S.length ∧ 0 ≤ z.2.2 ∧ z.2.2 < 1 ∧ ∀ k ∈ edgesAt S.length z.1, k ∉ edgesAt S.length z.2) ∧ ds = [encS S, encSt z] ∧ d = .none
theorem c_check_stand {t0 t1 : TE} {e0 e1 e2 : List EK} {S : List P2} {z : Rim × Rim} (a0 : ED K t0 e0 (encS S) e1) (a1 : ED K t1 e1 (encSt z) e2) (hp : S.length ≤ 100 ∧ z.1.1 < S.length ∧ 0 ≤ z.1.2 ∧ z.1.2 < 1 ∧ z.2.1 < S.length ∧ 0 ≤ z.2.2 ∧ z.2.2 < 1 ∧ ∀ k ∈ edgesAt S.length z.1, k ∉ edgesAt S.length z.2) : ED K (tCall (spP K R_check_stand) [] E0 (tCons t0 (tCons t1 tNil))) e0 (.none) e2 := ed_call (ad_cons a0 (ad_cons a1 ad_nil)) ⟨S, z, hp, rfl, rfl⟩
abbrev DD_check_stand (P : Program) (w : World) (K : Frag) (mg : Str → Option Value) (base : Heap) : Prop := Def P w K mg base 7 "check_stand" ["section", "value"] (spP K R_check_stand)
theorem ok_check_stand (T : Top K mg) (D_is_line : DD_is_line P w K mg base) : DD_check_stand P w K mg base := by
  obtain ⟨f, fd, F, hm⟩ := T.df "check_stand" 72 (by decide +kernel)
  have sc : FnScope ["section", "value"] ["section", "value"] (defScope (top 72)) := ⟨rfl, rfl, rfl, by decide +kernel, rfl, by decide +kernel, by decide +kernel⟩
  refine def_of F hm sc (fun ds d h => ?_) (fun _ _ _ _ _ _ us hl => match us, hl with | [_, _], _ => rfl) (fun cdv A outer s H E ds d hr h => ?_)
  · obtain ⟨S, z, hp, rfl, rfl⟩ := h
    rfl
  · obtain ⟨S, z, hp, rfl, rfl⟩ := h
    have hr6 := hr.mono (j := 6) (by decide)
    refine ⟨_, (pss_one (ps_if (pt_not (pt_val (pe_def D_is_line hr6 (by rfl) (pa_cons (pv 0) (pa_cons (pv 1) pa_nil))))) (pss_one ps_never) pss_nil)), ?_⟩
    show SD K _ [.imm _, .imm _] _ _ _ _
    refine sd_skipN (td_is (td_not (td_B (c_is_line (ed_var rfl) (ed_var rfl) ?r1))) ?f2) ?n3
    case r1 => exact hp
    case f2 => rfl
    case n3 => rfl
theorem Plate.sz {S : List P2} (h : Plate S) : Sz S := ⟨h.ps, by have := h.lo; omega, by have := h.hi; omega⟩
def R_check_inner (ds : List PyData) (d : PyData) : Prop := ∃ (S : List P2) (p : P2), (Plate S ∧ Pm 900 p ∧ ∀ i, i < S.length → 0 < tri (cn S i) (cn S (i + 1)) p) ∧ ds = [encS S, encP p] ∧ d = .none
theorem c_check_inner {t0 t1 : TE} {e0 e1 e2 : List EK} {S : List P2} {p : P2} (a0 : ED K t0 e0 (encS S) e1) (a1 : ED K t1 e1 (encP p) e2) (hp : Plate S ∧ Pm 900 p ∧ ∀ i, i < S.length → 0 < tri (cn S i) (cn S (i + 1)) p) : ED K (tCall (spP K R_check_inner) [] E0 (tCons t0 (tCons t1 tNil))) e0 (.none) e2 := ed_call (ad_cons a0 (ad_cons a1 ad_nil)) ⟨S, p, hp, rfl, rfl⟩
abbrev DD_check_inner (P : Program) (w : World) (K : Frag) (mg : Str → Option Value) (base : Heap) : Prop := Def P w K mg base 8 "check_inner" ["section", "point"] (spP K R_check_inner)
theorem ok_check_inner (T : Top K mg) (D_has_inside : DD_has_inside P w K mg base) (D_check_point : DD_check_point P w K mg base) (D_check_section : DD_check_section P w K mg base) : DD_check_inner P w K mg base := by
  obtain ⟨f, fd, F, hm⟩ := T.df "check_inner" 81 (by decide +kernel)
  have sc : FnScope ["section", "point"] ["section", "point"] (defScope (top 81)) := ⟨rfl, rfl, rfl, by decide +kernel, rfl, by decide +kernel, by decide +kernel⟩
  refine def_of F hm sc (fun ds d h => ?_) (fun _ _ _ _ _ _ us hl => match us, hl with | [_, _], _ => rfl) (fun cdv A outer s H E ds d hr h => ?_)
  · obtain ⟨S, p, hp, rfl, rfl⟩ := h
    rfl
  · obtain ⟨S, p, hp, rfl, rfl⟩ := h
    have hr3 := hr.mono (j := 3) (by decide)
    have hr4 := hr.mono (j := 4) (by decide)
    have hr7 := hr.mono (j := 7) (by decide)
    refine ⟨_, (pss_cons (ps_expr (pe_def D_check_section hr7 (by rfl) (pa_cons (pv 0) pa_nil)))
      (pss_cons (ps_expr (pe_def D_check_point hr4 (by rfl) (pa_cons (pv 1) pa_nil)))
      (pss_one (ps_if (pt_not (pt_val (pe_def D_has_inside hr3 (by rfl) (pa_cons (pv 0) (pa_cons (pv 1) pa_nil))))) (pss_one ps_never) pss_nil)))), ?_⟩
    show SD K _ [.imm _, .imm _] _ _ _ _
    refine sd_then (sd_drop (c_check_section (ed_var rfl) ?r1)) (
    sd_then (sd_drop (c_check_point (ed_var rfl) ?r2)) (
    sd_skipN (td_is (td_not (td_B (c_has_inside (ed_var rfl) (ed_var rfl) ?r3))) ?f4) ?n5))
    case r1 => exact hp.1
    case r2 => trivial
    case r3 => exact ⟨hp.1.sz, hp.2.1, hp.2.2⟩
    case f4 => rfl
    case n5 => rfl
def R_height_of (ds : List PyData) (d : PyData) : Prop := ∃ (u : Int × Int) (p : P2), (B 100 u.1 ∧ B 100 u.2 ∧ gcdN [u.1, u.2] = 1 ∧ Pm 900 p) ∧ ds = [.tuple [.int u.1, .int u.2], encP p] ∧ d = encR (lev u p)
theorem c_height_of {t0 t1 : TE} {e0 e1 e2 : List EK} {u : Int × Int} {p : P2} (a0 : ED K t0 e0 (.tuple [.int u.1, .int u.2]) e1) (a1 : ED K t1 e1 (encP p) e2) (hp : B 100 u.1 ∧ B 100 u.2 ∧ gcdN [u.1, u.2] = 1 ∧ Pm 900 p) : ED K (tCall (spP K R_height_of) [] E0 (tCons t0 (tCons t1 tNil))) e0 (encR (lev u p)) e2 := ed_call (ad_cons a0 (ad_cons a1 ad_nil)) ⟨u, p, hp, rfl, rfl⟩
abbrev DD_height_of (P : Program) (w : World) (K : Frag) (mg : Str → Option Value) (base : Heap) : Prop := Def P w K mg base 5 "height_of" ["up", "point"] (spP K R_height_of)
theorem ok_height_of (T : Top K mg) (D_level_of : DD_level_of P w K mg base) (D_check_point : DD_check_point P w K mg base) (D_check_up : DD_check_up P w K mg base) : DD_height_of P w K mg base := by
  obtain ⟨f, fd, F, hm⟩ := T.df "height_of" 85 (by decide +kernel)
  have sc : FnScope ["up", "point"] ["up", "point"] (defScope (top 85)) := ⟨rfl, rfl, rfl, by decide +kernel, rfl, by decide +kernel, by decide +kernel⟩
  refine def_of F hm sc (fun ds d h => ?_) (fun _ _ _ _ _ _ us hl => match us, hl with | [_, _], _ => rfl) (fun cdv A outer s H E ds d hr h => ?_)
  · obtain ⟨u, p, hp, rfl, rfl⟩ := h
    rfl
  · obtain ⟨u, p, hp, rfl, rfl⟩ := h
    have hr3 := hr.mono (j := 3) (by decide)
    have hr4 := hr.mono (j := 4) (by decide)
    refine ⟨_, (pss_cons (ps_expr (pe_def D_check_up hr4 (by rfl) (pa_cons (pv 0) pa_nil)))
      (pss_cons (ps_expr (pe_def D_check_point hr4 (by rfl) (pa_cons (pv 1) pa_nil)))
      (pss_one (ps_ret (pe_def D_level_of hr3 (by rfl) (pa_cons (pv 0) (pa_cons (pv 1) pa_nil))))))), ?_⟩
    show SD K _ [.imm _, .imm _] _ _ _ _
    refine sd_then (sd_drop (c_check_up (ed_var rfl) ?r1)) (
    sd_then (sd_drop (c_check_point (ed_var rfl) ?r2)) (
    sd_retD (ed_is (c_level_of (ed_var rfl) (ed_var rfl) ?r3) ?q4)))
    case r1 => exact hp.2.2.1
    case r2 => trivial
    case r3 => exact ⟨hp.1, hp.2.1, hp.2.2.2.mono (by decide)⟩
    case q4 => rfl
def R_area_below (ds : List PyData) (d : PyData) : Prop := ∃ (S : List P2) (u : Int × Int) (ra : Rat), (Plate S ∧ gcdN [u.1, u.2] = 1 ∧ LvOk S u ra ∧ ∀ z, lineOf S u ra = some z → StOk S z) ∧ ds = [encS S, .tuple [.int u.1, .int u.2], encR ra] ∧ d = encR (areaUp S u ra)
theorem c_area_below {t0 t1 t2 : TE} {e0 e1 e2 e3 : List EK} {S : List P2} {u : Int × Int} {ra : Rat} (a0 : ED K t0 e0 (encS S) e1) (a1 : ED K t1 e1 (.tuple [.int u.1, .int u.2]) e2) (a2 : ED K t2 e2 (encR ra) e3) (hp : Plate S ∧ gcdN [u.1, u.2] = 1 ∧ LvOk S u ra ∧ ∀ z, lineOf S u ra = some z → StOk S z) : ED K (tCall (spP K R_area_below) [] E0 (tCons t0 (tCons t1 (tCons t2 tNil)))) e0 (encR (areaUp S u ra)) e3 := ed_call (ad_cons a0 (ad_cons a1 (ad_cons a2 ad_nil))) ⟨S, u, ra, hp, rfl, rfl⟩
abbrev DD_area_below (P : Program) (w : World) (K : Frag) (mg : Str → Option Value) (base : Heap) : Prop := Def P w K mg base 10 "area_below" ["section", "up", "height"] (spP K R_area_below)
theorem ok_area_below (T : Top K mg) (D_area_up_to : DD_area_up_to P w K mg base) (D_check_fraction : DD_check_fraction P w K mg base) (D_check_up : DD_check_up P w K mg base) (D_check_section : DD_check_section P w K mg base) : DD_area_below P w K mg base := by
  obtain ⟨f, fd, F, hm⟩ := T.df "area_below" 86 (by decide +kernel)
  have sc : FnScope ["section", "up", "height"] ["section", "up", "height"] (defScope (top 86)) := ⟨rfl, rfl, rfl, by decide +kernel, rfl, by decide +kernel, by decide +kernel⟩
  refine def_of F hm sc (fun ds d h => ?_) (fun _ _ _ _ _ _ us hl => match us, hl with | [_, _, _], _ => rfl) (fun cdv A outer s H E ds d hr h => ?_)
  · obtain ⟨S, u, ra, hp, rfl, rfl⟩ := h
    rfl
  · obtain ⟨S, u, ra, hp, rfl, rfl⟩ := h
    have hr4 := hr.mono (j := 4) (by decide)
    have hr7 := hr.mono (j := 7) (by decide)
    have hr9 := hr.mono (j := 9) (by decide)
    refine ⟨_, (pss_cons (ps_expr (pe_def D_check_section hr7 (by rfl) (pa_cons (pv 0) pa_nil)))
      (pss_cons (ps_expr (pe_def D_check_up hr4 (by rfl) (pa_cons (pv 1) pa_nil)))
      (pss_cons (ps_expr (pe_def D_check_fraction hr4 (by rfl) (pa_cons (pv 2) pa_nil)))
      (pss_one (ps_ret (pe_def D_area_up_to hr9 (by rfl) (pa_cons (pv 0) (pa_cons (pv 1) (pa_cons (pv 2) pa_nil))))))))), ?_⟩
    show SD K _ [.imm _, .imm _, .imm _] _ _ _ _
    refine sd_then (sd_drop (c_check_section (ed_var rfl) ?r1)) (
    sd_then (sd_drop (c_check_up (ed_var rfl) ?r2)) (
    sd_then (sd_drop (c_check_fraction (ed_var rfl) ?r3)) (
    sd_retD (ed_is (c_area_up_to (ed_var rfl) (ed_var rfl) (ed_var rfl) ?r4) ?q5))))
    case r1 => exact hp.1
    case r2 => exact hp.2.1
    case r3 => trivial
    case r4 => exact ⟨hp.1, hp.2.2.1, hp.2.2.2⟩
    case q5 => rfl
def R_area_of_stand (ds : List PyData) (d : PyData) : Prop := ∃ (S : List P2) (z : Rim × Rim), (Plate S ∧ StOk S z ∧ 0 ≤ z.1.2 ∧ z.1.2 < 1 ∧ 0 ≤ z.2.2 ∧ z.2.2 < 1 ∧ ∀ k ∈ edgesAt S.length z.1, k ∉ edgesAt S.length z.2) ∧ ds = [encS S, encSt z] ∧ d = encR (stArea S z)
theorem c_area_of_stand {t0 t1 : TE} {e0 e1 e2 : List EK} {S : List P2} {z : Rim × Rim} (a0 : ED K t0 e0 (encS S) e1) (a1 : ED K t1 e1 (encSt z) e2) (hp : Plate S ∧ StOk S z ∧ 0 ≤ z.1.2 ∧ z.1.2 < 1 ∧ 0 ≤ z.2.2 ∧ z.2.2 < 1 ∧ ∀ k ∈ edgesAt S.length z.1, k ∉ edgesAt S.length z.2) : ED K (tCall (spP K R_area_of_stand) [] E0 (tCons t0 (tCons t1 tNil))) e0 (encR (stArea S z)) e2 := ed_call (ad_cons a0 (ad_cons a1 ad_nil)) ⟨S, z, hp, rfl, rfl⟩
abbrev DD_area_of_stand (P : Program) (w : World) (K : Frag) (mg : Str → Option Value) (base : Heap) : Prop := Def P w K mg base 9 "area_of_stand" ["section", "stand"] (spP K R_area_of_stand)
theorem ok_area_of_stand (T : Top K mg) (D_stand_area : DD_stand_area P w K mg base) (D_check_section : DD_check_section P w K mg base) (D_check_stand : DD_check_stand P w K mg base) : DD_area_of_stand P w K mg base := by
  obtain ⟨f, fd, F, hm⟩ := T.df "area_of_stand" 87 (by decide +kernel)
  have sc : FnScope ["section", "stand"] ["section", "stand"] (defScope (top 87)) := ⟨rfl, rfl, rfl, by decide +kernel, rfl, by decide +kernel, by decide +kernel⟩
  refine def_of F hm sc (fun ds d h => ?_) (fun _ _ _ _ _ _ us hl => match us, hl with | [_, _], _ => rfl) (fun cdv A outer s H E ds d hr h => ?_)
  · obtain ⟨S, z, hp, rfl, rfl⟩ := h
    rfl
  · obtain ⟨S, z, hp, rfl, rfl⟩ := h
    have hr7 := hr.mono (j := 7) (by decide)
    have hr8 := hr.mono (j := 8) (by decide)
    obtain ⟨hpl, hz, h1, h2, h3, h4, hno⟩ := hp
    have h8 := hpl.hi
    refine ⟨_, (pss_cons (ps_expr (pe_def D_check_section hr7 (by rfl) (pa_cons (pv 0) pa_nil)))
      (pss_cons (ps_expr (pe_def D_check_stand hr7 (by rfl) (pa_cons (pv 0) (pa_cons (pv 1) pa_nil))))
      (pss_one (ps_ret (pe_def D_stand_area hr8 (by rfl) (pa_cons (pv 0) (pa_cons (pv 1) pa_nil))))))), ?_⟩
    show SD K _ [.imm _, .imm _] _ _ _ _
    refine sd_then (sd_drop (c_check_section (ed_var rfl) ?r1)) (
    sd_then (sd_drop (c_check_stand (ed_var rfl) (ed_var rfl) ?r2)) (
    sd_retD (ed_is (c_stand_area (ed_var rfl) (ed_var rfl) ?r3) ?q4)))
    case r1 => exact hpl
    case r2 => exact ⟨by omega, hz.i1, h1, h2, hz.i2, h3, h4, hno⟩
    case r3 => exact ⟨hpl.sz, hz.i1, hz.i2, hz.s1, hz.s2, hz.ps, by omega, hz.gr⟩
    case q4 => rfl
def R_moved (ds : List PyData) (d : PyData) : Prop := ∃ (S : List P2) (p : P2), (Plate S ∧ Pm 900 p) ∧ ds = [encS S, encP p] ∧ d = encS (S.map fun q => q.add p)
theorem c_moved {t0 t1 : TE} {e0 e1 e2 : List EK} {S : List P2} {p : P2} (a0 : ED K t0 e0 (encS S) e1) (a1 : ED K t1 e1 (encP p) e2) (hp : Plate S ∧ Pm 900 p) : ED K (tCall (spP K R_moved) [] E0 (tCons t0 (tCons t1 tNil))) e0 (encS (S.map fun q => q.add p)) e2 := ed_call (ad_cons a0 (ad_cons a1 ad_nil)) ⟨S, p, hp, rfl, rfl⟩
abbrev DD_moved (P : Program) (w : World) (K : Frag) (mg : Str → Option Value) (base : Heap) : Prop := Def P w K mg base 8 "moved" ["section", "way"] (spP K R_moved)
theorem ok_moved (T : Top K mg) (D_vector_sum : DD_vector_sum P w K mg base) (D_check_point : DD_check_point P w K mg base) (D_check_section : DD_check_section P w K mg base) : DD_moved P w K mg base := by
  obtain ⟨f, fd, F, hm⟩ := T.df "moved" 89 (by decide +kernel)
  have sc : FnScope ["section", "way", "corner"] ["section", "way"] (defScope (top 89)) := ⟨rfl, rfl, rfl, by decide +kernel, rfl, by decide +kernel, by decide +kernel⟩
  have m_tuple := T.fr "tuple" (by decide +kernel)
  refine def_of F hm sc (fun ds d h => ?_) (fun _ _ _ _ _ _ us hl => match us, hl with | [_, _], _ => rfl) (fun cdv A outer s H E ds d hr h => ?_)
  · obtain ⟨S, p, hp, rfl, rfl⟩ := h
    rfl
  · obtain ⟨S, p, hp, rfl, rfl⟩ := h
    have hr3 := hr.mono (j := 3) (by decide)
    have hr4 := hr.mono (j := 4) (by decide)
    have hr7 := hr.mono (j := 7) (by decide)
    refine ⟨_, (pss_cons (ps_expr (pe_def D_check_section hr7 (by rfl) (pa_cons (pv 0) pa_nil)))
      (pss_cons (ps_expr (pe_def D_check_point hr4 (by rfl) (pa_cons (pv 1) pa_nil)))
      (pss_one (ps_ret (pe_callTy call_tuple_of (by rfl) m_tuple bt_tuple (pa_cons (pe_lc (own := [("corner", 2)]) rfl sc.nd (pi_seq (pv 0)) (blkOk_by (own := [("corner", 2)]) (N := ["section", "way", "corner"]) (sc := defScope (top 89)) (by decide +kernel)) (fun _ _ _ _ _ => (pg_name (i := 2) sc.nd rfl (Or.inl rfl))) (fun _ _ _ _ _ => pts_nil) (fun _ _ _ _ _ => (pe_def D_vector_sum hr3 (by rfl) (pa_cons (pv 2) (pa_cons (pv 1) pa_nil))))) pa_nil)))))), ?_⟩
    show SD K _ [.imm _, .imm _, .any] _ _ _ _
    refine sd_then (sd_drop (c_check_section (ed_var rfl) ?r1)) (
    sd_then (sd_drop (c_check_point (ed_var rfl) ?r2)) (
    sd_retD (ed_is (ed_tupOf (ed_lcM (h := fun q => encP (P2.add q p)) (id_seqT (ed_var rfl)) (by rfl) ?cc3 ?cd4)) ?q5)))
    case r1 => exact hp.1
    case r2 => trivial
    case cc3 => have := hp.1.hi; omega
    case cd4 =>
      intro q hq
      exact ⟨_, [2], fun j h => h, gd_name, c_vector_sum (ed_var rfl) (ed_var rfl) ⟨(hp.1.ps q hq).mono (by decide), hp.2.mono (by decide)⟩⟩
    case q5 =>
      show _ = PyData.tuple ((S.map fun q => q.add p).map encP)
      rw [List.map_map]
      rfl
end
end Hull
namespace Hull
open PySem PySem.Spec PyProof.Rows L2
section
variable {P : Program} {w : World} {K : Frag} {mg : Str → Option Value} {base : Heap}
abbrev gapP (S : List P2) (p : P2) (i j : Nat) : P2 := ((p.mul 2).sub (cn S i)).sub (cn S j)
theorem Sm2 : Sm 2 (2 : Rat) := ⟨by unfold B; decide, by unfold B; decide⟩
theorem gap_B {S : List P2} {p : P2} {i j : Nat} (hS : Ps 200 S) (h0 : 0 < S.length) (hp : Pm 200 p) : Pm 604 (gapP S p i j) := (((hp.mul Sm2).sub (hS.cn h0 i)).sub (hS.cn h0 j)).mono (by decide)
def R_across_point (ds : List PyData) (d : PyData) : Prop := ∃ (S : List P2) (p : P2) (i : Nat) (j : Nat), (Ps 200 S ∧ 0 < S.length ∧ S.length ≤ 100 ∧ Pm 200 p ∧ i < S.length ∧ j < S.length) ∧ ds = [encS S, encP p, .int (i : Int), .int (j : Int)] ∧ d = encOS (across S p i j)
theorem c_across_point {t0 t1 t2 t3 : TE} {e0 e1 e2 e3 e4 : List EK} {S : List P2} {p : P2} {i : Nat} {j : Nat} (a0 : ED K t0 e0 (encS S) e1) (a1 : ED K t1 e1 (encP p) e2) (a2 : ED K t2 e2 (.int (i : Int)) e3) (a3 : ED K t3 e3 (.int (j : Int)) e4) (hp : Ps 200 S ∧ 0 < S.length ∧ S.length ≤ 100 ∧ Pm 200 p ∧ i < S.length ∧ j < S.length) : ED K (tCall (spP K R_across_point) [] E0 (tCons t0 (tCons t1 (tCons t2 (tCons t3 tNil))))) e0 (encOS (across S p i j)) e4 := ed_call (ad_cons a0 (ad_cons a1 (ad_cons a2 (ad_cons a3 ad_nil)))) ⟨S, p, i, j, hp, rfl, rfl⟩
abbrev DD_across_point (P : Program) (w : World) (K : Frag) (mg : Str → Option Value) (base : Heap) : Prop := Def P w K mg base 5 "across_point" ["section", "point", "left", "right"] (spP K R_across_point)
theorem ok_across_point (T : Top K mg) (D_ratio_over : DD_ratio_over P w K mg base) (D_is_lower : DD_is_lower P w K mg base) (D_vector_less : DD_vector_less P w K mg base) (D_vector_times : DD_vector_times P w K mg base) (D_cross_of : DD_cross_of P w K mg base) (D_edge_way : DD_edge_way P w K mg base) (D_rim_to : DD_rim_to P w K mg base) : DD_across_point P w K mg base := by
  obtain ⟨f, fd, F, hm⟩ := T.df "across_point" 74 (by decide +kernel)
  have sc : FnScope ["section", "point", "left", "right", "one", "two", "turn", "gap", "shares", "share"] ["section", "point", "left", "right"] (defScope (top 74)) := ⟨rfl, rfl, rfl, by decide +kernel, rfl, by decide +kernel, by decide +kernel⟩
  have m_any := T.fr "any" (by decide +kernel)
  obtain ⟨aZERO, mZERO, zZERO⟩ := T.zero
  have rZERO : RelV (.ref aZERO) (.ref aZERO) := rfl
  obtain ⟨aONE, mONE, zONE⟩ := T.one
  have rONE : RelV (.ref aONE) (.ref aONE) := rfl
  refine def_of F hm sc (fun ds d h => ?_) (fun _ _ _ _ _ _ us hl => match us, hl with | [_, _, _, _], _ => rfl) (fun cdv A outer s H E ds d hr h => ?_)
  · obtain ⟨S, p, i, j, hp, rfl, rfl⟩ := h
    rfl
  · obtain ⟨S, p, i, j, hp, rfl, rfl⟩ := h
    have hr1 := hr.mono (j := 1) (by decide)
    have hr3 := hr.mono (j := 3) (by decide)
    have hr4 := hr.mono (j := 4) (by decide)
    obtain ⟨hS, h0, hl, hpm, hi, hj⟩ := hp
    refine ⟨_, (pss_cons (ps_par (i := 4) (j := 5) rfl sc.nd rfl rfl (by decide) rfl rfl (pa_cons (pe_def D_edge_way hr4 (by rfl) (pa_cons (pv 0) (pa_cons (pv 2) pa_nil))) (pa_cons (pe_def D_edge_way hr4 (by rfl) (pa_cons (pv 0) (pa_cons (pv 3) pa_nil))) pa_nil)) rfl)
      (pss_cons (ps_set (i := 6) sc.nd rfl (Or.inl rfl) (pe_def D_cross_of hr3 (by rfl) (pa_cons (pv 4) (pa_cons (pv 5) pa_nil))))
      (pss_cons (ps_if (pt_cmpR (r := rEqD K) (op_eqD hr.units) (pv 6) (pe_glob (by rfl) mZERO rZERO) (nomark _)) (pss_one (ps_ret pe_non)) pss_nil)
      (pss_cons (ps_set (i := 7) sc.nd rfl (Or.inl rfl) (pe_def D_vector_less hr3 (by rfl) (pa_cons (pe_def D_vector_less hr3 (by rfl) (pa_cons (pe_def D_vector_times hr3 (by rfl) (pa_cons (pv 1) (pa_cons (pe_tup (pa_cons pe_int (pa_cons pe_int pa_nil))) pa_nil))) (pa_cons (pe_ix (r := rIx K) ix_seq (pv 0) (pv 2) (fun _ _ => rfl)) pa_nil))) (pa_cons (pe_ix (r := rIx K) ix_seq (pv 0) (pv 3) (fun _ _ => rfl)) pa_nil))))
      (pss_cons (ps_set (i := 8) sc.nd rfl (Or.inl rfl) (pe_lst (pa_cons (pe_def D_ratio_over hr3 (by rfl) (pa_cons (pe_def D_cross_of hr3 (by rfl) (pa_cons (pv 7) (pa_cons (pv 5) pa_nil))) (pa_cons (pv 6) pa_nil))) (pa_cons (pe_def D_ratio_over hr3 (by rfl) (pa_cons (pe_def D_cross_of hr3 (by rfl) (pa_cons (pv 4) (pa_cons (pv 7) pa_nil))) (pa_cons (pv 6) pa_nil))) pa_nil))))
      (pss_cons (ps_if (pt_val (pe_callB (cr_any rfl) (by rfl) m_any bt_any (pa_cons (pe_lc (own := [("share", 9)]) rfl sc.nd (pi_seq (pv 8)) (blkOk_by (own := [("share", 9)]) (N := ["section", "point", "left", "right", "one", "two", "turn", "gap", "shares", "share"]) (sc := defScope (top 74)) (by decide +kernel)) (fun _ _ _ _ _ => (pg_name (i := 9) sc.nd rfl (Or.inl rfl))) (fun _ _ _ _ _ => pts_nil) (fun _ _ _ _ _ => (pe_or (pe_def D_is_lower hr1 (by rfl) (pa_cons (pv 9) (pa_cons (pe_glob (by rfl) mZERO rZERO) pa_nil))) (pe_one (pe_def D_is_lower hr1 (by rfl) (pa_cons (pe_glob (by rfl) mONE rONE) (pa_cons (pv 9) pa_nil))))))) pa_nil))) (pss_one (ps_ret pe_non)) pss_nil)
      (pss_one (ps_ret (pe_tup (pa_cons (pe_def D_rim_to hr1 (by rfl) (pa_cons (pv 0) (pa_cons (pv 2) (pa_cons (pe_ix (r := rIx K) ix_seq (pv 8) pe_int (fun _ _ => rfl)) pa_nil)))) (pa_cons (pe_def D_rim_to hr1 (by rfl) (pa_cons (pv 0) (pa_cons (pv 3) (pa_cons (pe_ix (r := rIx K) ix_seq (pv 8) pe_int (fun _ _ => rfl)) pa_nil)))) pa_nil))))))))))), ?_⟩
    have hS9 : Ps 900 S := fun q hq => (hS q hq).mono (by decide)
    have hz : Sz S := ⟨hS9, h0, hl⟩
    have he : ∀ k, Pm 401 (eg S k) := fun k => hS.eg h0 k
    have hg := gap_B (i := i) (j := j) hS h0 hpm
    have ht : Sm 803 (cr (eg S i) (eg S j)) := (Sm_cr (he i) (he j)).mono (by decide)
    have hgx : Sm 1006 (cr (gapP S p i j) (eg S j)) := (Sm_cr hg (he j)).mono (by decide)
    have hgy : Sm 1006 (cr (eg S i) (gapP S p i j)) := (Sm_cr (he i) hg).mono (by decide)
    show SD K _ [.imm _, .imm _, .imm _, .imm _, .any, .any, .any, .any, .any, .any] _ _ _ _
    refine sd_then (e1 := [.imm (encS S), .imm (encP p), .imm (encN i), .imm (encN j), .imm (encP (eg S i)), .imm (encP (eg S j)), .any, .any, .any, .any]) (sd_par (ad_cons (c_edge_way (ed_var rfl) (ed_var rfl) ⟨hz, hi⟩) (ad_cons (c_edge_way (ed_var rfl) (ed_var rfl) ⟨hz, hj⟩) ad_nil))) (
      sd_then (e1 := [.imm (encS S), .imm (encP p), .imm (encN i), .imm (encN j), .imm (encP (eg S i)), .imm (encP (eg S j)), .imm (encR (cr (eg S i) (eg S j))), .any, .any, .any]) (sd_set (c_cross_of (ed_var rfl) (ed_var rfl) ⟨(he i).mono (by decide), (he j).mono (by decide)⟩)) (
      sd_leave (b := decide (cr (eg S i) (eg S j) = 0)) (td_is (td_test (ed_eqD (ed_var rfl) (ed_ZERO zZERO) rfl rfl)) (eqvR _ _)) (fun h => sd_retD (ed_is ed_non ?_)) (fun h => ?_)))
    · have h := of_decide_eq_true h
      unfold across
      rw [if_neg fun z => z.1 h]
      rfl
    · have h := of_decide_eq_false h
      refine sd_then (e1 := [.imm (encS S), .imm (encP p), .imm (encN i), .imm (encN j), .imm (encP (eg S i)), .imm (encP (eg S j)), .imm (encR (cr (eg S i) (eg S j))), .imm (encP (gapP S p i j)), .any, .any]) (sd_set (c_vector_less (c_vector_less (c_vector_times (t := 2) (ed_var rfl) (ed_tup (ad_cons ed_int (ad_cons ed_int ad_nil))) ⟨hpm.mono (by decide), Sm2.mono (by decide)⟩) (ed_ixT (ed_var rfl) (ed_var rfl) (at_here hi)) ⟨(hpm.mul Sm2).mono (by decide), (hS9.cn h0 i).mono (by decide)⟩) (ed_ixT (ed_var rfl) (ed_var rfl) (at_here hj)) ⟨((hpm.mul Sm2).sub (hS.cn h0 i)).mono (by decide), (hS9.cn h0 j).mono (by decide)⟩)) (
        sd_then (e1 := [.imm (encS S), .imm (encP p), .imm (encN i), .imm (encN j), .imm (encP (eg S i)), .imm (encP (eg S j)), .imm (encR (cr (eg S i) (eg S j))), .imm (encP (gapP S p i j)), .imm (.list [encR (acrossX S p i j), encR (acrossY S p i j)]), .any]) (sd_set (ed_lst (ad_cons (c_ratio_over (c_cross_of (ed_var rfl) (ed_var rfl) ⟨hg.mono (by decide), (he j).mono (by decide)⟩) (ed_var rfl) ⟨hgx.mono (by decide), ht.mono (by decide), h⟩) (ad_cons (c_ratio_over (c_cross_of (ed_var rfl) (ed_var rfl) ⟨(he i).mono (by decide), hg.mono (by decide)⟩) (ed_var rfl) ⟨hgy.mono (by decide), ht.mono (by decide), h⟩) ad_nil)))) (
        sd_leave (b := !decide (0 ≤ acrossX S p i j ∧ acrossX S p i j ≤ 1 ∧ 0 ≤ acrossY S p i j ∧ acrossY S p i j ≤ 1)) (td_is (td_B (ed_any (bs := [acrossX S p i j, acrossY S p i j].map fun q => decide (q < 0) || decide (1 < q)) (ed_is (ed_lcM (l := [acrossX S p i j, acrossY S p i j]) (f := fun q => encR q) (h := fun q => PyData.bool (decide (q < 0) || decide (1 < q))) (id_seqL (ed_var rfl)) (by rfl) (by show 2 ≤ 1000; decide) fun q hq => ⟨_, [9], fun j h => h, gd_name, ed_or (c_is_lower (ed_var rfl) (ed_ZERO zZERO) ⟨?_, Sm.lit rfl rfl⟩) fun h' => c_is_lower (ed_ONE zONE) (ed_var rfl) ⟨Sm.lit rfl rfl, ?_⟩⟩) (by rw [List.map_map]; rfl)))) ?_) (fun hb => sd_retD (ed_is ed_non ?_)) (fun hb => sd_retD (ed_is (ed_tup (ad_cons (c_rim_to (ed_var rfl) (ed_var rfl) (ed_ixL (ed_var rfl) ed_int at0) h0) (ad_cons (c_rim_to (ed_var rfl) (ed_var rfl) (ed_ixL (ed_var rfl) ed_int at1) h0) ad_nil))) ?_))))
      · rcases List.mem_cons.mp hq with z | z
        · rw [z]; exact (hgx.over ht h).mono (by decide)
        · rw [List.mem_singleton.mp z]; exact (hgy.over ht h).mono (by decide)
      · rcases List.mem_cons.mp hq with z | z
        · rw [z]; exact (hgx.over ht h).mono (by decide)
        · rw [List.mem_singleton.mp z]; exact (hgy.over ht h).mono (by decide)
      · show ((decide (acrossX S p i j < 0) || decide (1 < acrossX S p i j)) || ((decide (acrossY S p i j < 0) || decide (1 < acrossY S p i j)) || false)) = _
        generalize acrossX S p i j = x
        generalize acrossY S p i j = y
        rw [Bool.or_false, ← Bool.decide_or, ← Bool.decide_or, ← Bool.decide_or, ← decide_not]
        refine decide_eq_decide.mpr ?_
        have := @Rat.not_lt
        constructor
        · rintro ((h | h) | (h | h)) ⟨h1, h2, h3, h4⟩ <;> grind
        · intro h
          grind
      · have hb : ¬ (0 ≤ acrossX S p i j ∧ acrossX S p i j ≤ 1 ∧ 0 ≤ acrossY S p i j ∧ acrossY S p i j ≤ 1) := by
          rw [Bool.not_eq_true', decide_eq_false_iff_not] at hb
          exact hb
        unfold across
        rw [if_neg fun z => hb z.2]
        rfl
      · have hb : (0 ≤ acrossX S p i j ∧ acrossX S p i j ≤ 1 ∧ 0 ≤ acrossY S p i j ∧ acrossY S p i j ≤ 1) := by
          rw [Bool.not_eq_false', decide_eq_true_iff] at hb
          exact hb
        unfold across
        rw [if_pos ⟨h, hb⟩]
        rfl
theorem filt_succ {α : Type} (f : Nat → Option α) (n : Nat) : (List.range (n + 1)).filterMap f = (List.range n).filterMap f ++ (match f n with | none => [] | some a => [a]) := by
  rw [List.range_succ, List.filterMap_append]
  congr 1
theorem halved_len (S : List P2) (p : P2) (i : Nat) : ((List.range i).flatMap (halvedAt S p)).length ≤ i * (S.length + 2) := by
  induction i with
  | zero => simp
  | succ i ih =>
    rw [List.range_succ, List.flatMap_append, List.length_append, List.flatMap_singleton]
    have h1 : (halvedAt S p i).length ≤ S.length + 2 := by
      unfold halvedAt
      rw [List.length_append]
      have h2 : (atCorner S p i).length ≤ 2 := by unfold atCorner; split <;> simp
      have h3 := List.length_filterMap_le (across S p i) (List.range S.length)
      rw [List.length_range] at h3
      omega
    have e : (i + 1) * (S.length + 2) = i * (S.length + 2) + (S.length + 2) := by rw [Nat.add_mul, Nat.one_mul]
    omega
def R_halved_stands (ds : List PyData) (d : PyData) : Prop := ∃ (S : List P2) (p : P2), (Ps 200 S ∧ 0 < S.length ∧ S.length ≤ 8 ∧ Pm 200 p ∧ ∀ i, i < S.length → cn S i ≠ cn S (i + 1)) ∧ ds = [encS S, encP p] ∧ d = .list ((halved S p).map encSt)
theorem c_halved_stands {t0 t1 : TE} {e0 e1 e2 : List EK} {S : List P2} {p : P2} (a0 : ED K t0 e0 (encS S) e1) (a1 : ED K t1 e1 (encP p) e2) (hp : Ps 200 S ∧ 0 < S.length ∧ S.length ≤ 8 ∧ Pm 200 p ∧ ∀ i, i < S.length → cn S i ≠ cn S (i + 1)) : ED K (tCall (spP K R_halved_stands) [] E0 (tCons t0 (tCons t1 tNil))) e0 (.list ((halved S p).map encSt)) e2 := ed_call (ad_cons a0 (ad_cons a1 ad_nil)) ⟨S, p, hp, rfl, rfl⟩
abbrev DD_halved_stands (P : Program) (w : World) (K : Frag) (mg : Str → Option Value) (base : Heap) : Prop := Def P w K mg base 6 "halved_stands" ["section", "point"] (spP K R_halved_stands)
theorem ok_halved_stands (T : Top K mg) (D_vector_less : DD_vector_less P w K mg base) (D_vector_times : DD_vector_times P w K mg base) (D_rim_at : DD_rim_at P w K mg base) (D_across_point : DD_across_point P w K mg base) : DD_halved_stands P w K mg base := by
  obtain ⟨f, fd, F, hm⟩ := T.df "halved_stands" 75 (by decide +kernel)
  have sc : FnScope ["section", "point", "found", "index", "corner", "rim", "other", "stand"] ["section", "point"] (defScope (top 75)) := ⟨rfl, rfl, rfl, by decide +kernel, rfl, by decide +kernel, by decide +kernel⟩
  have m_len := T.fr "len" (by decide +kernel)
  have m_range := T.fr "range" (by decide +kernel)
  have m_enumerate := T.fr "enumerate" (by decide +kernel)
  obtain ⟨aZERO, mZERO, zZERO⟩ := T.zero
  have rZERO : RelV (.ref aZERO) (.ref aZERO) := rfl
  refine def_of F hm sc (fun ds d h => ?_) (fun _ _ _ _ _ _ us hl => match us, hl with | [_, _], _ => rfl) (fun cdv A outer s H E ds d hr h => ?_)
  · obtain ⟨S, p, hp, rfl, rfl⟩ := h
    rfl
  · obtain ⟨S, p, hp, rfl, rfl⟩ := h
    have hr3 := hr.mono (j := 3) (by decide)
    have hr5 := hr.mono (j := 5) (by decide)
    obtain ⟨hS, h0, hl, hpm, hne⟩ := hp
    refine ⟨_, (pss_cons (ps_set (i := 2) sc.nd rfl (Or.inl rfl) (pe_lst pa_nil))
      (pss_cons (ps_for PassesOwn.never rfl (pi_enumS (by rfl) m_enumerate (pa_cons (pv 0) pa_nil)) (pg_tup rfl (pgs_cons (pg_name (i := 3) sc.nd rfl (Or.inl rfl)) (pgs_cons (pg_name (i := 4) sc.nd rfl (Or.inl rfl)) pgs_nil))) (pss_cons (ps_set (i := 5) sc.nd rfl (Or.inl rfl) (pe_def D_rim_at hr5 (by rfl) (pa_cons (pv 0) (pa_cons (pe_def D_vector_less hr3 (by rfl) (pa_cons (pe_def D_vector_times hr3 (by rfl) (pa_cons (pv 1) (pa_cons (pe_tup (pa_cons pe_int (pa_cons pe_int pa_nil))) pa_nil))) (pa_cons (pv 4) pa_nil))) pa_nil))))
      (pss_cons (ps_if (pt_cmpR op_notN (pv 5) pe_non (nomark _)) (pss_one (ps_set (i := 2) sc.nd rfl (Or.inl rfl) (pe_op op_cat (pv 2) (pe_lst (pa_cons (pe_tup (pa_cons (pe_tup (pa_cons (pv 3) (pa_cons (pe_glob (by rfl) mZERO rZERO) pa_nil))) (pa_cons (pv 5) pa_nil))) (pa_cons (pe_tup (pa_cons (pv 5) (pa_cons (pe_tup (pa_cons (pv 3) (pa_cons (pe_glob (by rfl) mZERO rZERO) pa_nil))) pa_nil))) pa_nil)))))) pss_nil)
      (pss_one (ps_for PassesOwn.never rfl (pi_range1 (by rfl) m_range (pa_cons (pe_callB call_len_seq (by rfl) m_len bt_len (pa_cons (pv 0) pa_nil)) pa_nil)) (pg_name (i := 6) sc.nd rfl (Or.inl rfl)) (pss_cons (ps_set (i := 7) sc.nd rfl (Or.inl rfl) (pe_def D_across_point hr5 (by rfl) (pa_cons (pv 0) (pa_cons (pv 1) (pa_cons (pv 3) (pa_cons (pv 6) pa_nil))))))
      (pss_one (ps_if (pt_cmpR op_notN (pv 7) pe_non (nomark _)) (pss_one (ps_expr (pe_bm PySem.F.plainAttrs_list PySem.F.slot_list_append PySem.F.type_list_append mt_append (pv 2) (pa_cons (pv 7) pa_nil)))) pss_nil))))))))
      (pss_one (ps_ret (pv 2))))), ?_⟩
    have hS9 : Ps 900 S := fun q hq => (hS q hq).mono (by decide)
    have hz : Sz S := ⟨hS9, h0, by omega⟩
    show SD K _ [.imm _, .imm _, .any, .any, .any, .any, .any, .any] _ _ _ _
    refine sd_then (e1 := [.imm (encS S), .imm (encP p), .lis (([]).map encSt), .any, .any, .any, .any, .any]) (sd_setM (edm_lst ad_nil)) (
      sd_seq (N := fun e => ∃ k1 k2 k3 k4 k5, e = [.imm (encS S), .imm (encP p), .lis ((halved S p).map encSt), k1, k2, k3, k4, k5])
        (sd_forR (fun i e => ∃ k1 k2 k3 k4 k5, e = [.imm (encS S), .imm (encP p), .lis (((List.range i).flatMap (halvedAt S p)).map encSt), k1, k2, k3, k4, k5]) (id_enumP (ed_var rfl)) ⟨.any, .any, .any, .any, .any, rfl⟩ (fun i e' hi hI => ?_) (fun e' hI => hI)) (fun e hz => ?_))
    · obtain ⟨k1, k2, k3, k4, k5, rfl⟩ := hI
      have hlen := halved_len S p i
      have hlen2 : i * (S.length + 2) ≤ 8 * 10 := Nat.mul_le_mul (by omega) (by omega)
      have hc : Pm 604 ((p.mul 2).sub (cn S i)) := ((hpm.mul Sm2).sub (hS.cn h0 i)).mono (by decide)
      refine ⟨_, _, gd_tup (gds_cons gd_name (gds_cons gd_name gds_nil)), ?_⟩
      refine sd_wk (e1 := [.imm (encS S), .imm (encP p), .lis (((List.range i).flatMap (halvedAt S p)).map encSt), .imm (encN i), .imm (encP (cn S i)), .any, .any, .any]) ?_ ⟨.inr rfl, .inr rfl, .inr rfl, .inr rfl, .inr rfl, .inl rfl, .inl rfl, .inl rfl, trivial⟩
      refine sd_then (e1 := [.imm (encS S), .imm (encP p), .lis (((List.range i).flatMap (halvedAt S p)).map encSt), .imm (encN i), .imm (encP (cn S i)), .imm (encO (rimAt S ((p.mul 2).sub (cn S i)))), .any, .any]) (sd_set (c_rim_at (ed_var rfl) (c_vector_less (c_vector_times (t := 2) (ed_var rfl) (ed_tup (ad_cons ed_int (ad_cons ed_int ad_nil))) ⟨hpm.mono (by decide), Sm2.mono (by decide)⟩) (ed_var rfl) ⟨(hpm.mul Sm2).mono (by decide), (hS9.cn h0 i).mono (by decide)⟩) ⟨hz, hc.mono (by decide), hne⟩)) (
        sd_seq (N := fun e => e = [.imm (encS S), .imm (encP p), .lis (((List.range i).flatMap (halvedAt S p) ++ atCorner S p i).map encSt), .imm (encN i), .imm (encP (cn S i)), .imm (encO (rimAt S ((p.mul 2).sub (cn S i)))), .any, .any]) ?_ (fun e hq => ?_))
      · unfold atCorner
        cases q : rimAt S ((p.mul 2).sub (cn S i)) with
        | none => exact sd_if (td_test (ed_isNN (ed_var rfl))) (fun h => nomatch h) (fun h => sd_next (by rw [List.append_nil]))
        | some r =>
          refine sd_if (td_test (ed_isNN (ed_var rfl))) (fun h => ?_) (fun h => nomatch h)
          refine sd_imp (sd_setM (edm_cat (ed_varM rfl) (ed_lst (ad_cons (ed_tup (ad_cons (ed_tup (ad_cons (ed_var rfl) (ad_cons (ed_ZERO zZERO) ad_nil))) (ad_cons (ed_var rfl) ad_nil))) (ad_cons (ed_tup (ad_cons (ed_var rfl) (ad_cons (ed_tup (ad_cons (ed_var rfl) (ad_cons (ed_ZERO zZERO) ad_nil))) ad_nil))) ad_nil))) ?_)) fun e' he => ?_
          · rw [List.length_map]
            show _ + 2 ≤ 1000
            omega
          · rw [he, List.map_append]
            rfl
      · subst hq
        refine sd_forR (n := S.length) (f := fun k => encN k) (fun j e => ∃ k4 k5, e = [.imm (encS S), .imm (encP p), .lis (((List.range i).flatMap (halvedAt S p) ++ atCorner S p i ++ (List.range j).filterMap (across S p i)).map encSt), .imm (encN i), .imm (encP (cn S i)), .imm (encO (rimAt S ((p.mul 2).sub (cn S i)))), k4, k5]) (id_rngN (n := S.length) (ad_cons (ed_is (ed_lenT (ed_var rfl)) (by rw [List.length_map])) ad_nil) (by omega)) ⟨.any, .any, by rw [List.range_zero, List.filterMap_nil, List.append_nil]⟩ (fun j e' hj hI => ?_) (fun e' hI => ?_)
        · obtain ⟨k4, k5, rfl⟩ := hI
          refine ⟨_, _, gd_name, ?_⟩
          refine sd_wk (e1 := [.imm (encS S), .imm (encP p), .lis (((List.range i).flatMap (halvedAt S p) ++ atCorner S p i ++ (List.range j).filterMap (across S p i)).map encSt), .imm (encN i), .imm (encP (cn S i)), .imm (encO (rimAt S ((p.mul 2).sub (cn S i)))), .imm (encN j), .any]) ?_ ⟨.inr rfl, .inr rfl, .inr rfl, .inr rfl, .inr rfl, .inr rfl, .inr rfl, .inl rfl, trivial⟩
          refine sd_then (e1 := [.imm (encS S), .imm (encP p), .lis (((List.range i).flatMap (halvedAt S p) ++ atCorner S p i ++ (List.range j).filterMap (across S p i)).map encSt), .imm (encN i), .imm (encP (cn S i)), .imm (encO (rimAt S ((p.mul 2).sub (cn S i)))), .imm (encN j), .imm (encOS (across S p i j))]) (sd_set (c_across_point (ed_var rfl) (ed_var rfl) (ed_var rfl) (ed_var rfl) ⟨hS, h0, by omega, hpm, hi, hj⟩)) ?_
          cases q : across S p i j with
          | none =>
            refine sd_if (td_test (ed_isNN (ed_var rfl))) (fun h => nomatch h) (fun h => sd_next ?_)
            rw [filt_succ, q, List.append_nil]
            exact ⟨_, _, rfl⟩
          | some z =>
            refine sd_if (td_test (ed_isNN (ed_var rfl))) (fun h => ?_) (fun h => nomatch h)
            refine sd_imp (sd_app rfl (ed_var rfl) rfl ?_) fun e' he => ?_
            · have h3 := List.length_filterMap_le (across S p i) (List.range j)
              have h2 : (atCorner S p i).length ≤ 2 := by unfold atCorner; split <;> simp
              rw [List.length_range] at h3
              rw [List.length_map, List.length_append, List.length_append]
              omega
            · rw [he, filt_succ, q, ← List.append_assoc, List.map_append (l₂ := [z])]
              exact ⟨_, _, rfl⟩
        · obtain ⟨k4, k5, rfl⟩ := hI
          rw [List.range_succ, List.flatMap_append, List.flatMap_singleton]
          unfold halvedAt
          rw [List.append_assoc]
          exact ⟨_, _, _, _, _, rfl⟩
    · obtain ⟨k1, k2, k3, k4, k5, rfl⟩ := hz
      exact sd_wk (e1 := [.imm (encS S), .imm (encP p), .lis ((halved S p).map encSt), .any, .any, .any, .any, .any]) (sd_retD (ed_varM rfl)) ⟨.inr rfl, .inr rfl, .inr rfl, .inl rfl, .inl rfl, .inl rfl, .inl rfl, .inl rfl, trivial⟩
def R_is_better (ds : List PyData) (d : PyData) : Prop := ∃ (ca : Cand) (cb : Cand) (g : Bool), (Sm 4000 ca.1 ∧ Sm 4000 cb.1 ∧ Sm 4000 ca.2.1.2 ∧ Sm 4000 cb.2.1.2) ∧ ds = [encC ca, encC cb, .bool g] ∧ d = .bool (better g ca cb)
theorem c_is_better {t0 t1 t2 : TE} {e0 e1 e2 e3 : List EK} {ca : Cand} {cb : Cand} {g : Bool} (a0 : ED K t0 e0 (encC ca) e1) (a1 : ED K t1 e1 (encC cb) e2) (a2 : ED K t2 e2 (.bool g) e3) (hp : Sm 4000 ca.1 ∧ Sm 4000 cb.1 ∧ Sm 4000 ca.2.1.2 ∧ Sm 4000 cb.2.1.2) : ED K (tCall (spP K R_is_better) [] E0 (tCons t0 (tCons t1 (tCons t2 tNil)))) e0 (.bool (better g ca cb)) e3 := ed_call (ad_cons a0 (ad_cons a1 (ad_cons a2 ad_nil))) ⟨ca, cb, g, hp, rfl, rfl⟩
abbrev DD_is_better (P : Program) (w : World) (K : Frag) (mg : Str → Option Value) (base : Heap) : Prop := Def P w K mg base 3 "is_better" ["pair", "best", "is_least"] (spP K R_is_better)
theorem ok_is_better (T : Top K mg) (D_is_lower : DD_is_lower P w K mg base) (D_comes_first : DD_comes_first P w K mg base) : DD_is_better P w K mg base := by
  obtain ⟨f, fd, F, hm⟩ := T.df "is_better" 76 (by decide +kernel)
  have sc : FnScope ["pair", "best", "is_least"] ["pair", "best", "is_least"] (defScope (top 76)) := ⟨rfl, rfl, rfl, by decide +kernel, rfl, by decide +kernel, by decide +kernel⟩
  refine def_of F hm sc (fun ds d h => ?_) (fun _ _ _ _ _ _ us hl => match us, hl with | [_, _, _], _ => rfl) (fun cdv A outer s H E ds d hr h => ?_)
  · obtain ⟨ca, cb, g, hp, rfl, rfl⟩ := h
    rfl
  · obtain ⟨ca, cb, g, hp, rfl, rfl⟩ := h
    have hr1 := hr.mono (j := 1) (by decide)
    have hr2 := hr.mono (j := 2) (by decide)
    refine ⟨_, (pss_cons (ps_if (pt_cmpR (r := rNeD K) (op_neD hr.units) (pe_ix (r := rIx K) ix_seq (pv 0) pe_int (fun _ _ => rfl)) (pe_ix (r := rIx K) ix_seq (pv 1) pe_int (fun _ _ => rfl)) (nomark _)) (pss_one (ps_ret (pe_cmpR op_eq (pe_def D_is_lower hr1 (by rfl) (pa_cons (pe_ix (r := rIx K) ix_seq (pv 0) pe_int (fun _ _ => rfl)) (pa_cons (pe_ix (r := rIx K) ix_seq (pv 1) pe_int (fun _ _ => rfl)) pa_nil))) (pv 2) (nomark _)))) pss_nil)
      (pss_one (ps_ret (pe_def D_comes_first hr2 (by rfl) (pa_cons (pe_ix (r := rIx K) ix_seq (pe_ix (r := rIx K) ix_seq (pv 0) pe_int (fun _ _ => rfl)) pe_int (fun _ _ => rfl)) (pa_cons (pe_ix (r := rIx K) ix_seq (pe_ix (r := rIx K) ix_seq (pv 1) pe_int (fun _ _ => rfl)) pe_int (fun _ _ => rfl)) pa_nil)))))), ?_⟩
    show SD K _ [.imm _, .imm _, .imm _] _ _ _ _
    refine sd_leave (td_test (ed_neD (ed_ixT (ed_var rfl) ed_int at0) (ed_ixT (ed_var rfl) ed_int at0) ?s3 ?s4)) (fun h => sd_retD (ed_is (ed_eqB (c_is_lower (ed_ixT (ed_var rfl) ed_int at0) (ed_ixT (ed_var rfl) ed_int at0) ?r1) (ed_var rfl)) ?q2)) (fun h =>
    sd_retD (ed_is (c_comes_first (ra := ca.2.1) (rb := cb.2.1) (ed_ixT (ed_ixT (ed_var rfl) ed_int at1) ed_int at0) (ed_ixT (ed_ixT (ed_var rfl) ed_int at1) ed_int at0) ⟨hp.2.2.1, hp.2.2.2⟩) ?q5))
    case s3 => rfl
    case s4 => rfl
    case r1 => exact ⟨hp.1, hp.2.1⟩
    case q2 =>
      rw [eqvR] at h
      have h : ca.1 ≠ cb.1 := by simpa using h
      unfold better
      rw [if_pos h]
    case q5 =>
      rw [eqvR] at h
      have h : ca.1 = cb.1 := by simpa using h
      unfold better
      rw [if_neg (fun z => z h)]
def encB (o : Option Cand) : PyData := match o with
  | none => .none
  | some c => encC c
/-- what the search for the best needs -/
structure HvOk (S : List P2) (p : P2) : Prop where
  ps : Ps 200 S
  lo : 3 ≤ S.length
  hi : S.length ≤ 8
  pm : Pm 200 p
  ne : ∀ i, i < S.length → cn S i ≠ cn S (i + 1)
  st : ∀ z ∈ halved S p, StOk S z
  ar : ∀ z ∈ halved S p, Sm 4000 (stArea S z)
def R_extreme_below (ds : List PyData) (d : PyData) : Prop := ∃ (S : List P2) (p : P2) (g : Bool), (HvOk S p) ∧ ds = [encS S, encP p, .bool g] ∧ d = encB (extreme S p g)
theorem c_extreme_below {t0 t1 t2 : TE} {e0 e1 e2 e3 : List EK} {S : List P2} {p : P2} {g : Bool} (a0 : ED K t0 e0 (encS S) e1) (a1 : ED K t1 e1 (encP p) e2) (a2 : ED K t2 e2 (.bool g) e3) (hp : HvOk S p) : ED K (tCall (spP K R_extreme_below) [] E0 (tCons t0 (tCons t1 (tCons t2 tNil)))) e0 (encB (extreme S p g)) e3 := ed_call (ad_cons a0 (ad_cons a1 (ad_cons a2 ad_nil))) ⟨S, p, g, hp, rfl, rfl⟩
abbrev DD_extreme_below (P : Program) (w : World) (K : Frag) (mg : Str → Option Value) (base : Heap) : Prop := Def P w K mg base 9 "extreme_below" ["section", "point", "is_least"] (spP K R_extreme_below)
theorem ok_extreme_below (T : Top K mg) (D_stand_area : DD_stand_area P w K mg base) (D_halved_stands : DD_halved_stands P w K mg base) (D_is_better : DD_is_better P w K mg base) : DD_extreme_below P w K mg base := by
  obtain ⟨f, fd, F, hm⟩ := T.df "extreme_below" 77 (by decide +kernel)
  have sc : FnScope ["section", "point", "is_least", "best", "stand", "pair"] ["section", "point", "is_least"] (defScope (top 77)) := ⟨rfl, rfl, rfl, by decide +kernel, rfl, by decide +kernel, by decide +kernel⟩
  refine def_of F hm sc (fun ds d h => ?_) (fun _ _ _ _ _ _ us hl => match us, hl with | [_, _, _], _ => rfl) (fun cdv A outer s H E ds d hr h => ?_)
  · obtain ⟨S, p, g, hp, rfl, rfl⟩ := h
    rfl
  · obtain ⟨S, p, g, hp, rfl, rfl⟩ := h
    have hr3 := hr.mono (j := 3) (by decide)
    have hr6 := hr.mono (j := 6) (by decide)
    have hr8 := hr.mono (j := 8) (by decide)
    refine ⟨_, (pss_cons (ps_set (i := 3) sc.nd rfl (Or.inl rfl) pe_non)
      (pss_cons (ps_for PassesOwn.never rfl (pi_seq (pe_def D_halved_stands hr6 (by rfl) (pa_cons (pv 0) (pa_cons (pv 1) pa_nil)))) (pg_name (i := 4) sc.nd rfl (Or.inl rfl)) (pss_cons (ps_set (i := 5) sc.nd rfl (Or.inl rfl) (pe_tup (pa_cons (pe_def D_stand_area hr8 (by rfl) (pa_cons (pv 0) (pa_cons (pv 4) pa_nil))) (pa_cons (pv 4) pa_nil))))
      (pss_one (ps_if (pw_or (pt_cmpR op_isN (pv 3) pe_non (nomark _)) (pw_or1 (pt_val (pe_def D_is_better hr3 (by rfl) (pa_cons (pv 5) (pa_cons (pv 3) (pa_cons (pv 2) pa_nil))))))).pt (pss_one (ps_set (i := 3) sc.nd rfl (Or.inl rfl) (pv 5))) pss_nil))))
      (pss_one (ps_ret (pv 3))))), ?_⟩
    have hS9 : Ps 900 S := fun q hq => (hp.ps q hq).mono (by decide)
    have hlo := hp.lo
    have hhi := hp.hi
    have hz : Sz S := ⟨hS9, by omega, by omega⟩
    show SD K _ [.imm _, .imm _, .imm _, .any, .any, .any] _ _ _ _
    refine sd_then (e1 := [.imm (encS S), .imm (encP p), .imm (.bool g), .imm (encB none), .any, .any]) (sd_set ed_non) (
      sd_seq (N := fun e => ∃ k1 k2, e = [.imm (encS S), .imm (encP p), .imm (.bool g), .imm (encB (extreme S p g)), k1, k2])
        (sd_forM (l := halved S p) (fun pre e => (∀ c, (pre.map fun s => (stArea S s, s)).foldl (best g) none = some c → Sm 4000 c.1 ∧ Sm 4000 c.2.1.2) ∧ ∃ k1 k2, e = [.imm (encS S), .imm (encP p), .imm (.bool g), .imm (encB ((pre.map fun s => (stArea S s, s)).foldl (best g) none)), k1, k2]) (id_seqL (c_halved_stands (ed_var rfl) (ed_var rfl) ⟨hp.ps, by omega, hhi, hp.pm, hp.ne⟩)) ⟨fun c h => (by cases h), .any, .any, rfl⟩ (fun pre z post e' hs hI => ?_) (fun e' hI => hI.2)) (fun e hq => ?_))
    · obtain ⟨hb, k1, k2, rfl⟩ := hI
      have hzm : z ∈ halved S p := by rw [hs]; exact List.mem_append_right _ List.mem_cons_self
      have hst := hp.st z hzm
      have har := hp.ar z hzm
      have hz4 : Sm 4000 z.1.2 := hst.s1.mono (by decide)
      have ef : ((pre ++ [z]).map fun s => (stArea S s, s)).foldl (best g) none = best g ((pre.map fun s => (stArea S s, s)).foldl (best g) none) (stArea S z, z) := by rw [List.map_append, List.foldl_append]; rfl
      rw [ef]
      generalize (pre.map fun s => (stArea S s, s)).foldl (best g) none = o at hb ⊢
      have hnew : ∀ c, best g o (stArea S z, z) = some c → Sm 4000 c.1 ∧ Sm 4000 c.2.1.2 := fun c hc => by
        cases o with
        | none => cases hc; exact ⟨har, hz4⟩
        | some b =>
          unfold best at hc
          dsimp only at hc
          split at hc
          · cases hc; exact ⟨har, hz4⟩
          · cases hc; exact hb _ rfl
      refine ⟨_, _, gd_name, ?_⟩
      refine sd_then (e1 := [.imm (encS S), .imm (encP p), .imm (.bool g), .imm (encB o), .imm (encSt z), .imm (encC (stArea S z, z))]) (sd_set (ed_tup (ad_cons (c_stand_area (S := S) (z := z) (ed_var rfl) (ed_var rfl) ⟨hz, hst.i1, hst.i2, hst.s1, hst.s2, hst.ps, by omega, hst.gr⟩) (ad_cons (ed_var rfl) ad_nil)))) ?_
      cases o with
      | none =>
        refine sd_if (td_is (td_or (td_test (ed_isN (ed_var rfl))) (c := false) fun h => nomatch h) (c := true) rfl) (fun h => sd_imp (sd_set (ed_var rfl)) fun e' he => ⟨hnew, ?_⟩) (fun h => nomatch h)
        rw [he]
        exact ⟨_, _, rfl⟩
      | some b =>
        have hb1 := hb b rfl
        refine sd_if (td_is (td_or (td_test (ed_isN (ed_var rfl))) (c := better g (stArea S z, z) b) fun h => td_B (c_is_better (ca := (stArea S z, z)) (cb := b) (ed_var rfl) (ed_var rfl) (ed_var rfl) ⟨har, hb1.1, hz4, hb1.2⟩)) (c := better g (stArea S z, z) b) rfl) (fun h => sd_imp (sd_set (ed_var rfl)) fun e' he => ⟨hnew, ?_⟩) (fun h => sd_next ⟨hnew, ?_⟩)
        · rw [he]
          unfold best
          dsimp only
          rw [if_pos h]
          exact ⟨_, _, rfl⟩
        · unfold best
          dsimp only
          rw [if_neg (by rw [h]; decide)]
          exact ⟨_, _, rfl⟩
    · obtain ⟨k1, k2, rfl⟩ := hq
      exact sd_retD (ed_var rfl)
def R_least_below (ds : List PyData) (d : PyData) : Prop := ∃ (S : List P2) (p : P2), (Plate S ∧ HvOk S p ∧ ∀ i, i < S.length → 0 < tri (cn S i) (cn S (i + 1)) p) ∧ ds = [encS S, encP p] ∧ d = encB (extreme S p true)
theorem c_least_below {t0 t1 : TE} {e0 e1 e2 : List EK} {S : List P2} {p : P2} (a0 : ED K t0 e0 (encS S) e1) (a1 : ED K t1 e1 (encP p) e2) (hp : Plate S ∧ HvOk S p ∧ ∀ i, i < S.length → 0 < tri (cn S i) (cn S (i + 1)) p) : ED K (tCall (spP K R_least_below) [] E0 (tCons t0 (tCons t1 tNil))) e0 (encB (extreme S p true)) e2 := ed_call (ad_cons a0 (ad_cons a1 ad_nil)) ⟨S, p, hp, rfl, rfl⟩
abbrev DD_least_below (P : Program) (w : World) (K : Frag) (mg : Str → Option Value) (base : Heap) : Prop := Def P w K mg base 10 "least_below" ["section", "point"] (spP K R_least_below)
theorem ok_least_below (T : Top K mg) (D_extreme_below : DD_extreme_below P w K mg base) (D_check_inner : DD_check_inner P w K mg base) : DD_least_below P w K mg base := by
  obtain ⟨f, fd, F, hm⟩ := T.df "least_below" 82 (by decide +kernel)
  have sc : FnScope ["section", "point"] ["section", "point"] (defScope (top 82)) := ⟨rfl, rfl, rfl, by decide +kernel, rfl, by decide +kernel, by decide +kernel⟩
  refine def_of F hm sc (fun ds d h => ?_) (fun _ _ _ _ _ _ us hl => match us, hl with | [_, _], _ => rfl) (fun cdv A outer s H E ds d hr h => ?_)
  · obtain ⟨S, p, hp, rfl, rfl⟩ := h
    rfl
  · obtain ⟨S, p, hp, rfl, rfl⟩ := h
    have hr8 := hr.mono (j := 8) (by decide)
    have hr9 := hr.mono (j := 9) (by decide)
    refine ⟨_, (pss_cons (ps_expr (pe_def D_check_inner hr8 (by rfl) (pa_cons (pv 0) (pa_cons (pv 1) pa_nil))))
      (pss_one (ps_ret (pe_def D_extreme_below hr9 (by rfl) (pa_cons (pv 0) (pa_cons (pv 1) (pa_cons pe_bl pa_nil))))))), ?_⟩
    show SD K _ [.imm _, .imm _] _ _ _ _
    refine sd_then (sd_drop (c_check_inner (ed_var rfl) (ed_var rfl) ?r1)) (
    sd_retD (ed_is (c_extreme_below (ed_var rfl) (ed_var rfl) ed_bl ?r2) ?q3))
    case r1 => exact ⟨hp.1, hp.2.1.pm.mono (by decide), hp.2.2⟩
    case r2 => exact hp.2.1
    case q3 => rfl
def R_greatest_below (ds : List PyData) (d : PyData) : Prop := ∃ (S : List P2) (p : P2), (Plate S ∧ HvOk S p ∧ ∀ i, i < S.length → 0 < tri (cn S i) (cn S (i + 1)) p) ∧ ds = [encS S, encP p] ∧ d = encB (extreme S p false)
theorem c_greatest_below {t0 t1 : TE} {e0 e1 e2 : List EK} {S : List P2} {p : P2} (a0 : ED K t0 e0 (encS S) e1) (a1 : ED K t1 e1 (encP p) e2) (hp : Plate S ∧ HvOk S p ∧ ∀ i, i < S.length → 0 < tri (cn S i) (cn S (i + 1)) p) : ED K (tCall (spP K R_greatest_below) [] E0 (tCons t0 (tCons t1 tNil))) e0 (encB (extreme S p false)) e2 := ed_call (ad_cons a0 (ad_cons a1 ad_nil)) ⟨S, p, hp, rfl, rfl⟩
abbrev DD_greatest_below (P : Program) (w : World) (K : Frag) (mg : Str → Option Value) (base : Heap) : Prop := Def P w K mg base 10 "greatest_below" ["section", "point"] (spP K R_greatest_below)
theorem ok_greatest_below (T : Top K mg) (D_extreme_below : DD_extreme_below P w K mg base) (D_check_inner : DD_check_inner P w K mg base) : DD_greatest_below P w K mg base := by
  obtain ⟨f, fd, F, hm⟩ := T.df "greatest_below" 83 (by decide +kernel)
  have sc : FnScope ["section", "point"] ["section", "point"] (defScope (top 83)) := ⟨rfl, rfl, rfl, by decide +kernel, rfl, by decide +kernel, by decide +kernel⟩
  refine def_of F hm sc (fun ds d h => ?_) (fun _ _ _ _ _ _ us hl => match us, hl with | [_, _], _ => rfl) (fun cdv A outer s H E ds d hr h => ?_)
  · obtain ⟨S, p, hp, rfl, rfl⟩ := h
    rfl
  · obtain ⟨S, p, hp, rfl, rfl⟩ := h
    have hr8 := hr.mono (j := 8) (by decide)
    have hr9 := hr.mono (j := 9) (by decide)
    refine ⟨_, (pss_cons (ps_expr (pe_def D_check_inner hr8 (by rfl) (pa_cons (pv 0) (pa_cons (pv 1) pa_nil))))
      (pss_one (ps_ret (pe_def D_extreme_below hr9 (by rfl) (pa_cons (pv 0) (pa_cons (pv 1) (pa_cons pe_bl pa_nil))))))), ?_⟩
    show SD K _ [.imm _, .imm _] _ _ _ _
    refine sd_then (sd_drop (c_check_inner (ed_var rfl) (ed_var rfl) ?r1)) (
    sd_retD (ed_is (c_extreme_below (ed_var rfl) (ed_var rfl) ed_bl ?r2) ?q3))
    case r1 => exact ⟨hp.1, hp.2.1.pm.mono (by decide), hp.2.2⟩
    case r2 => exact hp.2.1
    case q3 => rfl
end
end Hull
namespace Hull
open PySem PySem.Spec PyProof.Rows L2
section
variable {P : Program} {w : World} {K : Frag} {mg : Str → Option Value} {base : Heap}
theorem abs_nat (n : Int) : (if n < 0 then -n else n) = ((n.natAbs : Nat) : Int) := by split <;> omega
def R__law_gcd (ds : List PyData) (d : PyData) : Prop := ∃ (n : Int) (m : Int), (True) ∧ ds = [.int n, .int m] ∧ d = .int (Nat.gcd n.natAbs m.natAbs : Nat)
theorem c__law_gcd {t0 t1 : TE} {e0 e1 e2 : List EK} {n : Int} {m : Int} (a0 : ED K t0 e0 (.int n) e1) (a1 : ED K t1 e1 (.int m) e2) (hp : True) : ED K (tCall (spP K R__law_gcd) [] E0 (tCons t0 (tCons t1 tNil))) e0 (.int (Nat.gcd n.natAbs m.natAbs : Nat)) e2 := ed_call (ad_cons a0 (ad_cons a1 ad_nil)) ⟨n, m, hp, rfl, rfl⟩
abbrev DD__law_gcd (P : Program) (w : World) (K : Frag) (mg : Str → Option Value) (base : Heap) : Prop := Def P w K mg base 1 "_law_gcd" ["_law_one", "_law_two"] (spP K R__law_gcd)
theorem ok__law_gcd (T : Top K mg)  : DD__law_gcd P w K mg base := by
  obtain ⟨f, fd, F, hm⟩ := T.df "_law_gcd" 95 (by decide +kernel)
  have sc : FnScope ["_law_one", "_law_two"] ["_law_one", "_law_two"] (defScope (top 95)) := ⟨rfl, rfl, rfl, by decide +kernel, rfl, by decide +kernel, by decide +kernel⟩
  have m_int := T.fr "int" (by decide +kernel)
  have m_abs := T.fr "abs" (by decide +kernel)
  refine def_of F hm sc (fun ds d h => ?_) (fun _ _ _ _ _ _ us hl => match us, hl with | [_, _], _ => rfl) (fun cdv A outer s H E ds d hr h => ?_)
  · obtain ⟨n, m, hp, rfl, rfl⟩ := h
    rfl
  · obtain ⟨n, m, hp, rfl, rfl⟩ := h
    refine ⟨_, (pss_cons (ps_par (i := 0) (j := 1) rfl sc.nd rfl rfl (by decide) rfl rfl (pa_cons (pe_callB call_abs (by rfl) m_abs bt_abs (pa_cons (pv 0) pa_nil)) (pa_cons (pe_callB call_abs (by rfl) m_abs bt_abs (pa_cons (pv 1) pa_nil)) pa_nil)) rfl)
      (pss_cons (ps_while PassesOwn.never (pt_cmpR op_gt (pv 1) pe_int (nomark _)) (pss_one (ps_par (i := 0) (j := 1) rfl sc.nd rfl rfl (by decide) rfl rfl (pa_cons (pv 1) (pa_cons (pe_op op_mod (pe_callTy call_int1 (by rfl) m_int bt_int (pa_cons (pv 0) pa_nil)) (pv 1)) pa_nil)) rfl)))
      (pss_one (ps_ret (pv 0))))), ?_⟩
    show SD K _ [.imm _, .imm _] _ _ _ _
    refine sd_then (e1 := [.imm (encN n.natAbs), .imm (encN m.natAbs)]) (sd_par (ad_cons (ed_eq (ed_abs (ed_var rfl)) (by rw [abs_nat])) (ad_cons (ed_eq (ed_abs (ed_var rfl)) (by rw [abs_nat])) ad_nil))) (
      sd_seq (N := fun e => e = [.imm (encN (Nat.gcd n.natAbs m.natAbs)), .imm (encN 0)])
        (sd_while (fun b e => ∃ a, Nat.gcd a b = Nat.gcd n.natAbs m.natAbs ∧ e = [.imm (encN a), .imm (encN b)]) m.natAbs ⟨n.natAbs, rfl, rfl⟩ (fun b e' hI => ?_)) (fun e hz => ?_))
    · obtain ⟨a, hg, rfl⟩ := hI
      refine ⟨_, _, td_test (ed_gt (ed_var rfl) ed_int), fun h => ?_, fun h => ?_⟩
      · have h : (0 : Int) < ((b : Nat) : Int) := of_decide_eq_true h
        refine sd_imp (sd_par (ad_cons (ed_var rfl) (ad_cons (ed_mod (ed_intC (ed_var rfl)) (ed_var rfl) h) ad_nil))) fun e' he => ⟨a % b, Nat.mod_lt _ (by omega), b, ?_, ?_⟩
        · rw [← hg, Nat.gcd_comm b, ← Nat.gcd_rec, Nat.gcd_comm]
        · rw [he]
          show [EK.imm (.int (b : Int)), EK.imm (.int ((a : Int) % (b : Int)))] = _
          rw [← Int.natCast_emod]
      · have h : ¬ (0 : Int) < ((b : Nat) : Int) := of_decide_eq_false h
        have hb : b = 0 := by omega
        subst hb
        rw [← hg, Nat.gcd_zero_right]
    · subst hz
      exact sd_retD (ed_var rfl)
def cutL (ns : List Int) : List Int := if 1 < gcdN ns then ns.map fun n => n.fdiv ((gcdN ns : Nat) : Int) else ns
theorem cutL_eq {ns : List Int} (h : 0 < gcdN ns) : cutL ns = ns.map fun n => n.fdiv ((gcdN ns : Nat) : Int) := by
  unfold cutL
  split
  · rfl
  · rw [show gcdN ns = 1 by omega]
    conv => lhs; rw [← List.map_id ns]
    refine List.map_congr_left fun n _ => ?_
    show n = n.fdiv 1
    rw [Int.fdiv_one]
def R__law_cut (ds : List PyData) (d : PyData) : Prop := ∃ (ns : List Int), (ns.length ≤ 1000 ∧ B 8200 (gcdN ns : Nat)) ∧ ds = [.tuple (ns.map .int)] ∧ d = .tuple ((cutL ns).map .int)
theorem c__law_cut {t0 : TE} {e0 e1 : List EK} {ns : List Int} (a0 : ED K t0 e0 (.tuple (ns.map .int)) e1) (hp : ns.length ≤ 1000 ∧ B 8200 (gcdN ns : Nat)) : ED K (tCall (spP K R__law_cut) [] E0 (tCons t0 tNil)) e0 (.tuple ((cutL ns).map .int)) e1 := ed_call (ad_cons a0 ad_nil) ⟨ns, hp, rfl, rfl⟩
abbrev DD__law_cut (P : Program) (w : World) (K : Frag) (mg : Str → Option Value) (base : Heap) : Prop := Def P w K mg base 2 "_law_cut" ["_law_numbers"] (spP K R__law_cut)
theorem ok__law_cut (T : Top K mg) (D__law_gcd : DD__law_gcd P w K mg base) : DD__law_cut P w K mg base := by
  obtain ⟨f, fd, F, hm⟩ := T.df "_law_cut" 96 (by decide +kernel)
  have sc : FnScope ["_law_numbers", "_law_common", "_law_each"] ["_law_numbers"] (defScope (top 96)) := ⟨rfl, rfl, rfl, by decide +kernel, rfl, by decide +kernel, by decide +kernel⟩
  have m_tuple := T.fr "tuple" (by decide +kernel)
  refine def_of F hm sc (fun ds d h => ?_) (fun _ _ _ _ _ _ us hl => match us, hl with | [_], _ => rfl) (fun cdv A outer s H E ds d hr h => ?_)
  · obtain ⟨ns, hp, rfl, rfl⟩ := h
    rfl
  · obtain ⟨ns, hp, rfl, rfl⟩ := h
    have hr1 := hr.mono (j := 1) (by decide)
    refine ⟨_, (pss_cons (ps_set (i := 1) sc.nd rfl (Or.inr rfl) pe_int)
      (pss_cons (ps_for PassesOwn.never rfl (pi_seq (pv 0)) (pg_name (i := 2) sc.nd rfl (Or.inl rfl)) (pss_one (ps_set (i := 1) sc.nd rfl (Or.inr rfl) (pe_ifExp (pt_cmpR op_ne (pv 1) pe_int (nomark _)) (pe_def D__law_gcd hr1 (by rfl) (pa_cons (pv 1) (pa_cons (pv 2) pa_nil))) pe_int))))
      (pss_one (ps_ret (pe_ifExp (pt_cmpR op_gt (pv 1) pe_int (nomark _)) (pe_callTy call_tuple_of (by rfl) m_tuple bt_tuple (pa_cons (pe_lc (own := [("_law_each", 2)]) rfl sc.nd (pi_seq (pv 0)) (blkOk_by (own := [("_law_each", 2)]) (N := ["_law_numbers", "_law_common", "_law_each"]) (sc := defScope (top 96)) (by decide +kernel)) (fun _ _ _ _ _ => (pg_name (i := 2) sc.nd rfl (Or.inl rfl))) (fun _ _ _ _ _ => pts_nil) (fun _ _ _ _ _ => (pe_op op_fdivX (pv 2) (pv 1)))) pa_nil)) (pe_callTy call_tuple_of (by rfl) m_tuple bt_tuple (pa_cons (pv 0) pa_nil))))))), ?_⟩
    show SD K _ [.imm _, .any, .any] _ _ _ _
    refine sd_then (e1 := [.imm (.tuple (ns.map .int)), .imm (.int 0), .any]) (sd_set ed_int) (
      sd_seq (N := fun e => ∃ k, e = [.imm (.tuple (ns.map .int)), .imm (.int (gcdN ns : Int)), k])
        (sd_forM (fun pre e => ∃ k, e = [.imm (.tuple (ns.map .int)), .imm (.int (gcdN pre : Int)), k]) (id_seqT (ed_var rfl)) ⟨.any, rfl⟩ (fun pre x post e' hs hI => ?_) (fun e' hI => hI)) (fun e hz => ?_))
    · obtain ⟨k, rfl⟩ := hI
      refine ⟨_, _, gd_name, sd_imp (sd_set (ed_if (d := .int ((gcdN (pre ++ [x]) : Nat) : Int)) (td_test (ed_neI (ed_var rfl) ed_int)) (fun h => ed_is (c__law_gcd (ed_var rfl) (ed_var rfl) trivial) ?_) (fun h => ed_is ed_int ?_))) fun e' he => ⟨.imm (.int x), ?_⟩⟩
      · rw [gcdN_app, Int.natAbs_natCast]
      · have h : ((gcdN pre : Nat) : Int) = 1 := by simpa using h
        rw [gcdN_app, show gcdN pre = 1 by omega, Nat.gcd_one_left]
        rfl
      · rw [he]
        rfl
    · obtain ⟨k, rfl⟩ := hz
      refine sd_wk (e1 := [.imm (.tuple (ns.map .int)), .imm (.int (gcdN ns : Int)), .any]) (sd_retD (ed_if (d := .tuple ((cutL ns).map .int)) (td_test (ed_gt (ed_var rfl) ed_int)) (fun h => ed_is (ed_tupOf (ed_lcM (h := fun n : Int => PyData.int (n.fdiv ((gcdN ns : Nat) : Int))) (id_seqT (ed_var rfl)) (by rfl) hp.1 fun n hn => ⟨_, [2], fun j h => h, gd_name, ed_fdiv (ed_var rfl) (ed_var rfl) ?_⟩)) ?_) (fun h => ed_is (ed_tupOfT2 (ed_var rfl)) ?_))) ⟨.inr rfl, .inr rfl, .inl rfl, trivial⟩
      · have h : (1 : Int) < ((gcdN ns : Nat) : Int) := of_decide_eq_true h
        exact dv (by omega) hp.2 (by decide) (by decide)
      · have h : (1 : Int) < ((gcdN ns : Nat) : Int) := of_decide_eq_true h
        unfold cutL
        rw [if_pos (by omega), List.map_map]
        rfl
      · have h : ¬ (1 : Int) < ((gcdN ns : Nat) : Int) := of_decide_eq_false h
        unfold cutL
        rw [if_neg (by omega)]
theorem cut_rat {n m : Int} (hm : 0 < m) : cutL [n, m] = [((n : Rat) / (m : Rat)).num, (((n : Rat) / (m : Rat)).den : Int)] := by
  have hg : 0 < gcdN [n, m] := by rw [gcdN2]; exact Nat.gcd_pos_of_pos_right _ (by omega)
  have e : partOf (gcdN [n, m]) m = ((gcdN [n, m] : Nat) : Int) := if_pos hm
  rw [cutL_eq hg, ← rat_num n m (by omega), ← rat_den n m (by omega), e]
  rfl
theorem cut_pt {x y w : Int} (hw : 0 < w) : cutL [x, y, w] = [(⟨(x : Rat) / (w : Rat), (y : Rat) / (w : Rat)⟩ : P2).X, (⟨(x : Rat) / (w : Rat), (y : Rat) / (w : Rat)⟩ : P2).Y, ((⟨(x : Rat) / (w : Rat), (y : Rat) / (w : Rat)⟩ : P2).W : Int)] := by
  have hg : 0 < gcdN [x, y, w] := by rw [gcdN3]; exact Nat.gcd_pos_of_pos_right _ (by omega)
  have e : partOf (gcdN [x, y, w]) w = ((gcdN [x, y, w] : Nat) : Int) := if_pos hw
  obtain ⟨h1, h2, h3⟩ := pt_all x y w (by omega)
  rw [e] at h1 h2 h3
  rw [cutL_eq hg, ← h1, ← h2, ← h3]
  rfl
theorem gcd_B2 {n m : Int} (hm : 0 < m) (h : B 8200 m) : B 8200 ((gcdN [n, m] : Nat) : Int) := by
  refine h.le ?_
  rw [Int.natAbs_natCast, gcdN2]
  exact Nat.le_of_dvd (by omega) (Nat.gcd_dvd_right _ _)
theorem gcd_B3 {n k m : Int} (hm : 0 < m) (h : B 8200 m) : B 8200 ((gcdN [n, k, m] : Nat) : Int) := by
  refine h.le ?_
  rw [Int.natAbs_natCast, gcdN3]
  exact Nat.le_of_dvd (by omega) (Nat.gcd_dvd_right _ _)
theorem c_cut2 {K : Frag} {te : TE} {e e1 : List EK} {n m : Int} {q : Rat} (h : ED K te e (.tuple [.int n, .int m]) e1) (hm : 0 < m) (hb : B 8200 m) (hq : (n : Rat) / (m : Rat) = q) : ED K (tCall (spP K R__law_cut) [] E0 (tCons te tNil)) e (encR q) e1 := by
  have := c__law_cut (ns := [n, m]) h ⟨by simp, gcd_B2 hm hb⟩
  rw [cut_rat hm, hq] at this
  exact this
theorem c_cut3 {K : Frag} {te : TE} {e e1 : List EK} {x y w : Int} {q : P2} (h : ED K te e (.tuple [.int x, .int y, .int w]) e1) (hm : 0 < w) (hb : B 8200 w) (hq : (⟨(x : Rat) / (w : Rat), (y : Rat) / (w : Rat)⟩ : P2) = q) : ED K (tCall (spP K R__law_cut) [] E0 (tCons te tNil)) e (encP q) e1 := by
  have := c__law_cut (ns := [x, y, w]) h ⟨by simp, gcd_B3 hm hb⟩
  rw [cut_pt hm, hq] at this
  exact this
theorem dpos (q : Rat) : (0 : Int) < (q.den : Int) := by have := q.den_pos; omega
theorem wpos (p : P2) : (0 : Int) < (p.W : Int) := by have := W_pos p; omega
theorem rat_flip (n m : Int) : ((0 - n : Int) : Rat) / ((0 - m : Int) : Rat) = (n : Rat) / (m : Rat) := by
  rw [Int.zero_sub, Int.zero_sub, Rat.intCast_neg, Rat.intCast_neg]
  by_cases h : (m : Rat) = 0
  · rw [h, Rat.neg_zero, Rat.div_def, Rat.div_def, Rat.inv_zero, Rat.mul_zero, Rat.mul_zero]
  · grind
def R__law_part (ds : List PyData) (d : PyData) : Prop := ∃ (n : Int) (m : Int), (m ≠ 0 ∧ B 8200 m) ∧ ds = [.int n, .int m] ∧ d = encR ((n : Rat) / (m : Rat))
theorem c__law_part {t0 t1 : TE} {e0 e1 e2 : List EK} {n : Int} {m : Int} (a0 : ED K t0 e0 (.int n) e1) (a1 : ED K t1 e1 (.int m) e2) (hp : m ≠ 0 ∧ B 8200 m) : ED K (tCall (spP K R__law_part) [] E0 (tCons t0 (tCons t1 tNil))) e0 (encR ((n : Rat) / (m : Rat))) e2 := ed_call (ad_cons a0 (ad_cons a1 ad_nil)) ⟨n, m, hp, rfl, rfl⟩
abbrev DD__law_part (P : Program) (w : World) (K : Frag) (mg : Str → Option Value) (base : Heap) : Prop := Def P w K mg base 3 "_law_part" ["_law_top", "_law_deep"] (spP K R__law_part)
theorem ok__law_part (T : Top K mg) (D__law_cut : DD__law_cut P w K mg base) : DD__law_part P w K mg base := by
  obtain ⟨f, fd, F, hm⟩ := T.df "_law_part" 97 (by decide +kernel)
  have sc : FnScope ["_law_top", "_law_deep"] ["_law_top", "_law_deep"] (defScope (top 97)) := ⟨rfl, rfl, rfl, by decide +kernel, rfl, by decide +kernel, by decide +kernel⟩
  refine def_of F hm sc (fun ds d h => ?_) (fun _ _ _ _ _ _ us hl => match us, hl with | [_, _], _ => rfl) (fun cdv A outer s H E ds d hr h => ?_)
  · obtain ⟨n, m, hp, rfl, rfl⟩ := h
    rfl
  · obtain ⟨n, m, hp, rfl, rfl⟩ := h
    have hr2 := hr.mono (j := 2) (by decide)
    refine ⟨_, (pss_one (ps_ret (pe_def D__law_cut hr2 (by rfl) (pa_cons (pe_ifExp (pt_cmpR op_gt (pv 1) pe_int (nomark _)) (pe_tup (pa_cons (pv 0) (pa_cons (pv 1) pa_nil))) (pe_tup (pa_cons (pe_op op_sub pe_int (pv 0)) (pa_cons (pe_op op_sub pe_int (pv 1)) pa_nil)))) pa_nil)))), ?_⟩
    show SD K _ [.imm _, .imm _] _ _ _ _
    by_cases hm : 0 < m
    · exact sd_retD (c_cut2 (ed_if (td_test (ed_gt (ed_var rfl) ed_int)) (fun h => ed_tup (ad_cons (ed_var rfl) (ad_cons (ed_var rfl) ad_nil))) (fun h => absurd hm (of_decide_eq_false h))) hm hp.2 rfl)
    · exact sd_retD (c_cut2 (ed_if (td_test (ed_gt (ed_var rfl) ed_int)) (fun h => absurd (of_decide_eq_true h) hm) (fun h => ed_tup (ad_cons (ed_sub ed_int (ed_var rfl)) (ad_cons (ed_sub ed_int (ed_var rfl)) ad_nil)))) (by have := hp.1; omega) (by rw [Int.zero_sub]; exact hp.2.neg) (rat_flip n m))
def R__law_plus (ds : List PyData) (d : PyData) : Prop := ∃ (p : Rat) (q : Rat), (Sm 4000 p ∧ Sm 4000 q) ∧ ds = [encR p, encR q] ∧ d = encR (p + q)
theorem c__law_plus {t0 t1 : TE} {e0 e1 e2 : List EK} {p : Rat} {q : Rat} (a0 : ED K t0 e0 (encR p) e1) (a1 : ED K t1 e1 (encR q) e2) (hp : Sm 4000 p ∧ Sm 4000 q) : ED K (tCall (spP K R__law_plus) [] E0 (tCons t0 (tCons t1 tNil))) e0 (encR (p + q)) e2 := ed_call (ad_cons a0 (ad_cons a1 ad_nil)) ⟨p, q, hp, rfl, rfl⟩
abbrev DD__law_plus (P : Program) (w : World) (K : Frag) (mg : Str → Option Value) (base : Heap) : Prop := Def P w K mg base 4 "_law_plus" ["_law_one", "_law_two"] (spP K R__law_plus)
theorem ok__law_plus (T : Top K mg) (D__law_part : DD__law_part P w K mg base) : DD__law_plus P w K mg base := by
  obtain ⟨f, fd, F, hm⟩ := T.df "_law_plus" 98 (by decide +kernel)
  have sc : FnScope ["_law_one", "_law_two"] ["_law_one", "_law_two"] (defScope (top 98)) := ⟨rfl, rfl, rfl, by decide +kernel, rfl, by decide +kernel, by decide +kernel⟩
  refine def_of F hm sc (fun ds d h => ?_) (fun _ _ _ _ _ _ us hl => match us, hl with | [_, _], _ => rfl) (fun cdv A outer s H E ds d hr h => ?_)
  · obtain ⟨p, q, hp, rfl, rfl⟩ := h
    rfl
  · obtain ⟨p, q, hp, rfl, rfl⟩ := h
    have hr3 := hr.mono (j := 3) (by decide)
    refine ⟨_, (pss_one (ps_ret (pe_def D__law_part hr3 (by rfl) (pa_cons (pe_op op_add (pe_op op_mulW (pe_ix (r := rIx K) ix_seq (pv 0) pe_int (fun _ _ => rfl)) (pe_ix (r := rIx K) ix_seq (pv 1) pe_int (fun _ _ => rfl))) (pe_op op_mulW (pe_ix (r := rIx K) ix_seq (pv 1) pe_int (fun _ _ => rfl)) (pe_ix (r := rIx K) ix_seq (pv 0) pe_int (fun _ _ => rfl)))) (pa_cons (pe_op op_mulW (pe_ix (r := rIx K) ix_seq (pv 0) pe_int (fun _ _ => rfl)) (pe_ix (r := rIx K) ix_seq (pv 1) pe_int (fun _ _ => rfl))) pa_nil))))), ?_⟩
    show SD K _ [.imm _, .imm _] _ _ _ _
    refine sd_retD (ed_is (c__law_part (ed_add (ed_mul (ed_ixT (ed_var rfl) ed_int at0) (ed_ixT (ed_var rfl) ed_int at1) (cm hp.1.n hp.2.d (by decide) (by decide) (by decide))) (ed_mul (ed_ixT (ed_var rfl) ed_int at0) (ed_ixT (ed_var rfl) ed_int at1) (cm hp.2.n hp.1.d (by decide) (by decide) (by decide)))) (ed_mul (ed_ixT (ed_var rfl) ed_int at1) (ed_ixT (ed_var rfl) ed_int at1) (cm hp.1.d hp.2.d (by decide) (by decide) (by decide))) ?r1) ?q2)
    case r1 => exact ⟨ii (den_ne' p) (den_ne' q), (B.mul hp.1.d hp.2.d).mono (by decide)⟩
    case q2 => rw [rat_add]
def R__law_less (ds : List PyData) (d : PyData) : Prop := ∃ (p : Rat) (q : Rat), (Sm 4000 p ∧ Sm 4000 q) ∧ ds = [encR p, encR q] ∧ d = encR (p - q)
theorem c__law_less {t0 t1 : TE} {e0 e1 e2 : List EK} {p : Rat} {q : Rat} (a0 : ED K t0 e0 (encR p) e1) (a1 : ED K t1 e1 (encR q) e2) (hp : Sm 4000 p ∧ Sm 4000 q) : ED K (tCall (spP K R__law_less) [] E0 (tCons t0 (tCons t1 tNil))) e0 (encR (p - q)) e2 := ed_call (ad_cons a0 (ad_cons a1 ad_nil)) ⟨p, q, hp, rfl, rfl⟩
abbrev DD__law_less (P : Program) (w : World) (K : Frag) (mg : Str → Option Value) (base : Heap) : Prop := Def P w K mg base 4 "_law_less" ["_law_one", "_law_two"] (spP K R__law_less)
theorem ok__law_less (T : Top K mg) (D__law_part : DD__law_part P w K mg base) : DD__law_less P w K mg base := by
  obtain ⟨f, fd, F, hm⟩ := T.df "_law_less" 99 (by decide +kernel)
  have sc : FnScope ["_law_one", "_law_two"] ["_law_one", "_law_two"] (defScope (top 99)) := ⟨rfl, rfl, rfl, by decide +kernel, rfl, by decide +kernel, by decide +kernel⟩
  refine def_of F hm sc (fun ds d h => ?_) (fun _ _ _ _ _ _ us hl => match us, hl with | [_, _], _ => rfl) (fun cdv A outer s H E ds d hr h => ?_)
  · obtain ⟨p, q, hp, rfl, rfl⟩ := h
    rfl
  · obtain ⟨p, q, hp, rfl, rfl⟩ := h
    have hr3 := hr.mono (j := 3) (by decide)
    refine ⟨_, (pss_one (ps_ret (pe_def D__law_part hr3 (by rfl) (pa_cons (pe_op op_sub (pe_op op_mulW (pe_ix (r := rIx K) ix_seq (pv 0) pe_int (fun _ _ => rfl)) (pe_ix (r := rIx K) ix_seq (pv 1) pe_int (fun _ _ => rfl))) (pe_op op_mulW (pe_ix (r := rIx K) ix_seq (pv 1) pe_int (fun _ _ => rfl)) (pe_ix (r := rIx K) ix_seq (pv 0) pe_int (fun _ _ => rfl)))) (pa_cons (pe_op op_mulW (pe_ix (r := rIx K) ix_seq (pv 0) pe_int (fun _ _ => rfl)) (pe_ix (r := rIx K) ix_seq (pv 1) pe_int (fun _ _ => rfl))) pa_nil))))), ?_⟩
    show SD K _ [.imm _, .imm _] _ _ _ _
    refine sd_retD (ed_is (c__law_part (ed_sub (ed_mul (ed_ixT (ed_var rfl) ed_int at0) (ed_ixT (ed_var rfl) ed_int at1) (cm hp.1.n hp.2.d (by decide) (by decide) (by decide))) (ed_mul (ed_ixT (ed_var rfl) ed_int at0) (ed_ixT (ed_var rfl) ed_int at1) (cm hp.2.n hp.1.d (by decide) (by decide) (by decide)))) (ed_mul (ed_ixT (ed_var rfl) ed_int at1) (ed_ixT (ed_var rfl) ed_int at1) (cm hp.1.d hp.2.d (by decide) (by decide) (by decide))) ?r1) ?q2)
    case r1 => exact ⟨ii (den_ne' p) (den_ne' q), (B.mul hp.1.d hp.2.d).mono (by decide)⟩
    case q2 => rw [rat_sub]
def R__law_mul (ds : List PyData) (d : PyData) : Prop := ∃ (p : Rat) (q : Rat), (Sm 4000 p ∧ Sm 4000 q) ∧ ds = [encR p, encR q] ∧ d = encR (p * q)
theorem c__law_mul {t0 t1 : TE} {e0 e1 e2 : List EK} {p : Rat} {q : Rat} (a0 : ED K t0 e0 (encR p) e1) (a1 : ED K t1 e1 (encR q) e2) (hp : Sm 4000 p ∧ Sm 4000 q) : ED K (tCall (spP K R__law_mul) [] E0 (tCons t0 (tCons t1 tNil))) e0 (encR (p * q)) e2 := ed_call (ad_cons a0 (ad_cons a1 ad_nil)) ⟨p, q, hp, rfl, rfl⟩
abbrev DD__law_mul (P : Program) (w : World) (K : Frag) (mg : Str → Option Value) (base : Heap) : Prop := Def P w K mg base 4 "_law_mul" ["_law_one", "_law_two"] (spP K R__law_mul)
theorem ok__law_mul (T : Top K mg) (D__law_part : DD__law_part P w K mg base) : DD__law_mul P w K mg base := by
  obtain ⟨f, fd, F, hm⟩ := T.df "_law_mul" 100 (by decide +kernel)
  have sc : FnScope ["_law_one", "_law_two"] ["_law_one", "_law_two"] (defScope (top 100)) := ⟨rfl, rfl, rfl, by decide +kernel, rfl, by decide +kernel, by decide +kernel⟩
  refine def_of F hm sc (fun ds d h => ?_) (fun _ _ _ _ _ _ us hl => match us, hl with | [_, _], _ => rfl) (fun cdv A outer s H E ds d hr h => ?_)
  · obtain ⟨p, q, hp, rfl, rfl⟩ := h
    rfl
  · obtain ⟨p, q, hp, rfl, rfl⟩ := h
    have hr3 := hr.mono (j := 3) (by decide)
    refine ⟨_, (pss_one (ps_ret (pe_def D__law_part hr3 (by rfl) (pa_cons (pe_op op_mulW (pe_ix (r := rIx K) ix_seq (pv 0) pe_int (fun _ _ => rfl)) (pe_ix (r := rIx K) ix_seq (pv 1) pe_int (fun _ _ => rfl))) (pa_cons (pe_op op_mulW (pe_ix (r := rIx K) ix_seq (pv 0) pe_int (fun _ _ => rfl)) (pe_ix (r := rIx K) ix_seq (pv 1) pe_int (fun _ _ => rfl))) pa_nil))))), ?_⟩
    show SD K _ [.imm _, .imm _] _ _ _ _
    refine sd_retD (ed_is (c__law_part (ed_mul (ed_ixT (ed_var rfl) ed_int at0) (ed_ixT (ed_var rfl) ed_int at0) (cm hp.1.n hp.2.n (by decide) (by decide) (by decide))) (ed_mul (ed_ixT (ed_var rfl) ed_int at1) (ed_ixT (ed_var rfl) ed_int at1) (cm hp.1.d hp.2.d (by decide) (by decide) (by decide))) ?r1) ?q2)
    case r1 => exact ⟨ii (den_ne' p) (den_ne' q), (B.mul hp.1.d hp.2.d).mono (by decide)⟩
    case q2 => rw [rat_mul]
def R__law_over (ds : List PyData) (d : PyData) : Prop := ∃ (p : Rat) (q : Rat), (Sm 4000 p ∧ Sm 4000 q ∧ q ≠ 0) ∧ ds = [encR p, encR q] ∧ d = encR (p / q)
theorem c__law_over {t0 t1 : TE} {e0 e1 e2 : List EK} {p : Rat} {q : Rat} (a0 : ED K t0 e0 (encR p) e1) (a1 : ED K t1 e1 (encR q) e2) (hp : Sm 4000 p ∧ Sm 4000 q ∧ q ≠ 0) : ED K (tCall (spP K R__law_over) [] E0 (tCons t0 (tCons t1 tNil))) e0 (encR (p / q)) e2 := ed_call (ad_cons a0 (ad_cons a1 ad_nil)) ⟨p, q, hp, rfl, rfl⟩
abbrev DD__law_over (P : Program) (w : World) (K : Frag) (mg : Str → Option Value) (base : Heap) : Prop := Def P w K mg base 4 "_law_over" ["_law_one", "_law_two"] (spP K R__law_over)
theorem ok__law_over (T : Top K mg) (D__law_part : DD__law_part P w K mg base) : DD__law_over P w K mg base := by
  obtain ⟨f, fd, F, hm⟩ := T.df "_law_over" 101 (by decide +kernel)
  have sc : FnScope ["_law_one", "_law_two"] ["_law_one", "_law_two"] (defScope (top 101)) := ⟨rfl, rfl, rfl, by decide +kernel, rfl, by decide +kernel, by decide +kernel⟩
  refine def_of F hm sc (fun ds d h => ?_) (fun _ _ _ _ _ _ us hl => match us, hl with | [_, _], _ => rfl) (fun cdv A outer s H E ds d hr h => ?_)
  · obtain ⟨p, q, hp, rfl, rfl⟩ := h
    rfl
  · obtain ⟨p, q, hp, rfl, rfl⟩ := h
    have hr3 := hr.mono (j := 3) (by decide)
    refine ⟨_, (pss_one (ps_ret (pe_def D__law_part hr3 (by rfl) (pa_cons (pe_op op_mulW (pe_ix (r := rIx K) ix_seq (pv 0) pe_int (fun _ _ => rfl)) (pe_ix (r := rIx K) ix_seq (pv 1) pe_int (fun _ _ => rfl))) (pa_cons (pe_op op_mulW (pe_ix (r := rIx K) ix_seq (pv 0) pe_int (fun _ _ => rfl)) (pe_ix (r := rIx K) ix_seq (pv 1) pe_int (fun _ _ => rfl))) pa_nil))))), ?_⟩
    show SD K _ [.imm _, .imm _] _ _ _ _
    refine sd_retD (ed_is (c__law_part (ed_mul (ed_ixT (ed_var rfl) ed_int at0) (ed_ixT (ed_var rfl) ed_int at1) (cm hp.1.n hp.2.1.d (by decide) (by decide) (by decide))) (ed_mul (ed_ixT (ed_var rfl) ed_int at1) (ed_ixT (ed_var rfl) ed_int at0) (cm hp.1.d hp.2.1.n (by decide) (by decide) (by decide))) ?r1) ?q2)
    case r1 => exact ⟨ii (den_ne' p) (num_ne hp.2.2), (B.mul hp.1.d hp.2.1.n).mono (by decide)⟩
    case q2 => rw [rat_over p q hp.2.2]
def R__law_sign (ds : List PyData) (d : PyData) : Prop := ∃ (n : Int), (True) ∧ ds = [.int n] ∧ d = .int (if 0 < n then 1 else if n < 0 then -1 else 0)
theorem c__law_sign {t0 : TE} {e0 e1 : List EK} {n : Int} (a0 : ED K t0 e0 (.int n) e1) (hp : True) : ED K (tCall (spP K R__law_sign) [] E0 (tCons t0 tNil)) e0 (.int (if 0 < n then 1 else if n < 0 then -1 else 0)) e1 := ed_call (ad_cons a0 ad_nil) ⟨n, hp, rfl, rfl⟩
abbrev DD__law_sign (P : Program) (w : World) (K : Frag) (mg : Str → Option Value) (base : Heap) : Prop := Def P w K mg base 1 "_law_sign" ["_law_number"] (spP K R__law_sign)
theorem ok__law_sign (T : Top K mg)  : DD__law_sign P w K mg base := by
  obtain ⟨f, fd, F, hm⟩ := T.df "_law_sign" 102 (by decide +kernel)
  have sc : FnScope ["_law_number"] ["_law_number"] (defScope (top 102)) := ⟨rfl, rfl, rfl, by decide +kernel, rfl, by decide +kernel, by decide +kernel⟩
  refine def_of F hm sc (fun ds d h => ?_) (fun _ _ _ _ _ _ us hl => match us, hl with | [_], _ => rfl) (fun cdv A outer s H E ds d hr h => ?_)
  · obtain ⟨n, hp, rfl, rfl⟩ := h
    rfl
  · obtain ⟨n, hp, rfl, rfl⟩ := h
    refine ⟨_, (pss_one (ps_ret (pe_ifExp (pt_cmpR op_gt (pv 0) pe_int (nomark _)) pe_int (pe_ifExp (pt_cmpR op_lt (pv 0) pe_int (nomark _)) (pe_un un_neg pe_int) pe_int)))), ?_⟩
    show SD K _ [.imm _] _ _ _ _
    refine sd_retD (ed_if (td_test (ed_gt (ed_var rfl) ed_int)) (fun h => (ed_is ed_int ?q1)) (fun h => (ed_if (td_test (ed_lt (ed_var rfl) ed_int)) (fun h => (ed_is (ed_neg ed_int) ?q2)) (fun h => (ed_is ed_int ?q3)))))
    case q1 => rw [if_pos (of_decide_eq_true h)]
    case q2 => rename_i h1; rw [if_neg (of_decide_eq_false h1), if_pos (of_decide_eq_true h)]
    case q3 => rename_i h1; rw [if_neg (of_decide_eq_false h1), if_neg (of_decide_eq_false h)]
def R__law_under (ds : List PyData) (d : PyData) : Prop := ∃ (p : Rat) (q : Rat), (Sm 4000 p ∧ Sm 4000 q) ∧ ds = [encR p, encR q] ∧ d = .bool (decide (p < q))
theorem c__law_under {t0 t1 : TE} {e0 e1 e2 : List EK} {p : Rat} {q : Rat} (a0 : ED K t0 e0 (encR p) e1) (a1 : ED K t1 e1 (encR q) e2) (hp : Sm 4000 p ∧ Sm 4000 q) : ED K (tCall (spP K R__law_under) [] E0 (tCons t0 (tCons t1 tNil))) e0 (.bool (decide (p < q))) e2 := ed_call (ad_cons a0 (ad_cons a1 ad_nil)) ⟨p, q, hp, rfl, rfl⟩
abbrev DD__law_under (P : Program) (w : World) (K : Frag) (mg : Str → Option Value) (base : Heap) : Prop := Def P w K mg base 1 "_law_under" ["_law_one", "_law_two"] (spP K R__law_under)
theorem ok__law_under (T : Top K mg)  : DD__law_under P w K mg base := by
  obtain ⟨f, fd, F, hm⟩ := T.df "_law_under" 103 (by decide +kernel)
  have sc : FnScope ["_law_one", "_law_two"] ["_law_one", "_law_two"] (defScope (top 103)) := ⟨rfl, rfl, rfl, by decide +kernel, rfl, by decide +kernel, by decide +kernel⟩
  refine def_of F hm sc (fun ds d h => ?_) (fun _ _ _ _ _ _ us hl => match us, hl with | [_, _], _ => rfl) (fun cdv A outer s H E ds d hr h => ?_)
  · obtain ⟨p, q, hp, rfl, rfl⟩ := h
    rfl
  · obtain ⟨p, q, hp, rfl, rfl⟩ := h
    refine ⟨_, (pss_one (ps_ret (pe_cmpR op_lt (pe_op op_mulW (pe_ix (r := rIx K) ix_seq (pv 0) pe_int (fun _ _ => rfl)) (pe_ix (r := rIx K) ix_seq (pv 1) pe_int (fun _ _ => rfl))) (pe_op op_mulW (pe_ix (r := rIx K) ix_seq (pv 1) pe_int (fun _ _ => rfl)) (pe_ix (r := rIx K) ix_seq (pv 0) pe_int (fun _ _ => rfl))) (nomark _)))), ?_⟩
    show SD K _ [.imm _, .imm _] _ _ _ _
    refine sd_retD (ed_is (ed_lt (ed_mul (ed_ixT (ed_var rfl) ed_int at0) (ed_ixT (ed_var rfl) ed_int at1) (cm hp.1.n hp.2.d (by decide) (by decide) (by decide))) (ed_mul (ed_ixT (ed_var rfl) ed_int at0) (ed_ixT (ed_var rfl) ed_int at1) (cm hp.2.n hp.1.d (by decide) (by decide) (by decide)))) ?q1)
    case q1 => rw [rat_lt]
theorem spot_pt (p q : Rat) : (⟨((p.num * (q.den : Int) : Int) : Rat) / (((p.den : Int) * (q.den : Int) : Int) : Rat), ((q.num * (p.den : Int) : Int) : Rat) / (((p.den : Int) * (q.den : Int) : Int) : Rat)⟩ : P2) = ⟨p, q⟩ := by
  have hp := den_ne p
  have hq := den_ne q
  refine P2.eq ?_ ?_
  · simp only [Rat.intCast_mul, Rat.intCast_natCast, num_den]; grind
  · simp only [Rat.intCast_mul, Rat.intCast_natCast, num_den]; grind
def R__law_spot (ds : List PyData) (d : PyData) : Prop := ∃ (p : Rat) (q : Rat), (Sm 4000 p ∧ Sm 4000 q) ∧ ds = [encR p, encR q] ∧ d = encP ⟨p, q⟩
theorem c__law_spot {t0 t1 : TE} {e0 e1 e2 : List EK} {p : Rat} {q : Rat} (a0 : ED K t0 e0 (encR p) e1) (a1 : ED K t1 e1 (encR q) e2) (hp : Sm 4000 p ∧ Sm 4000 q) : ED K (tCall (spP K R__law_spot) [] E0 (tCons t0 (tCons t1 tNil))) e0 (encP ⟨p, q⟩) e2 := ed_call (ad_cons a0 (ad_cons a1 ad_nil)) ⟨p, q, hp, rfl, rfl⟩
abbrev DD__law_spot (P : Program) (w : World) (K : Frag) (mg : Str → Option Value) (base : Heap) : Prop := Def P w K mg base 3 "_law_spot" ["_law_x", "_law_y"] (spP K R__law_spot)
theorem ok__law_spot (T : Top K mg) (D__law_cut : DD__law_cut P w K mg base) : DD__law_spot P w K mg base := by
  obtain ⟨f, fd, F, hm⟩ := T.df "_law_spot" 104 (by decide +kernel)
  have sc : FnScope ["_law_x", "_law_y"] ["_law_x", "_law_y"] (defScope (top 104)) := ⟨rfl, rfl, rfl, by decide +kernel, rfl, by decide +kernel, by decide +kernel⟩
  refine def_of F hm sc (fun ds d h => ?_) (fun _ _ _ _ _ _ us hl => match us, hl with | [_, _], _ => rfl) (fun cdv A outer s H E ds d hr h => ?_)
  · obtain ⟨p, q, hp, rfl, rfl⟩ := h
    rfl
  · obtain ⟨p, q, hp, rfl, rfl⟩ := h
    have hr2 := hr.mono (j := 2) (by decide)
    refine ⟨_, (pss_one (ps_ret (pe_def D__law_cut hr2 (by rfl) (pa_cons (pe_tup (pa_cons (pe_op op_mulW (pe_ix (r := rIx K) ix_seq (pv 0) pe_int (fun _ _ => rfl)) (pe_ix (r := rIx K) ix_seq (pv 1) pe_int (fun _ _ => rfl))) (pa_cons (pe_op op_mulW (pe_ix (r := rIx K) ix_seq (pv 1) pe_int (fun _ _ => rfl)) (pe_ix (r := rIx K) ix_seq (pv 0) pe_int (fun _ _ => rfl))) (pa_cons (pe_op op_mulW (pe_ix (r := rIx K) ix_seq (pv 0) pe_int (fun _ _ => rfl)) (pe_ix (r := rIx K) ix_seq (pv 1) pe_int (fun _ _ => rfl))) pa_nil)))) pa_nil)))), ?_⟩
    show SD K _ [.imm _, .imm _] _ _ _ _
    refine sd_retD (ed_is (c_cut3 (ed_tup (ad_cons (ed_mul (ed_ixT (ed_var rfl) ed_int at0) (ed_ixT (ed_var rfl) ed_int at1) (cm hp.1.n hp.2.d (by decide) (by decide) (by decide))) (ad_cons (ed_mul (ed_ixT (ed_var rfl) ed_int at0) (ed_ixT (ed_var rfl) ed_int at1) (cm hp.2.n hp.1.d (by decide) (by decide) (by decide))) (ad_cons (ed_mul (ed_ixT (ed_var rfl) ed_int at1) (ed_ixT (ed_var rfl) ed_int at1) (cm hp.1.d hp.2.d (by decide) (by decide) (by decide))) ad_nil)))) (Int.mul_pos (dpos p) (dpos q)) ((B.mul hp.1.d hp.2.d).mono (by decide)) (spot_pt p q)) ?q1)
    case q1 => rfl
theorem xy_x (p : P2) : (p.X : Rat) / ((p.W : Int) : Rat) = p.x := by rw [Rat.intCast_natCast]; exact (x_of p).symm
theorem xy_y (p : P2) : (p.Y : Rat) / ((p.W : Int) : Rat) = p.y := by rw [Rat.intCast_natCast]; exact (y_of p).symm
def R__law_xy (ds : List PyData) (d : PyData) : Prop := ∃ (p : P2), (Pm 4000 p) ∧ ds = [encP p] ∧ d = .list [encR p.x, encR p.y]
theorem c__law_xy {t0 : TE} {e0 e1 : List EK} {p : P2} (a0 : ED K t0 e0 (encP p) e1) (hp : Pm 4000 p) : ED K (tCall (spP K R__law_xy) [] E0 (tCons t0 tNil)) e0 (.list [encR p.x, encR p.y]) e1 := ed_call (ad_cons a0 ad_nil) ⟨p, hp, rfl, rfl⟩
abbrev DD__law_xy (P : Program) (w : World) (K : Frag) (mg : Str → Option Value) (base : Heap) : Prop := Def P w K mg base 4 "_law_xy" ["_law_point_here"] (spP K R__law_xy)
theorem ok__law_xy (T : Top K mg) (D__law_part : DD__law_part P w K mg base) : DD__law_xy P w K mg base := by
  obtain ⟨f, fd, F, hm⟩ := T.df "_law_xy" 105 (by decide +kernel)
  have sc : FnScope ["_law_point_here"] ["_law_point_here"] (defScope (top 105)) := ⟨rfl, rfl, rfl, by decide +kernel, rfl, by decide +kernel, by decide +kernel⟩
  refine def_of F hm sc (fun ds d h => ?_) (fun _ _ _ _ _ _ us hl => match us, hl with | [_], _ => rfl) (fun cdv A outer s H E ds d hr h => ?_)
  · obtain ⟨p, hp, rfl, rfl⟩ := h
    rfl
  · obtain ⟨p, hp, rfl, rfl⟩ := h
    have hr3 := hr.mono (j := 3) (by decide)
    refine ⟨_, (pss_one (ps_ret (pe_lst (pa_cons (pe_def D__law_part hr3 (by rfl) (pa_cons (pe_ix (r := rIx K) ix_seq (pv 0) pe_int (fun _ _ => rfl)) (pa_cons (pe_ix (r := rIx K) ix_seq (pv 0) pe_int (fun _ _ => rfl)) pa_nil))) (pa_cons (pe_def D__law_part hr3 (by rfl) (pa_cons (pe_ix (r := rIx K) ix_seq (pv 0) pe_int (fun _ _ => rfl)) (pa_cons (pe_ix (r := rIx K) ix_seq (pv 0) pe_int (fun _ _ => rfl)) pa_nil))) pa_nil))))), ?_⟩
    show SD K _ [.imm _] _ _ _ _
    refine sd_retD (ed_is (ed_lst (ad_cons (c__law_part (ed_ixT (ed_var rfl) ed_int at0) (ed_ixT (ed_var rfl) ed_int at2) ?r1) (ad_cons (c__law_part (ed_ixT (ed_var rfl) ed_int at1) (ed_ixT (ed_var rfl) ed_int at2) ?r2) ad_nil))) ?q3)
    case r1 => exact ⟨W_ne' p, hp.w.mono (by decide)⟩
    case r2 => exact ⟨W_ne' p, hp.w.mono (by decide)⟩
    case q3 => rw [xy_x, xy_y]
theorem way_pt (p q : P2) : (⟨((q.X * (p.W : Int) - p.X * (q.W : Int) : Int) : Rat) / (((p.W : Int) * (q.W : Int) : Int) : Rat), ((q.Y * (p.W : Int) - p.Y * (q.W : Int) : Int) : Rat) / (((p.W : Int) * (q.W : Int) : Int) : Rat)⟩ : P2) = q.sub p := by
  rw [Int.mul_comm (p.W : Int) (q.W : Int)]
  exact pt_sub q p
def R__law_way (ds : List PyData) (d : PyData) : Prop := ∃ (p : P2) (q : P2), (Pm 4000 p ∧ Pm 4000 q) ∧ ds = [encP p, encP q] ∧ d = encP (q.sub p)
theorem c__law_way {t0 t1 : TE} {e0 e1 e2 : List EK} {p : P2} {q : P2} (a0 : ED K t0 e0 (encP p) e1) (a1 : ED K t1 e1 (encP q) e2) (hp : Pm 4000 p ∧ Pm 4000 q) : ED K (tCall (spP K R__law_way) [] E0 (tCons t0 (tCons t1 tNil))) e0 (encP (q.sub p)) e2 := ed_call (ad_cons a0 (ad_cons a1 ad_nil)) ⟨p, q, hp, rfl, rfl⟩
abbrev DD__law_way (P : Program) (w : World) (K : Frag) (mg : Str → Option Value) (base : Heap) : Prop := Def P w K mg base 3 "_law_way" ["_law_one", "_law_two"] (spP K R__law_way)
theorem ok__law_way (T : Top K mg) (D__law_cut : DD__law_cut P w K mg base) : DD__law_way P w K mg base := by
  obtain ⟨f, fd, F, hm⟩ := T.df "_law_way" 106 (by decide +kernel)
  have sc : FnScope ["_law_one", "_law_two"] ["_law_one", "_law_two"] (defScope (top 106)) := ⟨rfl, rfl, rfl, by decide +kernel, rfl, by decide +kernel, by decide +kernel⟩
  refine def_of F hm sc (fun ds d h => ?_) (fun _ _ _ _ _ _ us hl => match us, hl with | [_, _], _ => rfl) (fun cdv A outer s H E ds d hr h => ?_)
  · obtain ⟨p, q, hp, rfl, rfl⟩ := h
    rfl
  · obtain ⟨p, q, hp, rfl, rfl⟩ := h
    have hr2 := hr.mono (j := 2) (by decide)
    refine ⟨_, (pss_one (ps_ret (pe_def D__law_cut hr2 (by rfl) (pa_cons (pe_tup (pa_cons (pe_op op_sub (pe_op op_mulW (pe_ix (r := rIx K) ix_seq (pv 1) pe_int (fun _ _ => rfl)) (pe_ix (r := rIx K) ix_seq (pv 0) pe_int (fun _ _ => rfl))) (pe_op op_mulW (pe_ix (r := rIx K) ix_seq (pv 0) pe_int (fun _ _ => rfl)) (pe_ix (r := rIx K) ix_seq (pv 1) pe_int (fun _ _ => rfl)))) (pa_cons (pe_op op_sub (pe_op op_mulW (pe_ix (r := rIx K) ix_seq (pv 1) pe_int (fun _ _ => rfl)) (pe_ix (r := rIx K) ix_seq (pv 0) pe_int (fun _ _ => rfl))) (pe_op op_mulW (pe_ix (r := rIx K) ix_seq (pv 0) pe_int (fun _ _ => rfl)) (pe_ix (r := rIx K) ix_seq (pv 1) pe_int (fun _ _ => rfl)))) (pa_cons (pe_op op_mulW (pe_ix (r := rIx K) ix_seq (pv 0) pe_int (fun _ _ => rfl)) (pe_ix (r := rIx K) ix_seq (pv 1) pe_int (fun _ _ => rfl))) pa_nil)))) pa_nil)))), ?_⟩
    show SD K _ [.imm _, .imm _] _ _ _ _
    refine sd_retD (ed_is (c_cut3 (ed_tup (ad_cons (ed_sub (ed_mul (ed_ixT (ed_var rfl) ed_int at0) (ed_ixT (ed_var rfl) ed_int at2) (cm hp.2.x hp.1.w (by decide) (by decide) (by decide))) (ed_mul (ed_ixT (ed_var rfl) ed_int at0) (ed_ixT (ed_var rfl) ed_int at2) (cm hp.1.x hp.2.w (by decide) (by decide) (by decide)))) (ad_cons (ed_sub (ed_mul (ed_ixT (ed_var rfl) ed_int at1) (ed_ixT (ed_var rfl) ed_int at2) (cm hp.2.y hp.1.w (by decide) (by decide) (by decide))) (ed_mul (ed_ixT (ed_var rfl) ed_int at1) (ed_ixT (ed_var rfl) ed_int at2) (cm hp.1.y hp.2.w (by decide) (by decide) (by decide)))) (ad_cons (ed_mul (ed_ixT (ed_var rfl) ed_int at2) (ed_ixT (ed_var rfl) ed_int at2) (cm hp.1.w hp.2.w (by decide) (by decide) (by decide))) ad_nil)))) (Int.mul_pos (wpos p) (wpos q)) ((B.mul hp.1.w hp.2.w).mono (by decide)) (way_pt p q)) ?q1)
    case q1 => rfl
def R__law_joined (ds : List PyData) (d : PyData) : Prop := ∃ (p : P2) (q : P2), (Pm 4000 p ∧ Pm 4000 q) ∧ ds = [encP p, encP q] ∧ d = encP (p.add q)
theorem c__law_joined {t0 t1 : TE} {e0 e1 e2 : List EK} {p : P2} {q : P2} (a0 : ED K t0 e0 (encP p) e1) (a1 : ED K t1 e1 (encP q) e2) (hp : Pm 4000 p ∧ Pm 4000 q) : ED K (tCall (spP K R__law_joined) [] E0 (tCons t0 (tCons t1 tNil))) e0 (encP (p.add q)) e2 := ed_call (ad_cons a0 (ad_cons a1 ad_nil)) ⟨p, q, hp, rfl, rfl⟩
abbrev DD__law_joined (P : Program) (w : World) (K : Frag) (mg : Str → Option Value) (base : Heap) : Prop := Def P w K mg base 3 "_law_joined" ["_law_one", "_law_two"] (spP K R__law_joined)
theorem ok__law_joined (T : Top K mg) (D__law_cut : DD__law_cut P w K mg base) : DD__law_joined P w K mg base := by
  obtain ⟨f, fd, F, hm⟩ := T.df "_law_joined" 107 (by decide +kernel)
  have sc : FnScope ["_law_one", "_law_two"] ["_law_one", "_law_two"] (defScope (top 107)) := ⟨rfl, rfl, rfl, by decide +kernel, rfl, by decide +kernel, by decide +kernel⟩
  refine def_of F hm sc (fun ds d h => ?_) (fun _ _ _ _ _ _ us hl => match us, hl with | [_, _], _ => rfl) (fun cdv A outer s H E ds d hr h => ?_)
  · obtain ⟨p, q, hp, rfl, rfl⟩ := h
    rfl
  · obtain ⟨p, q, hp, rfl, rfl⟩ := h
    have hr2 := hr.mono (j := 2) (by decide)
    refine ⟨_, (pss_one (ps_ret (pe_def D__law_cut hr2 (by rfl) (pa_cons (pe_tup (pa_cons (pe_op op_add (pe_op op_mulW (pe_ix (r := rIx K) ix_seq (pv 0) pe_int (fun _ _ => rfl)) (pe_ix (r := rIx K) ix_seq (pv 1) pe_int (fun _ _ => rfl))) (pe_op op_mulW (pe_ix (r := rIx K) ix_seq (pv 1) pe_int (fun _ _ => rfl)) (pe_ix (r := rIx K) ix_seq (pv 0) pe_int (fun _ _ => rfl)))) (pa_cons (pe_op op_add (pe_op op_mulW (pe_ix (r := rIx K) ix_seq (pv 0) pe_int (fun _ _ => rfl)) (pe_ix (r := rIx K) ix_seq (pv 1) pe_int (fun _ _ => rfl))) (pe_op op_mulW (pe_ix (r := rIx K) ix_seq (pv 1) pe_int (fun _ _ => rfl)) (pe_ix (r := rIx K) ix_seq (pv 0) pe_int (fun _ _ => rfl)))) (pa_cons (pe_op op_mulW (pe_ix (r := rIx K) ix_seq (pv 0) pe_int (fun _ _ => rfl)) (pe_ix (r := rIx K) ix_seq (pv 1) pe_int (fun _ _ => rfl))) pa_nil)))) pa_nil)))), ?_⟩
    show SD K _ [.imm _, .imm _] _ _ _ _
    refine sd_retD (ed_is (c_cut3 (ed_tup (ad_cons (ed_add (ed_mul (ed_ixT (ed_var rfl) ed_int at0) (ed_ixT (ed_var rfl) ed_int at2) (cm hp.1.x hp.2.w (by decide) (by decide) (by decide))) (ed_mul (ed_ixT (ed_var rfl) ed_int at0) (ed_ixT (ed_var rfl) ed_int at2) (cm hp.2.x hp.1.w (by decide) (by decide) (by decide)))) (ad_cons (ed_add (ed_mul (ed_ixT (ed_var rfl) ed_int at1) (ed_ixT (ed_var rfl) ed_int at2) (cm hp.1.y hp.2.w (by decide) (by decide) (by decide))) (ed_mul (ed_ixT (ed_var rfl) ed_int at1) (ed_ixT (ed_var rfl) ed_int at2) (cm hp.2.y hp.1.w (by decide) (by decide) (by decide)))) (ad_cons (ed_mul (ed_ixT (ed_var rfl) ed_int at2) (ed_ixT (ed_var rfl) ed_int at2) (cm hp.1.w hp.2.w (by decide) (by decide) (by decide))) ad_nil)))) (Int.mul_pos (wpos p) (wpos q)) ((B.mul hp.1.w hp.2.w).mono (by decide)) (pt_add p q)) ?q1)
    case q1 => rfl
def R__law_long (ds : List PyData) (d : PyData) : Prop := ∃ (p : P2) (t : Rat), (Pm 4000 p ∧ Sm 4000 t) ∧ ds = [encP p, encR t] ∧ d = encP (p.mul t)
theorem c__law_long {t0 t1 : TE} {e0 e1 e2 : List EK} {p : P2} {t : Rat} (a0 : ED K t0 e0 (encP p) e1) (a1 : ED K t1 e1 (encR t) e2) (hp : Pm 4000 p ∧ Sm 4000 t) : ED K (tCall (spP K R__law_long) [] E0 (tCons t0 (tCons t1 tNil))) e0 (encP (p.mul t)) e2 := ed_call (ad_cons a0 (ad_cons a1 ad_nil)) ⟨p, t, hp, rfl, rfl⟩
abbrev DD__law_long (P : Program) (w : World) (K : Frag) (mg : Str → Option Value) (base : Heap) : Prop := Def P w K mg base 3 "_law_long" ["_law_point_here", "_law_part_here"] (spP K R__law_long)
theorem ok__law_long (T : Top K mg) (D__law_cut : DD__law_cut P w K mg base) : DD__law_long P w K mg base := by
  obtain ⟨f, fd, F, hm⟩ := T.df "_law_long" 108 (by decide +kernel)
  have sc : FnScope ["_law_point_here", "_law_part_here"] ["_law_point_here", "_law_part_here"] (defScope (top 108)) := ⟨rfl, rfl, rfl, by decide +kernel, rfl, by decide +kernel, by decide +kernel⟩
  refine def_of F hm sc (fun ds d h => ?_) (fun _ _ _ _ _ _ us hl => match us, hl with | [_, _], _ => rfl) (fun cdv A outer s H E ds d hr h => ?_)
  · obtain ⟨p, t, hp, rfl, rfl⟩ := h
    rfl
  · obtain ⟨p, t, hp, rfl, rfl⟩ := h
    have hr2 := hr.mono (j := 2) (by decide)
    refine ⟨_, (pss_one (ps_ret (pe_def D__law_cut hr2 (by rfl) (pa_cons (pe_tup (pa_cons (pe_op op_mulW (pe_ix (r := rIx K) ix_seq (pv 0) pe_int (fun _ _ => rfl)) (pe_ix (r := rIx K) ix_seq (pv 1) pe_int (fun _ _ => rfl))) (pa_cons (pe_op op_mulW (pe_ix (r := rIx K) ix_seq (pv 0) pe_int (fun _ _ => rfl)) (pe_ix (r := rIx K) ix_seq (pv 1) pe_int (fun _ _ => rfl))) (pa_cons (pe_op op_mulW (pe_ix (r := rIx K) ix_seq (pv 0) pe_int (fun _ _ => rfl)) (pe_ix (r := rIx K) ix_seq (pv 1) pe_int (fun _ _ => rfl))) pa_nil)))) pa_nil)))), ?_⟩
    show SD K _ [.imm _, .imm _] _ _ _ _
    refine sd_retD (ed_is (c_cut3 (ed_tup (ad_cons (ed_mul (ed_ixT (ed_var rfl) ed_int at0) (ed_ixT (ed_var rfl) ed_int at0) (cm hp.1.x hp.2.n (by decide) (by decide) (by decide))) (ad_cons (ed_mul (ed_ixT (ed_var rfl) ed_int at1) (ed_ixT (ed_var rfl) ed_int at0) (cm hp.1.y hp.2.n (by decide) (by decide) (by decide))) (ad_cons (ed_mul (ed_ixT (ed_var rfl) ed_int at2) (ed_ixT (ed_var rfl) ed_int at1) (cm hp.1.w hp.2.d (by decide) (by decide) (by decide))) ad_nil)))) (Int.mul_pos (wpos p) (dpos t)) ((B.mul hp.1.w hp.2.d).mono (by decide)) (pt_mul p t)) ?q1)
    case q1 => rfl
def R__law_along (ds : List PyData) (d : PyData) : Prop := ∃ (p : P2) (q : P2) (t : Rat), (Pm 900 p ∧ Pm 900 q ∧ Sm 900 t) ∧ ds = [encP p, encP q, encR t] ∧ d = encP (p.add ((q.sub p).mul t))
theorem c__law_along {t0 t1 t2 : TE} {e0 e1 e2 e3 : List EK} {p : P2} {q : P2} {t : Rat} (a0 : ED K t0 e0 (encP p) e1) (a1 : ED K t1 e1 (encP q) e2) (a2 : ED K t2 e2 (encR t) e3) (hp : Pm 900 p ∧ Pm 900 q ∧ Sm 900 t) : ED K (tCall (spP K R__law_along) [] E0 (tCons t0 (tCons t1 (tCons t2 tNil)))) e0 (encP (p.add ((q.sub p).mul t))) e3 := ed_call (ad_cons a0 (ad_cons a1 (ad_cons a2 ad_nil))) ⟨p, q, t, hp, rfl, rfl⟩
abbrev DD__law_along (P : Program) (w : World) (K : Frag) (mg : Str → Option Value) (base : Heap) : Prop := Def P w K mg base 4 "_law_along" ["_law_one", "_law_two", "_law_part_here"] (spP K R__law_along)
theorem ok__law_along (T : Top K mg) (D__law_way : DD__law_way P w K mg base) (D__law_joined : DD__law_joined P w K mg base) (D__law_long : DD__law_long P w K mg base) : DD__law_along P w K mg base := by
  obtain ⟨f, fd, F, hm⟩ := T.df "_law_along" 109 (by decide +kernel)
  have sc : FnScope ["_law_one", "_law_two", "_law_part_here"] ["_law_one", "_law_two", "_law_part_here"] (defScope (top 109)) := ⟨rfl, rfl, rfl, by decide +kernel, rfl, by decide +kernel, by decide +kernel⟩
  refine def_of F hm sc (fun ds d h => ?_) (fun _ _ _ _ _ _ us hl => match us, hl with | [_, _, _], _ => rfl) (fun cdv A outer s H E ds d hr h => ?_)
  · obtain ⟨p, q, t, hp, rfl, rfl⟩ := h
    rfl
  · obtain ⟨p, q, t, hp, rfl, rfl⟩ := h
    have hr3 := hr.mono (j := 3) (by decide)
    refine ⟨_, (pss_one (ps_ret (pe_def D__law_joined hr3 (by rfl) (pa_cons (pv 0) (pa_cons (pe_def D__law_long hr3 (by rfl) (pa_cons (pe_def D__law_way hr3 (by rfl) (pa_cons (pv 0) (pa_cons (pv 1) pa_nil))) (pa_cons (pv 2) pa_nil))) pa_nil))))), ?_⟩
    show SD K _ [.imm _, .imm _, .imm _] _ _ _ _
    refine sd_retD (ed_is (c__law_joined (ed_var rfl) (c__law_long (c__law_way (ed_var rfl) (ed_var rfl) ?r1) (ed_var rfl) ?r2) ?r3) ?q4)
    case r1 => exact ⟨hp.1.mono (by decide), hp.2.1.mono (by decide)⟩
    case r2 => exact ⟨(hp.2.1.sub hp.1).mono (by decide), hp.2.2.mono (by decide)⟩
    case r3 => exact ⟨hp.1.mono (by decide), ((hp.2.1.sub hp.1).mul hp.2.2).mono (by decide)⟩
    case q4 => rfl
def R__law_cross (ds : List PyData) (d : PyData) : Prop := ∃ (p : P2) (q : P2), (Pm 4000 p ∧ Pm 4000 q) ∧ ds = [encP p, encP q] ∧ d = encR (cr p q)
theorem c__law_cross {t0 t1 : TE} {e0 e1 e2 : List EK} {p : P2} {q : P2} (a0 : ED K t0 e0 (encP p) e1) (a1 : ED K t1 e1 (encP q) e2) (hp : Pm 4000 p ∧ Pm 4000 q) : ED K (tCall (spP K R__law_cross) [] E0 (tCons t0 (tCons t1 tNil))) e0 (encR (cr p q)) e2 := ed_call (ad_cons a0 (ad_cons a1 ad_nil)) ⟨p, q, hp, rfl, rfl⟩
abbrev DD__law_cross (P : Program) (w : World) (K : Frag) (mg : Str → Option Value) (base : Heap) : Prop := Def P w K mg base 4 "_law_cross" ["_law_one", "_law_two"] (spP K R__law_cross)
theorem ok__law_cross (T : Top K mg) (D__law_part : DD__law_part P w K mg base) : DD__law_cross P w K mg base := by
  obtain ⟨f, fd, F, hm⟩ := T.df "_law_cross" 110 (by decide +kernel)
  have sc : FnScope ["_law_one", "_law_two"] ["_law_one", "_law_two"] (defScope (top 110)) := ⟨rfl, rfl, rfl, by decide +kernel, rfl, by decide +kernel, by decide +kernel⟩
  refine def_of F hm sc (fun ds d h => ?_) (fun _ _ _ _ _ _ us hl => match us, hl with | [_, _], _ => rfl) (fun cdv A outer s H E ds d hr h => ?_)
  · obtain ⟨p, q, hp, rfl, rfl⟩ := h
    rfl
  · obtain ⟨p, q, hp, rfl, rfl⟩ := h
    have hr3 := hr.mono (j := 3) (by decide)
    refine ⟨_, (pss_one (ps_ret (pe_def D__law_part hr3 (by rfl) (pa_cons (pe_op op_sub (pe_op op_mulW (pe_ix (r := rIx K) ix_seq (pv 0) pe_int (fun _ _ => rfl)) (pe_ix (r := rIx K) ix_seq (pv 1) pe_int (fun _ _ => rfl))) (pe_op op_mulW (pe_ix (r := rIx K) ix_seq (pv 0) pe_int (fun _ _ => rfl)) (pe_ix (r := rIx K) ix_seq (pv 1) pe_int (fun _ _ => rfl)))) (pa_cons (pe_op op_mulW (pe_ix (r := rIx K) ix_seq (pv 0) pe_int (fun _ _ => rfl)) (pe_ix (r := rIx K) ix_seq (pv 1) pe_int (fun _ _ => rfl))) pa_nil))))), ?_⟩
    show SD K _ [.imm _, .imm _] _ _ _ _
    refine sd_retD (ed_is (c__law_part (ed_sub (ed_mul (ed_ixT (ed_var rfl) ed_int at0) (ed_ixT (ed_var rfl) ed_int at1) (cm hp.1.x hp.2.y (by decide) (by decide) (by decide))) (ed_mul (ed_ixT (ed_var rfl) ed_int at1) (ed_ixT (ed_var rfl) ed_int at0) (cm hp.1.y hp.2.x (by decide) (by decide) (by decide)))) (ed_mul (ed_ixT (ed_var rfl) ed_int at2) (ed_ixT (ed_var rfl) ed_int at2) (cm hp.1.w hp.2.w (by decide) (by decide) (by decide))) ?r1) ?q2)
    case r1 => exact ⟨ii (W_ne' p) (W_ne' q), (B.mul hp.1.w hp.2.w).mono (by decide)⟩
    case q2 => rw [pt_cr]
def R__law_quarter (ds : List PyData) (d : PyData) : Prop := ∃ (p : P2), (True) ∧ ds = [encP p] ∧ d = .tuple [.int (-p.Y), .int p.X, .int (p.W : Int)]
theorem c__law_quarter {t0 : TE} {e0 e1 : List EK} {p : P2} (a0 : ED K t0 e0 (encP p) e1) (hp : True) : ED K (tCall (spP K R__law_quarter) [] E0 (tCons t0 tNil)) e0 (.tuple [.int (-p.Y), .int p.X, .int (p.W : Int)]) e1 := ed_call (ad_cons a0 ad_nil) ⟨p, hp, rfl, rfl⟩
abbrev DD__law_quarter (P : Program) (w : World) (K : Frag) (mg : Str → Option Value) (base : Heap) : Prop := Def P w K mg base 1 "_law_quarter" ["_law_way_here"] (spP K R__law_quarter)
theorem ok__law_quarter (T : Top K mg)  : DD__law_quarter P w K mg base := by
  obtain ⟨f, fd, F, hm⟩ := T.df "_law_quarter" 111 (by decide +kernel)
  have sc : FnScope ["_law_way_here"] ["_law_way_here"] (defScope (top 111)) := ⟨rfl, rfl, rfl, by decide +kernel, rfl, by decide +kernel, by decide +kernel⟩
  refine def_of F hm sc (fun ds d h => ?_) (fun _ _ _ _ _ _ us hl => match us, hl with | [_], _ => rfl) (fun cdv A outer s H E ds d hr h => ?_)
  · obtain ⟨p, hp, rfl, rfl⟩ := h
    rfl
  · obtain ⟨p, hp, rfl, rfl⟩ := h
    refine ⟨_, (pss_one (ps_ret (pe_tup (pa_cons (pe_op op_sub pe_int (pe_ix (r := rIx K) ix_seq (pv 0) pe_int (fun _ _ => rfl))) (pa_cons (pe_ix (r := rIx K) ix_seq (pv 0) pe_int (fun _ _ => rfl)) (pa_cons (pe_ix (r := rIx K) ix_seq (pv 0) pe_int (fun _ _ => rfl)) pa_nil)))))), ?_⟩
    show SD K _ [.imm _] _ _ _ _
    refine sd_retD (ed_is (ed_tup (ad_cons (ed_sub ed_int (ed_ixT (ed_var rfl) ed_int at1)) (ad_cons (ed_ixT (ed_var rfl) ed_int at0) (ad_cons (ed_ixT (ed_var rfl) ed_int at2) ad_nil)))) ?q1)
    case q1 => rw [Int.zero_sub]
theorem sg_num (q : Rat) : (if 0 < q.num then (1 : Int) else if q.num < 0 then -1 else 0) = sg q := by
  unfold sg
  have h0 : 0 ≤ q.num ↔ 0 ≤ q := Rat.num_nonneg
  have hz : q.num = 0 ↔ q = 0 := Rat.num_eq_zero
  have h1 : 0 < q.num ↔ 0 < q := by
    constructor
    · intro h
      have a := h0.mp (by omega)
      have b : q ≠ 0 := fun z => by have := hz.mpr z; omega
      grind
    · intro h
      have a := h0.mpr (by grind)
      have b : q.num ≠ 0 := fun z => by have := hz.mp z; grind
      omega
  have h2 : q.num < 0 ↔ q < 0 := by
    constructor
    · intro h
      have a : ¬ 0 ≤ q := fun z => by have := h0.mpr z; omega
      grind
    · intro h
      have a : ¬ 0 ≤ q.num := fun z => by have := h0.mp z; grind
      omega
  simp only [h1, h2]
def R__law_sense (ds : List PyData) (d : PyData) : Prop := ∃ (p : P2) (q : P2) (r : P2), (Pm 900 p ∧ Pm 900 q ∧ Pm 900 r) ∧ ds = [encP p, encP q, encP r] ∧ d = .int (sg (tri p q r))
theorem c__law_sense {t0 t1 t2 : TE} {e0 e1 e2 e3 : List EK} {p : P2} {q : P2} {r : P2} (a0 : ED K t0 e0 (encP p) e1) (a1 : ED K t1 e1 (encP q) e2) (a2 : ED K t2 e2 (encP r) e3) (hp : Pm 900 p ∧ Pm 900 q ∧ Pm 900 r) : ED K (tCall (spP K R__law_sense) [] E0 (tCons t0 (tCons t1 (tCons t2 tNil)))) e0 (.int (sg (tri p q r))) e3 := ed_call (ad_cons a0 (ad_cons a1 (ad_cons a2 ad_nil))) ⟨p, q, r, hp, rfl, rfl⟩
abbrev DD__law_sense (P : Program) (w : World) (K : Frag) (mg : Str → Option Value) (base : Heap) : Prop := Def P w K mg base 5 "_law_sense" ["_law_one", "_law_two", "_law_third"] (spP K R__law_sense)
theorem ok__law_sense (T : Top K mg) (D__law_sign : DD__law_sign P w K mg base) (D__law_way : DD__law_way P w K mg base) (D__law_cross : DD__law_cross P w K mg base) : DD__law_sense P w K mg base := by
  obtain ⟨f, fd, F, hm⟩ := T.df "_law_sense" 112 (by decide +kernel)
  have sc : FnScope ["_law_one", "_law_two", "_law_third"] ["_law_one", "_law_two", "_law_third"] (defScope (top 112)) := ⟨rfl, rfl, rfl, by decide +kernel, rfl, by decide +kernel, by decide +kernel⟩
  refine def_of F hm sc (fun ds d h => ?_) (fun _ _ _ _ _ _ us hl => match us, hl with | [_, _, _], _ => rfl) (fun cdv A outer s H E ds d hr h => ?_)
  · obtain ⟨p, q, r, hp, rfl, rfl⟩ := h
    rfl
  · obtain ⟨p, q, r, hp, rfl, rfl⟩ := h
    have hr1 := hr.mono (j := 1) (by decide)
    have hr3 := hr.mono (j := 3) (by decide)
    have hr4 := hr.mono (j := 4) (by decide)
    refine ⟨_, (pss_one (ps_ret (pe_def D__law_sign hr1 (by rfl) (pa_cons (pe_ix (r := rIx K) ix_seq (pe_def D__law_cross hr4 (by rfl) (pa_cons (pe_def D__law_way hr3 (by rfl) (pa_cons (pv 0) (pa_cons (pv 1) pa_nil))) (pa_cons (pe_def D__law_way hr3 (by rfl) (pa_cons (pv 0) (pa_cons (pv 2) pa_nil))) pa_nil))) pe_int (fun _ _ => rfl)) pa_nil)))), ?_⟩
    show SD K _ [.imm _, .imm _, .imm _] _ _ _ _
    refine sd_retD (ed_is (c__law_sign (ed_ixT (c__law_cross (c__law_way (ed_var rfl) (ed_var rfl) ?r1) (c__law_way (ed_var rfl) (ed_var rfl) ?r2) ?r3) ed_int at0) ?r4) ?q5)
    case r1 => exact ⟨hp.1.mono (by decide), hp.2.1.mono (by decide)⟩
    case r2 => exact ⟨hp.1.mono (by decide), hp.2.2.mono (by decide)⟩
    case r3 => exact ⟨(hp.2.1.sub hp.1).mono (by decide), (hp.2.2.sub hp.1).mono (by decide)⟩
    case r4 => trivial
    case q5 => rw [sg_num]; rfl
def R__law_tri (ds : List PyData) (d : PyData) : Prop := ∃ (p : P2) (q : P2) (r : P2), (Pm 1900 p ∧ Pm 1900 q ∧ Pm 1900 r) ∧ ds = [encP p, encP q, encP r] ∧ d = encR (tri p q r)
theorem c__law_tri {t0 t1 t2 : TE} {e0 e1 e2 e3 : List EK} {p : P2} {q : P2} {r : P2} (a0 : ED K t0 e0 (encP p) e1) (a1 : ED K t1 e1 (encP q) e2) (a2 : ED K t2 e2 (encP r) e3) (hp : Pm 1900 p ∧ Pm 1900 q ∧ Pm 1900 r) : ED K (tCall (spP K R__law_tri) [] E0 (tCons t0 (tCons t1 (tCons t2 tNil)))) e0 (encR (tri p q r)) e3 := ed_call (ad_cons a0 (ad_cons a1 (ad_cons a2 ad_nil))) ⟨p, q, r, hp, rfl, rfl⟩
abbrev DD__law_tri (P : Program) (w : World) (K : Frag) (mg : Str → Option Value) (base : Heap) : Prop := Def P w K mg base 5 "_law_tri" ["_law_one", "_law_two", "_law_third"] (spP K R__law_tri)
theorem ok__law_tri (T : Top K mg) (D__law_way : DD__law_way P w K mg base) (D__law_cross : DD__law_cross P w K mg base) : DD__law_tri P w K mg base := by
  obtain ⟨f, fd, F, hm⟩ := T.df "_law_tri" 117 (by decide +kernel)
  have sc : FnScope ["_law_one", "_law_two", "_law_third"] ["_law_one", "_law_two", "_law_third"] (defScope (top 117)) := ⟨rfl, rfl, rfl, by decide +kernel, rfl, by decide +kernel, by decide +kernel⟩
  refine def_of F hm sc (fun ds d h => ?_) (fun _ _ _ _ _ _ us hl => match us, hl with | [_, _, _], _ => rfl) (fun cdv A outer s H E ds d hr h => ?_)
  · obtain ⟨p, q, r, hp, rfl, rfl⟩ := h
    rfl
  · obtain ⟨p, q, r, hp, rfl, rfl⟩ := h
    have hr3 := hr.mono (j := 3) (by decide)
    have hr4 := hr.mono (j := 4) (by decide)
    refine ⟨_, (pss_one (ps_ret (pe_def D__law_cross hr4 (by rfl) (pa_cons (pe_def D__law_way hr3 (by rfl) (pa_cons (pv 0) (pa_cons (pv 1) pa_nil))) (pa_cons (pe_def D__law_way hr3 (by rfl) (pa_cons (pv 0) (pa_cons (pv 2) pa_nil))) pa_nil))))), ?_⟩
    show SD K _ [.imm _, .imm _, .imm _] _ _ _ _
    refine sd_retD (ed_is (c__law_cross (c__law_way (ed_var rfl) (ed_var rfl) ?r1) (c__law_way (ed_var rfl) (ed_var rfl) ?r2) ?r3) ?q4)
    case r1 => exact ⟨hp.1.mono (by decide), hp.2.1.mono (by decide)⟩
    case r2 => exact ⟨hp.1.mono (by decide), hp.2.2.mono (by decide)⟩
    case r3 => exact ⟨(hp.2.1.sub hp.1).mono (by decide), (hp.2.2.sub hp.1).mono (by decide)⟩
    case q4 => rfl
def R__law_told (ds : List PyData) (d : PyData) : Prop := ∃ (S : List P2) (i : Nat) (t : Rat), (0 < S.length) ∧ ds = [encS S, .int (i : Int), encR t] ∧ d = encRim (told S.length i t)
theorem c__law_told {t0 t1 t2 : TE} {e0 e1 e2 e3 : List EK} {S : List P2} {i : Nat} {t : Rat} (a0 : ED K t0 e0 (encS S) e1) (a1 : ED K t1 e1 (.int (i : Int)) e2) (a2 : ED K t2 e2 (encR t) e3) (hp : 0 < S.length) : ED K (tCall (spP K R__law_told) [] E0 (tCons t0 (tCons t1 (tCons t2 tNil)))) e0 (encRim (told S.length i t)) e3 := ed_call (ad_cons a0 (ad_cons a1 (ad_cons a2 ad_nil))) ⟨S, i, t, hp, rfl, rfl⟩
abbrev DD__law_told (P : Program) (w : World) (K : Frag) (mg : Str → Option Value) (base : Heap) : Prop := Def P w K mg base 1 "_law_told" ["_law_section_here", "_law_edge", "_law_share"] (spP K R__law_told)
theorem ok__law_told (T : Top K mg)  : DD__law_told P w K mg base := by
  obtain ⟨f, fd, F, hm⟩ := T.df "_law_told" 121 (by decide +kernel)
  have sc : FnScope ["_law_section_here", "_law_edge", "_law_share"] ["_law_section_here", "_law_edge", "_law_share"] (defScope (top 121)) := ⟨rfl, rfl, rfl, by decide +kernel, rfl, by decide +kernel, by decide +kernel⟩
  have m_int := T.fr "int" (by decide +kernel)
  have m_len := T.fr "len" (by decide +kernel)
  refine def_of F hm sc (fun ds d h => ?_) (fun _ _ _ _ _ _ us hl => match us, hl with | [_, _, _], _ => rfl) (fun cdv A outer s H E ds d hr h => ?_)
  · obtain ⟨S, i, t, hp, rfl, rfl⟩ := h
    rfl
  · obtain ⟨S, i, t, hp, rfl, rfl⟩ := h
    refine ⟨_, (pss_one (ps_ret (pe_ifExp (pt_cmpR (r := rEqD K) (op_eqD hr.units) (pv 2) (pe_tup (pa_cons pe_int (pa_cons pe_int pa_nil))) (nomark _)) (pe_tup (pa_cons (pe_op op_mod (pe_callTy call_int1 (by rfl) m_int bt_int (pa_cons (pe_op op_add (pv 1) pe_int) pa_nil)) (pe_callB call_len_seq (by rfl) m_len bt_len (pa_cons (pv 0) pa_nil))) (pa_cons (pe_tup (pa_cons pe_int (pa_cons pe_int pa_nil))) pa_nil))) (pe_tup (pa_cons (pv 1) (pa_cons (pv 2) pa_nil)))))), ?_⟩
    show SD K _ [.imm _, .imm _, .imm _] _ _ _ _
    refine sd_retD (ed_if (td_test (ed_eqD (ed_var rfl) (ed_tup (ad_cons ed_int (ad_cons ed_int ad_nil))) ?s1 ?s2)) (fun h => (ed_is (ed_tup (ad_cons (ed_mod (ed_intC (ed_add (ed_var rfl) ed_int)) (ed_lenT (ed_var rfl)) ?p3) (ad_cons (ed_tup (ad_cons ed_int (ad_cons ed_int ad_nil))) ad_nil))) ?q4)) (fun h => (ed_is (ed_tup (ad_cons (ed_var rfl) (ad_cons (ed_var rfl) ad_nil))) ?q5)))
    case s1 => rfl
    case s2 => rfl
    case p3 => rw [List.length_map]; omega
    case q4 =>
      have h : PyData.eqv (encR t) (encR 1) = true := h
      rw [eqvR] at h
      unfold told
      rw [if_pos (of_decide_eq_true h), List.length_map]
      show PyData.tuple [.int (((i : Int) + 1) % (S.length : Int)), encR 0] = .tuple [.int (((i + 1) % S.length : Nat) : Int), encR 0]
      rw [Int.natCast_emod]
      rfl
    case q5 =>
      have h : PyData.eqv (encR t) (encR 1) = false := h
      rw [eqvR] at h
      unfold told
      rw [if_neg (of_decide_eq_false h)]
def R__law_on (ds : List PyData) (d : PyData) : Prop := ∃ (S : List P2) (r : Rim), (Sz S ∧ r.1 < S.length ∧ Sm 900 r.2) ∧ ds = [encS S, encRim r] ∧ d = encP (rp S r)
theorem c__law_on {t0 t1 : TE} {e0 e1 e2 : List EK} {S : List P2} {r : Rim} (a0 : ED K t0 e0 (encS S) e1) (a1 : ED K t1 e1 (encRim r) e2) (hp : Sz S ∧ r.1 < S.length ∧ Sm 900 r.2) : ED K (tCall (spP K R__law_on) [] E0 (tCons t0 (tCons t1 tNil))) e0 (encP (rp S r)) e2 := ed_call (ad_cons a0 (ad_cons a1 ad_nil)) ⟨S, r, hp, rfl, rfl⟩
abbrev DD__law_on (P : Program) (w : World) (K : Frag) (mg : Str → Option Value) (base : Heap) : Prop := Def P w K mg base 5 "_law_on" ["_law_section_here", "_law_rim"] (spP K R__law_on)
theorem ok__law_on (T : Top K mg) (D__law_along : DD__law_along P w K mg base) : DD__law_on P w K mg base := by
  obtain ⟨f, fd, F, hm⟩ := T.df "_law_on" 120 (by decide +kernel)
  have sc : FnScope ["_law_section_here", "_law_rim"] ["_law_section_here", "_law_rim"] (defScope (top 120)) := ⟨rfl, rfl, rfl, by decide +kernel, rfl, by decide +kernel, by decide +kernel⟩
  have m_int := T.fr "int" (by decide +kernel)
  have m_len := T.fr "len" (by decide +kernel)
  refine def_of F hm sc (fun ds d h => ?_) (fun _ _ _ _ _ _ us hl => match us, hl with | [_, _], _ => rfl) (fun cdv A outer s H E ds d hr h => ?_)
  · obtain ⟨S, r, hp, rfl, rfl⟩ := h
    rfl
  · obtain ⟨S, r, hp, rfl, rfl⟩ := h
    have hr4 := hr.mono (j := 4) (by decide)
    obtain ⟨⟨hS, hz, hl⟩, hi, ht⟩ := hp
    refine ⟨_, (pss_one (ps_ret (pe_def D__law_along hr4 (by rfl) (pa_cons (pe_ix (r := rIx K) ix_seq (pv 0) (pe_ix (r := rIx K) ix_seq (pv 1) pe_int (fun _ _ => rfl)) (fun _ _ => rfl)) (pa_cons (pe_ix (r := rIx K) ix_seq (pv 0) (pe_op op_mod (pe_callTy call_int1 (by rfl) m_int bt_int (pa_cons (pe_op op_add (pe_ix (r := rIx K) ix_seq (pv 1) pe_int (fun _ _ => rfl)) pe_int) pa_nil)) (pe_callB call_len_seq (by rfl) m_len bt_len (pa_cons (pv 0) pa_nil))) (fun _ _ => rfl)) (pa_cons (pe_ix (r := rIx K) ix_seq (pv 1) pe_int (fun _ _ => rfl)) pa_nil)))))), ?_⟩
    show SD K _ [.imm _, .imm _] _ _ _ _
    refine sd_retD (ed_is (c__law_along (ed_ixT (ed_var rfl) (ed_ixT (ed_var rfl) ed_int at0) (at_here hi)) (ed_ixT (ed_var rfl) (ed_mod (ed_intC (ed_add (ed_ixT (ed_var rfl) ed_int at0) ed_int)) (ed_lenT (ed_var rfl)) ?p1) (at_next hz)) (ed_ixT (ed_var rfl) ed_int at1) ?r2) ?q3)
    case p1 => rw [List.length_map]; omega
    case r2 => exact ⟨hS.cn hz _, hS.cn hz _, ht⟩
    case q3 => rfl
def R__law_before (ds : List PyData) (d : PyData) : Prop := ∃ (ra : Rim) (rb : Rim), (Sm 4000 ra.2 ∧ Sm 4000 rb.2) ∧ ds = [encRim ra, encRim rb] ∧ d = .bool (decide (before ra rb))
theorem c__law_before {t0 t1 : TE} {e0 e1 e2 : List EK} {ra : Rim} {rb : Rim} (a0 : ED K t0 e0 (encRim ra) e1) (a1 : ED K t1 e1 (encRim rb) e2) (hp : Sm 4000 ra.2 ∧ Sm 4000 rb.2) : ED K (tCall (spP K R__law_before) [] E0 (tCons t0 (tCons t1 tNil))) e0 (.bool (decide (before ra rb))) e2 := ed_call (ad_cons a0 (ad_cons a1 ad_nil)) ⟨ra, rb, hp, rfl, rfl⟩
abbrev DD__law_before (P : Program) (w : World) (K : Frag) (mg : Str → Option Value) (base : Heap) : Prop := Def P w K mg base 2 "_law_before" ["_law_one", "_law_two"] (spP K R__law_before)
theorem ok__law_before (T : Top K mg) (D__law_under : DD__law_under P w K mg base) : DD__law_before P w K mg base := by
  obtain ⟨f, fd, F, hm⟩ := T.df "_law_before" 124 (by decide +kernel)
  have sc : FnScope ["_law_one", "_law_two"] ["_law_one", "_law_two"] (defScope (top 124)) := ⟨rfl, rfl, rfl, by decide +kernel, rfl, by decide +kernel, by decide +kernel⟩
  refine def_of F hm sc (fun ds d h => ?_) (fun _ _ _ _ _ _ us hl => match us, hl with | [_, _], _ => rfl) (fun cdv A outer s H E ds d hr h => ?_)
  · obtain ⟨ra, rb, hp, rfl, rfl⟩ := h
    rfl
  · obtain ⟨ra, rb, hp, rfl, rfl⟩ := h
    have hr1 := hr.mono (j := 1) (by decide)
    refine ⟨_, (pss_one (ps_ret (pe_or (pe_cmpR op_lt (pe_ix (r := rIx K) ix_seq (pv 0) pe_int (fun _ _ => rfl)) (pe_ix (r := rIx K) ix_seq (pv 1) pe_int (fun _ _ => rfl)) (nomark _)) (pe_one (pe_and (pe_cmpR op_eq (pe_ix (r := rIx K) ix_seq (pv 0) pe_int (fun _ _ => rfl)) (pe_ix (r := rIx K) ix_seq (pv 1) pe_int (fun _ _ => rfl)) (nomark _)) (pe_one (pe_def D__law_under hr1 (by rfl) (pa_cons (pe_ix (r := rIx K) ix_seq (pv 0) pe_int (fun _ _ => rfl)) (pa_cons (pe_ix (r := rIx K) ix_seq (pv 1) pe_int (fun _ _ => rfl)) pa_nil))))))))), ?_⟩
    show SD K _ [.imm _, .imm _] _ _ _ _
    refine sd_retD (ed_is (ed_or (ed_lt (ed_ixT (ed_var rfl) ed_int at0) (ed_ixT (ed_var rfl) ed_int at0)) fun h => (ed_and (ed_eqI (ed_ixT (ed_var rfl) ed_int at0) (ed_ixT (ed_var rfl) ed_int at0)) fun h => (c__law_under (ed_ixT (ed_var rfl) ed_int at1) (ed_ixT (ed_var rfl) ed_int at1) ?r1))) ?q2)
    case r1 => exact hp
    case q2 =>
      congr 1
      rw [← Bool.decide_and, ← Bool.decide_or]
      refine decide_eq_decide.mpr ?_
      show _ ↔ ra.1 < rb.1 ∨ (ra.1 = rb.1 ∧ ra.2 < rb.2)
      rw [Int.ofNat_lt, Int.ofNat_inj]
end
end Hull
namespace Hull
open PySem PySem.Spec PyProof.Rows L2
section
variable {P : Program} {w : World} {K : Frag} {mg : Str → Option Value} {base : Heap}
abbrev MB : Int := 2147483497
def cellOf (ns : List Int) : Int := match ns with
  | [] => 59
  | n :: _ => n
def blendOf (l : List Int) (b : Int) : Int := l.foldl (fun b e => (b * 45007 + e % MB + 23) % MB) b
def tubOf (ns : List Int) : Tb := (if cellOf ns < 0 ∨ 10 ^ 18 ≤ cellOf ns then (if cellOf ns < 0 then -cellOf ns else cellOf ns) else 0, blendOf (ns.take 11 ++ [cellOf ns]) 28657, 0)
/-- the draws' numbers are small -/
structure TubOk (n : Nat) (t : Tb) : Prop where
  b0 : 0 ≤ t.2.1
  b1 : t.2.1 < MB
  c0 : 0 ≤ t.2.2
  c1 : t.2.2 ≤ n
theorem TubOk.mono {n m : Nat} {t : Tb} (h : TubOk n t) (k : n ≤ m) : TubOk m t := ⟨h.b0, h.b1, h.c0, by have := h.c1; omega⟩
theorem blend_ok : ∀ (l : List Int) (b : Int), 0 ≤ b → b < MB → 0 ≤ blendOf l b ∧ blendOf l b < MB
  | [], b, h, k => ⟨h, k⟩
  | e :: l, b, h, k => blend_ok l _ (Int.emod_nonneg _ (by decide)) (Int.emod_lt_of_pos _ (by decide))
theorem tubOf_ok (ns : List Int) : TubOk 0 (tubOf ns) := by
  have := blend_ok (ns.take 11 ++ [cellOf ns]) 28657 (by decide) (by decide)
  exact ⟨this.1, this.2, Int.le_refl 0, Int.le_refl 0⟩
def dip (t : Tb) (k : Nat) : Nat × Tb :=
  if 0 < t.1 then ((t.1 % (k : Int)).toNat, (t.1 / (k : Int), t.2.1, t.2.2))
  else ((((t.2.1 * (t.2.1 % 20021 + 17011) + 60013 * (t.2.2 + 1) + 7) % MB).fdiv 89 % (k : Int)).toNat, (t.1, (t.2.1 * (t.2.1 % 20021 + 17011) + 60013 * (t.2.2 + 1) + 7) % MB, t.2.2 + 1))
theorem dip_lt (t : Tb) {k : Nat} (hk : 0 < k) : (dip t k).1 < k := by
  unfold dip
  split
  · have h1 := Int.emod_nonneg t.1 (show (k : Int) ≠ 0 by omega)
    have h2 := Int.emod_lt_of_pos t.1 (show (0 : Int) < k by omega)
    show (t.1 % (k : Int)).toNat < k
    omega
  · generalize ((t.2.1 * (t.2.1 % 20021 + 17011) + 60013 * (t.2.2 + 1) + 7) % MB).fdiv 89 = x
    have h1 := Int.emod_nonneg x (show (k : Int) ≠ 0 by omega)
    have h2 := Int.emod_lt_of_pos x (show (0 : Int) < k by omega)
    show (x % (k : Int)).toNat < k
    omega
theorem dip_ok {n : Nat} {t : Tb} (h : TubOk n t) (k : Nat) : TubOk (n + 1) (dip t k).2 := by
  unfold dip
  split
  · exact ⟨h.b0, h.b1, h.c0, by have := h.c1; show t.2.2 ≤ _; omega⟩
  · exact ⟨Int.emod_nonneg _ (by decide), Int.emod_lt_of_pos _ (by decide), by have := h.c0; show 0 ≤ t.2.2 + 1; omega, by have := h.c1; show t.2.2 + 1 ≤ ((n + 1 : Nat) : Int); omega⟩
theorem Bw {k : Nat} {a : Int} (h0 : 0 ≤ a) (h : a < 2 ^ k) : B k a := by
  unfold B
  have h2 : ((2 ^ k : Nat) : Int) = (2 : Int) ^ k := by rw [Int.natCast_pow]; rfl
  omega
theorem B17 {a : Int} (h0 : 0 ≤ a) (h : a < 131072) : B 17 a := Bw h0 h
theorem B30 {a : Int} (h0 : 0 ≤ a) (h : a < 1073741824) : B 30 a := Bw h0 h
theorem B10 {a : Int} (h0 : 0 ≤ a) (h : a < 1024) : B 10 a := Bw h0 h
def R__law_tub (ns : List Int) (ds : List PyData) (rs : List PyData) : Prop := (ns.length ≤ 100) ∧ ds = [.int 0] ∧ rs = [.int (tubOf ns).1, .int (tubOf ns).2.1, .int (tubOf ns).2.2]
abbrev DD__law_tub (P : Program) (w : World) (K : Frag) (mg : Str → Option Value) (base : Heap) : Prop := Def P w K mg base 1 "_law_tub" ["_law_script", "_law_lap"] (spX K R__law_tub)
theorem ok__law_tub (T : Top K mg)  : DD__law_tub P w K mg base := by
  obtain ⟨f, fd, F, hm⟩ := T.df "_law_tub" 91 (by decide +kernel)
  have sc : FnScope ["_law_script", "_law_lap", "_law_cell", "_law_blend", "_law_each"] ["_law_script", "_law_lap"] (defScope (top 91)) := ⟨rfl, rfl, rfl, by decide +kernel, rfl, by decide +kernel, by decide +kernel⟩
  have m_int := T.fr "int" (by decide +kernel)
  have m_len := T.fr "len" (by decide +kernel)
  have m_abs := T.fr "abs" (by decide +kernel)
  have m_sum := T.fr "sum" (by decide +kernel)
  refine def_ofX F hm sc (fun ns ds d h => ?_) (fun _ _ _ _ _ _ us hl => match us, hl with | [_, _], _ => rfl) (fun cdv A outer s H E ns ds d hr h => ?_)
  · obtain ⟨hp, rfl, rfl⟩ := h
    rfl
  · obtain ⟨hp, rfl, rfl⟩ := h
    refine ⟨_, (pss_cons (ps_set (i := 2) sc.nd rfl (Or.inl rfl) (pe_ifExp (pt_cmpR op_lt (pv 1) (pe_callB call_len_seq (by rfl) m_len bt_len (pa_cons (pv 0) pa_nil)) (nomark _)) (pe_callTy call_int1 (by rfl) m_int bt_int (pa_cons (pe_ix (r := rIx K) ix_seq (pv 0) (pv 1) (fun _ _ => rfl)) pa_nil)) (pe_op op_add (pe_op op_add (pe_op op_mulW pe_int (pv 1)) pe_int) (pe_op op_mod (pe_callTy call_int1 (by rfl) m_int bt_int (pa_cons (pe_callB (cr_sum rfl) (by rfl) m_sum bt_sum (pa_cons (pe_slice sl_list (pv 0) po_none (po_some pe_int)) pa_nil)) pa_nil)) pe_int))))
      (pss_cons (ps_set (i := 3) sc.nd rfl (Or.inl rfl) (pe_op op_add pe_int (pe_op op_mulW pe_int (pv 1))))
      (pss_cons (ps_for PassesOwn.never rfl (pi_seq (pe_op op_cat (pe_slice sl_list (pv 0) po_none (po_some pe_int)) (pe_lst (pa_cons (pv 2) pa_nil)))) (pg_name (i := 4) sc.nd rfl (Or.inl rfl)) (pss_one (ps_set (i := 3) sc.nd rfl (Or.inl rfl) (pe_op op_mod (pe_callTy call_int1 (by rfl) m_int bt_int (pa_cons (pe_op op_add (pe_op op_add (pe_op op_mulW (pv 3) pe_int) (pe_op op_mod (pe_callTy call_int1 (by rfl) m_int bt_int (pa_cons (pv 4) pa_nil)) pe_int)) pe_int) pa_nil)) pe_int))))
      (pss_one (ps_ret (pe_lst (pa_cons (pe_ifExp (pw_or (pt_cmpR op_lt (pv 2) pe_int (nomark _)) (pw_or1 (pt_cmpR op_ge (pv 2) (pe_op op_pow pe_int pe_int) (nomark _)))).pt (pe_callB call_abs (by rfl) m_abs bt_abs (pa_cons (pv 2) pa_nil)) pe_int) (pa_cons (pv 3) (pa_cons pe_int pa_nil))))))))), ?_⟩
    show SDM K _ [.scr _, .imm _, .any, .any, .any] _
    refine sdm_then (e1 := [.scr ns, .imm (.int 0), .imm (.int (cellOf ns)), .any, .any]) (sd_set (ed_if (d := .int (cellOf ns)) (td_test (ed_lt (ed_var rfl) (ed_lenX rfl))) (fun h => ed_is (ed_intC (i := cellOf ns) (ed_ixX rfl (ed_var rfl) ?_)) rfl) (fun h => ed_is (ed_add (ed_add (ed_mul ed_int (ed_var rfl) (cm (B.lit (k := 14) rfl) (B.lit (k := 1) rfl) (by decide) (by decide) (by decide))) ed_int) (ed_mod (ed_intC (ed_sum (ns := []) (ed_is (ed_slX rfl od_no (od_some ed_int)) ?_))) ed_int (by decide))) ?_))) (
      sdm_then (e1 := [.scr ns, .imm (.int 0), .imm (.int (cellOf ns)), .imm (.int 28657), .any]) (sd_set (ed_is (d := .int 28657) (ed_add ed_int (ed_mul ed_int (ed_var rfl) (cm (B.lit (k := 14) rfl) (B.lit (k := 1) rfl) (by decide) (by decide) (by decide)))) rfl)) (
      sdm_seq (N := fun e => ∃ k, e = [.scr ns, .imm (.int 0), .imm (.int (cellOf ns)), .imm (.int (blendOf (ns.take 11 ++ [cellOf ns]) 28657)), k])
        (sd_forM (l := ns.take 11 ++ [cellOf ns]) (f := PyData.int) (fun pre e => 0 ≤ blendOf pre 28657 ∧ blendOf pre 28657 < MB ∧ ∃ k, e = [.scr ns, .imm (.int 0), .imm (.int (cellOf ns)), .imm (.int (blendOf pre 28657)), k]) (id_eq (id_seqL (ed_cat (ed_slX rfl od_no (od_some ed_int)) (ed_lst (ad_cons (ed_var rfl) ad_nil)) ?_)) ?_) ⟨by decide, by decide, .any, rfl⟩ (fun pre x post e' hs hI => ?_) (fun e' hI => hI.2.2)) (fun e hz => ?_)))
    · cases ns with
      | nil => exact absurd (of_decide_eq_true h) (by decide)
      | cons n ns => exact at0
    · cases ns with
      | nil => rfl
      | cons n ns => exact absurd (of_decide_eq_false h) (by simp only [List.length_cons]; omega)
    · cases ns with
      | nil => rfl
      | cons n ns => exact absurd (of_decide_eq_false h) (by simp only [List.length_cons]; omega)
    · show (cutD (ns.map .int) none (some ((11 : Nat) : Int))).length + 1 ≤ 1000
      rw [cut_take, List.length_take]
      omega
    · show cutD (ns.map .int) none (some ((11 : Nat) : Int)) ++ [.int (cellOf ns)] = _
      rw [cut_take, List.map_append, List.map_take]
      rfl
    · obtain ⟨h0, h1, k, rfl⟩ := hI
      have e1 : blendOf (pre ++ [x]) 28657 = (blendOf pre 28657 * 45007 + x % MB + 23) % MB := by unfold blendOf; rw [List.foldl_append]; rfl
      refine ⟨_, _, gd_name, sd_imp (sd_set (ed_mod (ed_intC (ed_add (ed_add (ed_mul (ed_var rfl) ed_int (cm (Bw (k := 32) h0 (Int.lt_trans h1 (by decide))) (B.lit (k := 16) rfl) (by decide) (by decide) (by decide))) (ed_mod (ed_intC (ed_var rfl)) ed_int (by decide))) ed_int)) ed_int (by decide))) fun e' he => ?_⟩
      rw [e1]
      exact ⟨Int.emod_nonneg _ (by decide), Int.emod_lt_of_pos _ (by decide), .imm (.int x), by rw [he]; rfl⟩
    · obtain ⟨k, rfl⟩ := hz
      refine sdm_retE (edm_lst (ad_cons (ed_if (d := .int (tubOf ns).1) (td_or (td_test (ed_lt (ed_var rfl) ed_int)) fun h => td_test (ed_ge (ed_var rfl) (ed_pow ed_int ed_int ⟨by decide, by decide, by decide⟩))) (fun h => ed_is (ed_abs (ed_var rfl)) ?_) (fun h => ed_is ed_int ?_)) (ad_cons (ed_var rfl) (ad_cons ed_int ad_nil))))
      · have h : cellOf ns < 0 ∨ (10 : Int) ^ 18 ≤ cellOf ns := by
          rcases Bool.or_eq_true_iff.mp h with h | h
          · exact .inl (of_decide_eq_true h)
          · exact .inr (of_decide_eq_true h)
        unfold tubOf
        show _ = PyData.int (if _ then _ else _)
        rw [if_pos h]
      · have h : ¬ (cellOf ns < 0 ∨ (10 : Int) ^ 18 ≤ cellOf ns) := by
          obtain ⟨h1, h2⟩ := Bool.or_eq_false_iff.mp h
          rintro (z | z)
          · exact of_decide_eq_false h1 z
          · exact of_decide_eq_false h2 z
        unfold tubOf
        show _ = PyData.int (if _ then _ else _)
        rw [if_neg h]
def R__law_dip (t : Tb) (ds : List PyData) (d : PyData) (t2 : Tb) : Prop := ∃ (k : Nat), (TubOk 1000000 t ∧ 0 < k ∧ k < 1000000000) ∧ ds = [.int (k : Int)] ∧ d = .int ((dip t k).1 : Int) ∧ t2 = (dip t k).2
theorem c__law_dip {t0 : TE} {e0 e1 : List EK} {i : Nat} {t u : Tb} {k : Nat} (hv : e0[i]? = some (.tub u.1 u.2.1 u.2.2)) (a0 : ED K t0 e0 (.int (k : Int)) e1) (hv1 : e1[i]? = some (.tub t.1 t.2.1 t.2.2)) (hp : TubOk 1000000 t ∧ 0 < k ∧ k < 1000000000) (hn : noTub (e1.set i .any) = true := by rfl) : ED K (tCall (spT K R__law_dip) [] E0 (tCons (tVar i) (tCons t0 tNil))) e0 (.int ((dip t k).1 : Int)) (e1.set i (.tub ((dip t k).2).1 ((dip t k).2).2.1 ((dip t k).2).2.2)) := ed_callT hv (ad_cons a0 ad_nil) hv1 ⟨k, hp, rfl, rfl, rfl⟩ hn
abbrev DD__law_dip (P : Program) (w : World) (K : Frag) (mg : Str → Option Value) (base : Heap) : Prop := Def P w K mg base 1 "_law_dip" ["_law_tub_here", "_law_many"] (spT K R__law_dip)
theorem ok__law_dip (T : Top K mg)  : DD__law_dip P w K mg base := by
  obtain ⟨f, fd, F, hm⟩ := T.df "_law_dip" 92 (by decide +kernel)
  have sc : FnScope ["_law_tub_here", "_law_many", "_law_digit", "_law_factor"] ["_law_tub_here", "_law_many"] (defScope (top 92)) := ⟨rfl, rfl, rfl, by decide +kernel, rfl, by decide +kernel, by decide +kernel⟩
  have m_int := T.fr "int" (by decide +kernel)
  have m_divmod := T.fr "divmod" (by decide +kernel)
  refine defT_of F hm sc (fun t ds d t2 h => ?_) (fun _ _ _ _ _ _ us hl => match us, hl with | [_, _], _ => rfl) (fun cdv A outer s H E t ds d t2 hr h => ?_)
  · obtain ⟨k, hp, rfl, rfl, rfl⟩ := h
    rfl
  · obtain ⟨k, hp, rfl, rfl, rfl⟩ := h
    refine ⟨_, (pss_cons (ps_if (pt_cmpR op_gt (pe_ix (r := rIx K) ix_seq (pv 0) pe_int (fun _ _ => rfl)) pe_int (nomark _)) (pss_cons (ps_asg (pe_callB call_divmod (by rfl) m_divmod bt_divmod (pa_cons (pe_ix (r := rIx K) ix_seq (pv 0) pe_int (fun _ _ => rfl)) (pa_cons (pv 1) pa_nil))) (pg_tup rfl (pgs_cons (pg_sub (pv 0) pe_int set_list) (pgs_cons (pg_name (i := 2) sc.nd rfl (Or.inl rfl)) pgs_nil))))
      (pss_one (ps_ret (pv 2)))) pss_nil)
      (pss_cons (ps_asg (pe_op op_add (pe_ix (r := rIx K) ix_seq (pv 0) pe_int (fun _ _ => rfl)) pe_int) (pg_sub (pv 0) pe_int set_list))
      (pss_cons (ps_set (i := 3) sc.nd rfl (Or.inl rfl) (pe_op op_add (pe_op op_mod (pe_callTy call_int1 (by rfl) m_int bt_int (pa_cons (pe_ix (r := rIx K) ix_seq (pv 0) pe_int (fun _ _ => rfl)) pa_nil)) pe_int) pe_int))
      (pss_cons (ps_asg (pe_op op_mod (pe_callTy call_int1 (by rfl) m_int bt_int (pa_cons (pe_op op_add (pe_op op_add (pe_op op_mulW (pe_ix (r := rIx K) ix_seq (pv 0) pe_int (fun _ _ => rfl)) (pv 3)) (pe_op op_mulW pe_int (pe_ix (r := rIx K) ix_seq (pv 0) pe_int (fun _ _ => rfl)))) pe_int) pa_nil)) pe_int) (pg_sub (pv 0) pe_int set_list))
      (pss_one (ps_ret (pe_op op_mod (pe_callTy call_int1 (by rfl) m_int bt_int (pa_cons (pe_op op_fdivX (pe_ix (r := rIx K) ix_seq (pv 0) pe_int (fun _ _ => rfl)) pe_int) pa_nil)) (pv 1)))))))), ?_⟩
    obtain ⟨a, b, c⟩ := t
    obtain ⟨ht, hk, hk2⟩ := hp
    have hb0 : 0 ≤ b := ht.b0
    have hb1 : b < MB := ht.b1
    have hc0 : 0 ≤ c := ht.c0
    have hc1 : c ≤ 1000000 := ht.c1
    show SD K _ [.tub a b c, .imm _, .any, .any] _ _ _ _
    refine sd_leave (td_test (ed_gt (ed_tubAt rfl) ed_int)) (fun h => ?_) (fun h => ?_)
    · have h : 0 < a := of_decide_eq_true h
      have e : dip (a, b, c) k = ((a % (k : Int)).toNat, (a / (k : Int), b, c)) := if_pos h
      have h1 := Int.emod_nonneg a (show (k : Int) ≠ 0 by omega)
      rw [e]
      refine sd_then (sd_asg (ed_divmod (ed_tubAt rfl) (ed_var rfl) ⟨by omega, by omega⟩) (gd_tup (gds_cons (gd_tub rfl) (gds_cons gd_name gds_nil)))) (sd_ret (ed_var rfl) ⟨?_, rfl⟩)
      show PyData.int (a % (k : Int)) = .int (((a % (k : Int)).toNat : Nat) : Int)
      rw [Int.toNat_of_nonneg h1]
    · have h : ¬ 0 < a := of_decide_eq_false h
      have e : dip (a, b, c) k = ((((b * (b % 20021 + 17011) + 60013 * (c + 1) + 7) % MB).fdiv 89 % (k : Int)).toNat, (a, (b * (b % 20021 + 17011) + 60013 * (c + 1) + 7) % MB, c + 1)) := if_neg h
      rw [e]
      have f0 := Int.emod_nonneg b (show (20021 : Int) ≠ 0 by decide)
      have f1 := Int.emod_lt_of_pos b (show (0 : Int) < 20021 by decide)
      have hb32 : B 32 b := Bw hb0 (Int.lt_trans hb1 (by decide))
      have hf : B 17 (b % 20021 + 17011) := B17 (by omega) (by omega)
      have hc : B 30 (c + 1) := B30 (by omega) (by omega)
      refine sd_then (e1 := [.tub a b (c + 1), .imm (encN k), .any, .any]) (sd_asg (ed_add (ed_tubAt rfl) ed_int) (gd_tub (k := 2) rfl)) (
        sd_then (e1 := [.tub a b (c + 1), .imm (encN k), .any, .imm (.int (b % 20021 + 17011))]) (sd_set (ed_add (ed_mod (ed_intC (ed_tubAt rfl)) ed_int (by decide)) ed_int)) (
        sd_then (e1 := [.tub a ((b * (b % 20021 + 17011) + 60013 * (c + 1) + 7) % MB) (c + 1), .imm (encN k), .any, .imm (.int (b % 20021 + 17011))]) (sd_asg (ed_mod (ed_intC (ed_add (ed_add (ed_mul (ed_tubAt rfl) (ed_var rfl) (cm hb32 hf (by decide) (by decide) (by decide))) (ed_mul ed_int (ed_tubAt rfl) (cm (B.lit (k := 16) rfl) hc (by decide) (by decide) (by decide)))) ed_int)) ed_int (by decide)) (gd_tub (k := 1) rfl)) (
        sd_ret (ed_mod (ed_intC (ed_fdiv (ed_tubAt rfl) ed_int (dv (k := 8) (by decide) (B.lit rfl) (by decide) (by decide)))) (ed_var rfl) (by omega)) ⟨?_, rfl⟩)))
      have key : ∀ x : Int, PyData.int (x % (k : Int)) = .int (((x % (k : Int)).toNat : Nat) : Int) := fun x => by rw [Int.toNat_of_nonneg (Int.emod_nonneg x (by omega))]
      exact key _
def ofT (t : Tb) (ds : List PyData) : PyData × Tb := (ds.getD (dip t ds.length).1 .none, (dip t ds.length).2)
def R__law_of (t : Tb) (ds : List PyData) (d : PyData) (t2 : Tb) : Prop := ∃ (z : Bool × List PyData), (TubOk 1000000 t ∧ 0 < z.2.length ∧ z.2.length < 1000) ∧ ds = [sq z.1 z.2] ∧ d = (ofT t z.2).1 ∧ t2 = (ofT t z.2).2
theorem c__law_of {t0 : TE} {e0 e1 : List EK} {i : Nat} {t u : Tb} {z : Bool × List PyData} (hv : e0[i]? = some (.tub u.1 u.2.1 u.2.2)) (a0 : ED K t0 e0 (sq z.1 z.2) e1) (hv1 : e1[i]? = some (.tub t.1 t.2.1 t.2.2)) (hp : TubOk 1000000 t ∧ 0 < z.2.length ∧ z.2.length < 1000) (hn : noTub (e1.set i .any) = true := by rfl) : ED K (tCall (spT K R__law_of) [] E0 (tCons (tVar i) (tCons t0 tNil))) e0 ((ofT t z.2).1) (e1.set i (.tub ((ofT t z.2).2).1 ((ofT t z.2).2).2.1 ((ofT t z.2).2).2.2)) := ed_callT hv (ad_cons a0 ad_nil) hv1 ⟨z, hp, rfl, rfl, rfl⟩ hn
abbrev DD__law_of (P : Program) (w : World) (K : Frag) (mg : Str → Option Value) (base : Heap) : Prop := Def P w K mg base 2 "_law_of" ["_law_tub_here", "_law_some"] (spT K R__law_of)
theorem ok__law_of (T : Top K mg) (D__law_dip : DD__law_dip P w K mg base) : DD__law_of P w K mg base := by
  obtain ⟨f, fd, F, hm⟩ := T.df "_law_of" 93 (by decide +kernel)
  have sc : FnScope ["_law_tub_here", "_law_some"] ["_law_tub_here", "_law_some"] (defScope (top 93)) := ⟨rfl, rfl, rfl, by decide +kernel, rfl, by decide +kernel, by decide +kernel⟩
  have m_len := T.fr "len" (by decide +kernel)
  refine defT_of F hm sc (fun t ds d t2 h => ?_) (fun _ _ _ _ _ _ us hl => match us, hl with | [_, _], _ => rfl) (fun cdv A outer s H E t ds d t2 hr h => ?_)
  · obtain ⟨z, hp, rfl, rfl, rfl⟩ := h
    rfl
  · obtain ⟨z, hp, rfl, rfl, rfl⟩ := h
    have hr1 := hr.mono (j := 1) (by decide)
    refine ⟨_, (pss_one (ps_ret (pe_ix (r := rIx K) ix_seq (pv 1) (pe_def D__law_dip hr1 (by rfl) (pa_cons (pv 0) (pa_cons (pe_callB call_len_seq (by rfl) m_len bt_len (pa_cons (pv 1) pa_nil)) pa_nil))) (fun _ _ => rfl)))), ?_⟩
    obtain ⟨ht, hk, hk2⟩ := hp
    have hlt := dip_lt t hk
    show SD K _ [.tub t.1 t.2.1 t.2.2, .imm _] _ _ _ _
    refine sd_ret (ed_ixS (b := z.1) (ds := z.2) (ed_var rfl) (c__law_dip (t := t) (u := t) (k := z.2.length) (i := 0) rfl (ed_lenS (b := z.1) (ed_var rfl)) rfl ⟨ht, hk, by omega⟩) (atN ?_)) ⟨rfl, rfl⟩
    unfold ofT
    dsimp only
    rw [List.getD_eq_getElem?_getD, List.getElem?_eq_getElem hlt]
    rfl
def aboutT (t : Tb) (k : Nat) : Int × Tb := (((dip t (2 * k + 1)).1 : Int) - (k : Int), (dip t (2 * k + 1)).2)
theorem about_lo (t : Tb) (k : Nat) : -(k : Int) ≤ (aboutT t k).1 ∧ (aboutT t k).1 ≤ k := by
  have := dip_lt t (show 0 < 2 * k + 1 by omega)
  show -(k : Int) ≤ ((dip t (2 * k + 1)).1 : Int) - (k : Int) ∧ ((dip t (2 * k + 1)).1 : Int) - (k : Int) ≤ k
  omega
def R__law_about (t : Tb) (ds : List PyData) (d : PyData) (t2 : Tb) : Prop := ∃ (k : Nat), (TubOk 1000000 t ∧ k < 1000) ∧ ds = [.int (k : Int)] ∧ d = .int (aboutT t k).1 ∧ t2 = (aboutT t k).2
theorem c__law_about {t0 : TE} {e0 e1 : List EK} {i : Nat} {t u : Tb} {k : Nat} (hv : e0[i]? = some (.tub u.1 u.2.1 u.2.2)) (a0 : ED K t0 e0 (.int (k : Int)) e1) (hv1 : e1[i]? = some (.tub t.1 t.2.1 t.2.2)) (hp : TubOk 1000000 t ∧ k < 1000) (hn : noTub (e1.set i .any) = true := by rfl) : ED K (tCall (spT K R__law_about) [] E0 (tCons (tVar i) (tCons t0 tNil))) e0 (.int (aboutT t k).1) (e1.set i (.tub ((aboutT t k).2).1 ((aboutT t k).2).2.1 ((aboutT t k).2).2.2)) := ed_callT hv (ad_cons a0 ad_nil) hv1 ⟨k, hp, rfl, rfl, rfl⟩ hn
abbrev DD__law_about (P : Program) (w : World) (K : Frag) (mg : Str → Option Value) (base : Heap) : Prop := Def P w K mg base 2 "_law_about" ["_law_tub_here", "_law_wide"] (spT K R__law_about)
theorem ok__law_about (T : Top K mg) (D__law_dip : DD__law_dip P w K mg base) : DD__law_about P w K mg base := by
  obtain ⟨f, fd, F, hm⟩ := T.df "_law_about" 94 (by decide +kernel)
  have sc : FnScope ["_law_tub_here", "_law_wide"] ["_law_tub_here", "_law_wide"] (defScope (top 94)) := ⟨rfl, rfl, rfl, by decide +kernel, rfl, by decide +kernel, by decide +kernel⟩
  refine defT_of F hm sc (fun t ds d t2 h => ?_) (fun _ _ _ _ _ _ us hl => match us, hl with | [_, _], _ => rfl) (fun cdv A outer s H E t ds d t2 hr h => ?_)
  · obtain ⟨k, hp, rfl, rfl, rfl⟩ := h
    rfl
  · obtain ⟨k, hp, rfl, rfl, rfl⟩ := h
    have hr1 := hr.mono (j := 1) (by decide)
    refine ⟨_, (pss_one (ps_ret (pe_op op_sub (pe_def D__law_dip hr1 (by rfl) (pa_cons (pv 0) (pa_cons (pe_op op_add (pe_op op_mulW pe_int (pv 1)) pe_int) pa_nil))) (pv 1)))), ?_⟩
    obtain ⟨ht, hk2⟩ := hp
    have hkb : B 10 (k : Int) := B10 (by omega) (by omega)
    show SD K _ [.tub t.1 t.2.1 t.2.2, .imm _] _ _ _ _
    refine sd_ret (ed_sub (c__law_dip (t := t) (u := t) (k := 2 * k + 1) (i := 0) rfl (ed_is (ed_add (ed_mul ed_int (ed_var rfl) (cm (B.lit (k := 2) rfl) hkb (by decide) (by decide) (by decide))) ed_int) (by congr 1)) rfl ⟨ht, by omega, by omega⟩) (ed_var rfl)) ⟨rfl, rfl⟩
end
end Hull
namespace Hull
open PySem PySem.Spec PyProof.Rows L2
section
variable {P : Program} {w : World} {K : Frag} {mg : Str → Option Value} {base : Heap}
theorem lcm_fdiv (a b : Nat) : ((a : Int) * (b : Int)).fdiv ((Nat.gcd (a : Int).natAbs (b : Int).natAbs : Nat) : Int) = ((Nat.lcm a b : Nat) : Int) := by
  rw [Int.natAbs_natCast, Int.natAbs_natCast, ← Int.natCast_mul, grid_gp]
  rfl
def srtP (S : List P2) : List P2 := srtB ltP S
def R__law_ordered (ds : List PyData) (d : PyData) : Prop := ∃ (S : List P2), (Ps 900 S ∧ S.length < 64 ∧ grid S < 2 ^ 3000) ∧ ds = [.list (S.map encP)] ∧ d = .list ((srtP S).map encP)
theorem c__law_ordered {t0 : TE} {e0 e1 : List EK} {S : List P2} (a0 : ED K t0 e0 (.list (S.map encP)) e1) (hp : Ps 900 S ∧ S.length < 64 ∧ grid S < 2 ^ 3000) : ED K (tCall (spP K R__law_ordered) [] E0 (tCons t0 tNil)) e0 (.list ((srtP S).map encP)) e1 := ed_call (ad_cons a0 ad_nil) ⟨S, hp, rfl, rfl⟩
abbrev DD__law_ordered (P : Program) (w : World) (K : Frag) (mg : Str → Option Value) (base : Heap) : Prop := Def P w K mg base 3 "_law_ordered" ["_law_points"] (spP K R__law_ordered)
theorem ok__law_ordered (T : Top K mg) (D__law_gcd : DD__law_gcd P w K mg base) (D__law_cut : DD__law_cut P w K mg base) : DD__law_ordered P w K mg base := by
  obtain ⟨f, fd, F, hm⟩ := T.df "_law_ordered" 113 (by decide +kernel)
  have sc : FnScope ["_law_points", "_law_deep", "_law_each", "_law_rows", "_law_x", "_law_y"] ["_law_points"] (defScope (top 113)) := ⟨rfl, rfl, rfl, by decide +kernel, rfl, by decide +kernel, by decide +kernel⟩
  have m_sorted := T.fr "sorted" (by decide +kernel)
  have m_set := T.fr "set" (by decide +kernel)
  refine def_of F hm sc (fun ds d h => ?_) (fun _ _ _ _ _ _ us hl => match us, hl with | [_], _ => rfl) (fun cdv A outer s H E ds d hr h => ?_)
  · obtain ⟨S, hp, rfl, rfl⟩ := h
    rfl
  · obtain ⟨S, hp, rfl, rfl⟩ := h
    have hr1 := hr.mono (j := 1) (by decide)
    have hr2 := hr.mono (j := 2) (by decide)
    obtain ⟨hP, hl, hL⟩ := hp
    refine ⟨_, (pss_cons (ps_set (i := 1) sc.nd rfl (Or.inr rfl) pe_int)
      (pss_cons (ps_for PassesOwn.never rfl (pi_seq (pv 0)) (pg_name (i := 2) sc.nd rfl (Or.inl rfl)) (pss_one (ps_set (i := 1) sc.nd rfl (Or.inr rfl) (pe_op op_fdivX (pe_op op_mulW (pv 1) (pe_ix (r := rIx K) ix_seq (pv 2) pe_int (fun _ _ => rfl))) (pe_def D__law_gcd hr1 (by rfl) (pa_cons (pv 1) (pa_cons (pe_ix (r := rIx K) ix_seq (pv 2) pe_int (fun _ _ => rfl)) pa_nil)))))))
      (pss_cons (ps_set (i := 3) sc.nd rfl (Or.inl rfl) (pe_callB (cr_sortG rfl) (by rfl) m_sorted bt_sorted (pa_cons (pe_callTy (cr_setOfT rfl hr.units) (by rfl) m_set bt_set (pa_cons (pe_lc (own := [("_law_each", 2)]) rfl sc.nd (pi_seq (pv 0)) (blkOk_by (own := [("_law_each", 2)]) (N := ["_law_points", "_law_deep", "_law_each", "_law_rows", "_law_x", "_law_y"]) (sc := defScope (top 113)) (by decide +kernel)) (fun _ _ _ _ _ => (pg_name (i := 2) sc.nd rfl (Or.inl rfl))) (fun _ _ _ _ _ => pts_nil) (fun _ _ _ _ _ => (pe_tup (pa_cons (pe_op op_mulW (pe_ix (r := rIx K) ix_seq (pv 2) pe_int (fun _ _ => rfl)) (pe_op op_fdivX (pv 1) (pe_ix (r := rIx K) ix_seq (pv 2) pe_int (fun _ _ => rfl)))) (pa_cons (pe_op op_mulW (pe_ix (r := rIx K) ix_seq (pv 2) pe_int (fun _ _ => rfl)) (pe_op op_fdivX (pv 1) (pe_ix (r := rIx K) ix_seq (pv 2) pe_int (fun _ _ => rfl)))) pa_nil))))) pa_nil)) pa_nil)))
      (pss_one (ps_ret (pe_lc (g := gTup K 2 (gCons (gName 4) (gCons (gName 5) gNil))) (own := [("_law_x", 4), ("_law_y", 5)]) rfl sc.nd (pi_seq (pv 3)) (blkOk_by (own := [("_law_x", 4), ("_law_y", 5)]) (N := ["_law_points", "_law_deep", "_law_each", "_law_rows", "_law_x", "_law_y"]) (sc := defScope (top 113)) (by decide +kernel)) (fun _ _ _ _ _ => (pg_tup rfl (pgs_cons (pg_name (i := 4) sc.nd rfl (Or.inl rfl)) (pgs_cons (pg_name (i := 5) sc.nd rfl (Or.inl rfl)) pgs_nil)))) (fun _ _ _ _ _ => pts_nil) (fun _ _ _ _ _ => (pe_def D__law_cut hr2 (by rfl) (pa_cons (pe_tup (pa_cons (pv 4) (pa_cons (pv 5) (pa_cons (pv 1) pa_nil)))) pa_nil))))))))), ?_⟩
    have hg0 := grid_pos S
    have hlt : grid S < 2 ^ 3900 := Nat.lt_of_lt_of_le hL (Nat.pow_le_pow_right (by decide) (by decide))
    have hqb : ∀ q ∈ S.map (gp (grid S)), Bu 3900 q := fun q hq => by
      obtain ⟨p, hp, rfl⟩ := List.mem_map.mp hq
      exact gp_B (hP p hp) hL
    have hbp : ∀ q ∈ S.map (gp (grid S)), Bp (2 ^ 3900) q := fun q hq => by
      have h : q.2.natAbs < 2 ^ 3900 := (hqb q hq).2
      generalize ez : (2 : Nat) ^ 3900 = z at h
      have e2 : (2 : Int) ^ 3900 = (z : Int) := by rw [← ez, Int.natCast_pow]; rfl
      unfold Bp
      rw [e2]
      omega
    show SD K _ [.imm _, .any, .any, .any, .any, .any] _ _ _ _
    refine sd_then (e1 := [.imm (.list (S.map encP)), .imm (encN 1), .any, .any, .any, .any]) (sd_set ed_int) (
      sd_seq (N := fun e => ∃ k, e = [.imm (.list (S.map encP)), .imm (encN (grid S)), k, .any, .any, .any])
        (sd_forM (fun pre e => ∃ k, e = [.imm (.list (S.map encP)), .imm (encN (grid pre)), k, .any, .any, .any]) (id_seqL (ed_var rfl)) ⟨.any, rfl⟩ (fun pre x post e' hs hI => ?_) (fun e' hI => hI)) (fun e hz => ?_))
    · obtain ⟨k, rfl⟩ := hI
      have hx : x ∈ S := by rw [hs]; exact List.mem_append_right _ List.mem_cons_self
      have hg : grid pre < 2 ^ 3900 := by
        have h := grid_take S pre.length
        rw [hs, List.take_left] at h
        rw [hs] at hlt
        omega
      have hgp := grid_pos pre
      refine ⟨_, _, gd_name, sd_imp (sd_set (ed_is (d := encN (grid (pre ++ [x]))) (ed_fdiv (ed_mul (ed_var rfl) (ed_ixT (ed_var rfl) ed_int at2) (cm (B_nat hg) (hP x hx).w (by decide) (by decide) (by decide))) (c__law_gcd (ed_var rfl) (ed_ixT (ed_var rfl) ed_int at2) trivial) ?_) ?_)) fun e' he => ⟨.imm (encP x), ?_⟩⟩
      · have hw := W_pos x
        refine dv (k := 3900) ?_ (B_nat ?_) (by decide) (by decide)
        · rw [Int.natAbs_natCast, Int.natAbs_natCast]
          have := Nat.gcd_pos_of_pos_left x.W hgp
          omega
        · rw [Int.natAbs_natCast, Int.natAbs_natCast]
          exact Nat.lt_of_le_of_lt (Nat.le_of_dvd hgp (Nat.gcd_dvd_left _ _)) hg
      · rw [grid_app, lcm_fdiv]
      · rw [he]
        rfl
    · obtain ⟨k, rfl⟩ := hz
      refine sd_wk (e1 := [.imm (.list (S.map encP)), .imm (encN (grid S)), .any, .any, .any, .any]) ?_ ⟨.inr rfl, .inr rfl, .inl rfl, .inr rfl, .inr rfl, .inr rfl, trivial⟩
      refine sd_then (e1 := [.imm (.list (S.map encP)), .imm (encN (grid S)), .any, .imm (encUs (srtB ltU (S.map (gp (grid S))))), .any, .any]) (sd_set (ed_sortSet (qs := S.map (gp (grid S))) (ed_is (ed_lcM (h := fun p => encU (gp (grid S) p)) (id_seqL (ed_var rfl)) (by rfl) (by omega) fun p hp' => ⟨_, [2], fun j h => h, gd_name, ?_⟩) (by rw [List.map_map]; rfl)) (by rw [List.length_map]; exact hl) hbp)) (
        sd_retD (ed_is (ed_lcM (h := fun q : Int × Int => encP ⟨(q.1 : Rat) / (((grid S : Nat) : Int) : Rat), (q.2 : Rat) / (((grid S : Nat) : Int) : Rat)⟩) (id_seqL (ed_var rfl)) (by rfl) ?_ fun q hq => ⟨_, [4, 5], fun j h => h, gd_tup (gds_cons gd_name (gds_cons gd_name gds_nil)), c_cut3 (ed_tup (ad_cons (ed_var rfl) (ad_cons (ed_var rfl) (ad_cons (ed_var rfl) ad_nil)))) (by omega) (B_nat (Nat.lt_of_lt_of_le hL (Nat.pow_le_pow_right (by decide) (by decide)))) rfl⟩) ?_))
      · have hw := W_pos p
        have hc : CDivX ((grid S : Nat) : Int) (p.W : Int) := dv (W_ne' p) (hP p hp').w (by decide) (by decide)
        have hq : B 3900 (((grid S / p.W : Nat)) : Int) := B_nat (Nat.lt_of_le_of_lt (Nat.div_le_self _ _) hlt)
        refine ed_is (ed_tup (ad_cons (ed_mul (ed_ixT (ed_var rfl) ed_int at0) (ed_fdiv (ed_var rfl) (ed_ixT (ed_var rfl) ed_int at2) hc) ?_) (ad_cons (ed_mul (ed_ixT (ed_var rfl) ed_int at1) (ed_fdiv (ed_var rfl) (ed_ixT (ed_var rfl) ed_int at2) hc) ?_) ad_nil))) ?_
        · rw [grid_gp]; exact cm (hP p hp').x hq (by decide) (by decide) (by decide)
        · rw [grid_gp]; exact cm (hP p hp').y hq (by decide) (by decide) (by decide)
        · rw [grid_gp]
          rfl
      · have := srtB_len ordU (S.map (gp (grid S)))
        rw [List.length_map] at this
        omega
      · have e : srtB ltU (S.map (gp (grid S))) = (srtB ltP S).map (gp (grid S)) := srtB_map ordP ordU fun x hx y hy => gp_lt hg0 (grid_dvd hx) (grid_dvd hy)
        rw [e, List.map_map]
        refine congrArg PyData.list (List.map_congr_left fun p hp => ?_)
        show encP _ = encP p
        rw [gp_back hg0 (grid_dvd ((mem_srtB ordP).mp hp))]
/-- the law's hull is the program's -/
def lawHull (S : List P2) : List P2 := if (srtP S).length < 3 then srtP S else (chain bendP (srtP S)).dropLast ++ (chain bendP (srtP S).reverse).dropLast
theorem lawHull_eq (S : List P2) : lawHull S = hullP S := by
  unfold lawHull hullP srtP
  match srtB ltP S with
  | [] => rfl
  | [_] => rfl
  | [a, b] => rfl
  | a :: b :: c :: l => rw [if_neg (by simp only [List.length_cons]; omega), if_neg (by simp only [List.length_cons]; omega)]
theorem bend_sg {a b x : P2} : (!decide (sg (tri a b x) ≤ 0)) = bendP a b x := by
  unfold bendP sg
  by_cases h : 0 < tri a b x
  · rw [if_pos h, decide_eq_true h]; rfl
  · rw [if_neg h, decide_eq_false h]
    by_cases h2 : tri a b x < 0
    · rw [if_pos h2]; rfl
    · rw [if_neg h2]; rfl
def R__law_hull (ds : List PyData) (d : PyData) : Prop := ∃ (S : List P2), (Ps 900 S ∧ S.length < 64 ∧ grid S < 2 ^ 3000) ∧ ds = [.list (S.map encP)] ∧ d = encS (hullP S)
theorem c__law_hull {t0 : TE} {e0 e1 : List EK} {S : List P2} (a0 : ED K t0 e0 (.list (S.map encP)) e1) (hp : Ps 900 S ∧ S.length < 64 ∧ grid S < 2 ^ 3000) : ED K (tCall (spP K R__law_hull) [] E0 (tCons t0 tNil)) e0 (encS (hullP S)) e1 := ed_call (ad_cons a0 ad_nil) ⟨S, hp, rfl, rfl⟩
abbrev DD__law_hull (P : Program) (w : World) (K : Frag) (mg : Str → Option Value) (base : Heap) : Prop := Def P w K mg base 6 "_law_hull" ["_law_points"] (spP K R__law_hull)
theorem ok__law_hull (T : Top K mg) (D__law_sense : DD__law_sense P w K mg base) (D__law_ordered : DD__law_ordered P w K mg base) : DD__law_hull P w K mg base := by
  obtain ⟨f, fd, F, hm⟩ := T.df "_law_hull" 114 (by decide +kernel)
  have sc : FnScope ["_law_points", "_law_rows", "_law_sides", "_law_line", "_law_side", "_law_each"] ["_law_points"] (defScope (top 114)) := ⟨rfl, rfl, rfl, by decide +kernel, rfl, by decide +kernel, by decide +kernel⟩
  have m_tuple := T.fr "tuple" (by decide +kernel)
  have m_len := T.fr "len" (by decide +kernel)
  refine def_of F hm sc (fun ds d h => ?_) (fun _ _ _ _ _ _ us hl => match us, hl with | [_], _ => rfl) (fun cdv A outer s H E ds d hr h => ?_)
  · obtain ⟨S, hp, rfl, rfl⟩ := h
    rfl
  · obtain ⟨S, hp, rfl, rfl⟩ := h
    have hr3 := hr.mono (j := 3) (by decide)
    have hr5 := hr.mono (j := 5) (by decide)
    obtain ⟨hP, hl, hL⟩ := hp
    refine ⟨_, (pss_cons (ps_set (i := 1) sc.nd rfl (Or.inl rfl) (pe_def D__law_ordered hr3 (by rfl) (pa_cons (pv 0) pa_nil)))
      (pss_cons (ps_if (pt_cmpR op_lt (pe_callB call_len_seq (by rfl) m_len bt_len (pa_cons (pv 1) pa_nil)) pe_int (nomark _)) (pss_one (ps_ret (pe_callTy call_tuple_of (by rfl) m_tuple bt_tuple (pa_cons (pv 1) pa_nil)))) pss_nil)
      (pss_cons (ps_set (i := 2) sc.nd rfl (Or.inl rfl) (pe_lst pa_nil))
      (pss_cons (ps_for PassesOwn.never rfl (pi_seq (pe_lst (pa_cons (pv 1) (pa_cons (pe_revL (pv 1)) pa_nil)))) (pg_name (i := 3) sc.nd rfl (Or.inl rfl)) (pss_cons (ps_set (i := 4) sc.nd rfl (Or.inl rfl) (pe_lst pa_nil))
      (pss_cons (ps_for PassesOwn.never rfl (pi_seq (pv 3)) (pg_name (i := 5) sc.nd rfl (Or.inl rfl)) (pss_cons (ps_while PassesOwn.never (pw_and (pt_cmpR op_gt (pe_callB call_len_seq (by rfl) m_len bt_len (pa_cons (pv 4) pa_nil)) pe_int (nomark _)) (pw_and1 (pt_cmpR op_le (pe_def D__law_sense hr5 (by rfl) (pa_cons (pe_ix (r := rIx K) ix_seq (pv 4) (pe_un un_neg pe_int) (fun _ _ => rfl)) (pa_cons (pe_ix (r := rIx K) ix_seq (pv 4) (pe_un un_neg pe_int) (fun _ _ => rfl)) (pa_cons (pv 5) pa_nil)))) pe_int (nomark _)))).pt (pss_one (ps_expr (pe_bm0 PySem.F.plainAttrs_list PySem.F.slot_list_pop PySem.F.type_list_pop mt_pop (pv 4)))))
      (pss_one (ps_expr (pe_bm PySem.F.plainAttrs_list PySem.F.slot_list_append PySem.F.type_list_append mt_append (pv 4) (pa_cons (pv 5) pa_nil))))))
      (pss_one (ps_set (i := 2) sc.nd rfl (Or.inl rfl) (pe_op op_cat (pv 2) (pe_slice sl_list (pv 4) po_none (po_some (pe_un un_neg pe_int)))))))))
      (pss_one (ps_ret (pe_callTy call_tuple_of (by rfl) m_tuple bt_tuple (pa_cons (pv 2) pa_nil)))))))), ?_⟩
    have hsl : (srtP S).length < 64 := Nat.lt_of_le_of_lt (srtB_len ordP S) hl
    have hsP : ∀ p ∈ srtP S, Pm 900 p := fun p hp => hP p ((mem_srtB ordP).mp hp)
    rw [← lawHull_eq]
    show SD K _ [.imm _, .any, .any, .any, .any, .any] _ _ _ _
    refine sd_then (e1 := [.imm (.list (S.map encP)), .imm (.list ((srtP S).map encP)), .any, .any, .any, .any]) (sd_set (c__law_ordered (ed_var rfl) ⟨hP, hl, hL⟩)) (
      sd_leave (td_test (ed_lt (ed_lenL (ed_var rfl)) ed_int)) (fun h => sd_retD (ed_is (ed_tupOf (ed_var rfl)) ?_)) (fun h =>
      sd_then (e1 := [.imm (.list (S.map encP)), .imm (.list ((srtP S).map encP)), .imm (.list []), .any, .any, .any]) (sd_set (ed_lst ad_nil)) (
      sd_seq (N := fun e => ∃ k1 k2 k3, e = [.imm (.list (S.map encP)), .imm (.list ((srtP S).map encP)), .imm (.list (((chain bendP (srtP S)).dropLast ++ (chain bendP (srtP S).reverse).dropLast).map encP)), k1, k2, k3])
        (sd_forM (l := [srtP S, (srtP S).reverse]) (f := fun l => PyData.list (l.map encP)) (fun pre e => ∃ k1 k2 k3, e = [.imm (.list (S.map encP)), .imm (.list ((srtP S).map encP)), .imm (.list ((pre.flatMap fun l => (chain bendP l).dropLast).map encP)), k1, k2, k3]) (id_seqL (ed_is (ed_lst (ad_cons (ed_var rfl) (ad_cons (ed_rev (ed_var rfl)) ad_nil))) (by rw [← List.map_reverse]; rfl))) ⟨.any, .any, .any, rfl⟩ (fun pre line post e' hs hI => ?_) (fun e' hI => ?_)) (fun e hz => ?_))))
    · have h : ((((srtP S).map encP).length : Nat) : Int) < 3 := of_decide_eq_true h
      rw [List.length_map] at h
      unfold lawHull
      rw [if_pos (by omega)]
    · obtain ⟨k1, k2, k3, rfl⟩ := hI
      have hline : line = srtP S ∨ line = (srtP S).reverse := by
        have : line ∈ [srtP S, (srtP S).reverse] := by rw [hs]; exact List.mem_append_right _ List.mem_cons_self
        simpa using this
      have hll : line.length < 64 := by
        rcases hline with h | h
        · rw [h]; exact hsl
        · rw [h, List.length_reverse]; exact hsl
      have hlP : ∀ p ∈ line, Pm 900 p := by
        rcases hline with h | h
        · rw [h]; exact hsP
        · rw [h]; exact fun p hp => hsP p (List.mem_reverse.mp hp)
      have hpl : (pre.flatMap fun l => (chain bendP l).dropLast).length ≤ 200 := by
        have h2 : pre.length ≤ 1 := by
          have := congrArg List.length hs
          simp only [List.length_cons, List.length_nil, List.length_append] at this
          omega
        match pre, h2, hs with
        | [], _, _ => exact Nat.zero_le _
        | [l], _, hs =>
          have e : l = srtP S := by
            have := congrArg List.head? hs
            simpa using this.symm
          rw [e]
          simp only [List.flatMap_cons, List.flatMap_nil, List.append_nil, List.length_dropLast]
          have := chain_len (bend := bendP) (l := srtP S)
          omega
      refine ⟨[.imm (.list (S.map encP)), .imm (.list ((srtP S).map encP)), .imm (.list ((pre.flatMap fun l => (chain bendP l).dropLast).map encP)), .imm (.list (line.map encP)), k2, k3], _, gd_name, ?_⟩
      refine sd_then (e1 := [.imm (.list (S.map encP)), .imm (.list ((srtP S).map encP)), .imm (.list ((pre.flatMap fun l => (chain bendP l).dropLast).map encP)), .imm (.list (line.map encP)), .lis [], k3]) (sd_wk (e1 := [.imm (.list (S.map encP)), .imm (.list ((srtP S).map encP)), .imm (.list ((pre.flatMap fun l => (chain bendP l).dropLast).map encP)), .imm (.list (line.map encP)), .any, k3]) (sd_setM (edm_lst ad_nil)) ⟨.inr rfl, .inr rfl, .inr rfl, .inr rfl, .inl rfl, .inr rfl, trivial⟩) (
        sd_seq (N := fun e => ∃ k, e = [.imm (.list (S.map encP)), .imm (.list ((srtP S).map encP)), .imm (.list ((pre.flatMap fun l => (chain bendP l).dropLast).map encP)), .imm (.list (line.map encP)), .lis ((chain bendP line).map encP), k])
          (sd_forM (fun pr e => ∃ k, e = [.imm (.list (S.map encP)), .imm (.list ((srtP S).map encP)), .imm (.list ((pre.flatMap fun l => (chain bendP l).dropLast).map encP)), .imm (.list (line.map encP)), .lis ((chain bendP pr).map encP), k]) (id_seqL (ed_var rfl)) ⟨k3, rfl⟩ (fun pr x ps e' hs2 hI => ?_) (fun e' hI => hI)) (fun e hz => ?_))
      · obtain ⟨k, rfl⟩ := hI
        have hx : x ∈ line := by rw [hs2]; exact List.mem_append_right _ List.mem_cons_self
        have hpr : ∀ z ∈ pr, z ∈ line := fun z hz => by rw [hs2]; exact List.mem_append_left _ hz
        have hlp : pr.length < 64 := by
          have := congrArg List.length hs2
          rw [List.length_append, List.length_cons] at this
          omega
        have hst : ∀ z ∈ chainR bendP pr, Pm 900 z := fun z hz => hlP z (hpr z (chain_sub (bend := bendP) (List.mem_reverse.mpr hz)))
        refine ⟨[.imm (.list (S.map encP)), .imm (.list ((srtP S).map encP)), .imm (.list ((pre.flatMap fun l => (chain bendP l).dropLast).map encP)), .imm (.list (line.map encP)), .lis ((chain bendP pr).map encP), .imm (encP x)], _, gd_name, sd_seq (N := fun e => e = [.imm (.list (S.map encP)), .imm (.list ((srtP S).map encP)), .imm (.list ((pre.flatMap fun l => (chain bendP l).dropLast).map encP)), .imm (.list (line.map encP)), .lis ((popR bendP x (chainR bendP pr)).reverse.map encP), .imm (encP x)])
          (sd_while (fun m e => ∃ st, m = st.length ∧ popR bendP x st = popR bendP x (chainR bendP pr) ∧ (∀ z ∈ st, Pm 900 z) ∧ e = [.imm (.list (S.map encP)), .imm (.list ((srtP S).map encP)), .imm (.list ((pre.flatMap fun l => (chain bendP l).dropLast).map encP)), .imm (.list (line.map encP)), .lis (st.reverse.map encP), .imm (encP x)]) _ ⟨chainR bendP pr, rfl, rfl, hst, rfl⟩ (fun m e' hI => ?_)) (fun e hz => ?_)⟩
        · obtain ⟨st, rfl, hpop, hBs, rfl⟩ := hI
          match st, hpop, hBs with
          | [], hpop, hBs => exact ⟨false, _, td_is (td_and (td_test (ed_gt (ed_lenM rfl) ed_int)) (c := false) fun h => absurd h (by decide)) rfl, (fun h => nomatch h), fun _ => by rw [← hpop]; rfl⟩
          | [b], hpop, hBs => exact ⟨false, _, td_is (td_and (td_test (ed_gt (ed_lenM rfl) ed_int)) (c := false) fun h => absurd h (by simp)) (by simp), (fun h => nomatch h), fun _ => by rw [← hpop]; rfl⟩
          | b :: a :: r, hpop, hBs =>
            have e1 : (b :: a :: r).reverse.map encP = r.reverse.map encP ++ [encP a] ++ [encP b] := by simp
            refine ⟨!bendP a b x, _, td_is (td_and (td_test (ed_gt (ed_lenM rfl) ed_int)) (c := !bendP a b x) fun h => (td_is (td_test (ed_le (c__law_sense (p := a) (q := b) (r := x) (ed_ixM rfl (ed_neg ed_int) (by rw [e1]; exact at_prev)) (ed_ixM rfl (ed_neg ed_int) (by rw [e1]; exact at_last)) (ed_var rfl) ⟨hBs a (by simp), hBs b (by simp), hlP x hx⟩) ed_int)) (by rw [← bend_sg, Bool.not_not]))) ?_, fun h => ?_, fun h => ?_⟩
            · rw [decide_eq_true (show (1 : Int) < (((b :: a :: r).reverse.map encP).length : Int) by rw [List.length_map, List.length_reverse, List.length_cons, List.length_cons]; omega)]
              rfl
            · have hb : bendP a b x = false := by simpa using h
              refine sd_imp (sd_pop rfl (by simp)) fun e' he => ⟨_, ?_, a :: r, rfl, ?_, fun z hz => hBs z (List.mem_cons_of_mem _ hz), ?_⟩
              · simp only [List.length_cons]; omega
              · rw [← hpop]
                conv => rhs; unfold popR
                rw [hb]
                rfl
              · rw [he, e1, List.dropLast_concat]
                simp
            · have hb : bendP a b x = true := by simpa using h
              rw [← hpop]
              unfold popR
              rw [hb]
              rfl
        · subst hz
          refine sd_imp (sd_app rfl (ed_var rfl) rfl ?_) fun e' he => ⟨.imm (encP x), ?_⟩
          · have h1 := popR_len (bend := bendP) x (st := chainR bendP pr)
            have h2 := chain_len (bend := bendP) (l := pr)
            unfold chain at h2
            rw [List.length_reverse] at h2
            rw [List.length_map, List.length_reverse]
            omega
          · rw [he]
            have ec : chain bendP (pr ++ [x]) = (popR bendP x (chainR bendP pr)).reverse ++ [x] := by
              unfold chain chainR
              rw [List.foldl_append]
              show (stepR bendP _ x).reverse = _
              unfold stepR
              rw [List.reverse_cons]
            rw [ec, List.map_append]
            rfl
      · obtain ⟨k, rfl⟩ := hz
        refine sd_imp (sd_set (ed_cat (ed_var rfl) (ed_slM rfl od_no (od_some (ed_neg ed_int))) ?_)) fun e' he => ⟨.imm (.list (line.map encP)), .lis ((chain bendP line).map encP), k, ?_⟩
        · show _ + (cutD _ none (some (-1))).length ≤ 1000
          rw [cut_most, List.length_dropLast, List.length_map, List.length_map]
          have := chain_len (bend := bendP) (l := line)
          omega
        · rw [he, List.flatMap_append, List.flatMap_singleton]
          show [_, _, EK.imm (.list (_ ++ cutD _ none (some (-1)))), _, _, _] = _
          rw [cut_most, List.map_append, List.map_dropLast]
    · obtain ⟨k1, k2, k3, rfl⟩ := hI
      refine ⟨k1, k2, k3, ?_⟩
      simp only [List.flatMap_cons, List.flatMap_nil, List.append_nil]
    · obtain ⟨k1, k2, k3, rfl⟩ := hz
      refine sd_wk (e1 := [_, _, _, .any, .any, .any]) (sd_retD (ed_is (ed_tupOf (ed_var rfl)) ?_)) ⟨.inr rfl, .inr rfl, .inr rfl, .inl rfl, .inl rfl, .inl rfl, trivial⟩
      have h : ¬ ((((srtP S).map encP).length : Nat) : Int) < 3 := of_decide_eq_false h
      rw [List.length_map] at h
      unfold lawHull
      rw [if_neg (by omega)]
theorem ofT_map {α : Type} (t : Tb) (l : List α) (f : α → PyData) (x : α) (h : 0 < l.length) : (ofT t (l.map f)).1 = f (l.getD (dip t l.length).1 x) := by
  have hlt := dip_lt t h
  unfold ofT
  dsimp only
  rw [List.length_map, List.getD_eq_getElem?_getD, List.getElem?_map, List.getD_eq_getElem?_getD, List.getElem?_eq_getElem hlt]
  rfl
def deepT (t : Tb) : Nat := [1, 1, 1, 2, 3].getD (dip t 5).1 1
def pointA (t : Tb) (w : Nat) : Int × Tb := aboutT (dip t 5).2 (w * deepT t)
def pointB (t : Tb) (w : Nat) : Int × Tb := aboutT (pointA t w).2 (w * deepT t)
def pointT (t : Tb) (w : Nat) : P2 × Tb := (⟨((pointA t w).1 : Rat) / ((deepT t : Int) : Rat), ((pointB t w).1 : Rat) / ((deepT t : Int) : Rat)⟩, (pointB t w).2)
theorem getD_mem {α : Type} {l : List α} {i : Nat} {x : α} (h : i < l.length) : l.getD i x ∈ l := by
  rw [List.getD_eq_getElem?_getD, List.getElem?_eq_getElem h]
  exact List.getElem_mem h
theorem deepT_ok (t : Tb) : deepT t = 1 ∨ deepT t = 2 ∨ deepT t = 3 := by
  have : deepT t ∈ [1, 1, 1, 2, 3] := getD_mem (dip_lt t (k := 5) (by decide))
  simp only [List.mem_cons, List.not_mem_nil, or_false] at this
  omega
theorem aboutT_ok {n : Nat} {t : Tb} (h : TubOk n t) (k : Nat) : TubOk (n + 1) (aboutT t k).2 := dip_ok h _
theorem pointT_ok {n : Nat} {t : Tb} (h : TubOk n t) (w : Nat) : TubOk (n + 3) (pointT t w).2 := aboutT_ok (aboutT_ok (dip_ok h 5) _) _
def R__law_point (t : Tb) (ds : List PyData) (d : PyData) (t2 : Tb) : Prop := ∃ (k : Nat), (TubOk 900000 t ∧ k ≤ 9) ∧ ds = [.int (k : Int)] ∧ d = encP (pointT t k).1 ∧ t2 = (pointT t k).2
theorem c__law_point {t0 : TE} {e0 e1 : List EK} {i : Nat} {t u : Tb} {k : Nat} (hv : e0[i]? = some (.tub u.1 u.2.1 u.2.2)) (a0 : ED K t0 e0 (.int (k : Int)) e1) (hv1 : e1[i]? = some (.tub t.1 t.2.1 t.2.2)) (hp : TubOk 900000 t ∧ k ≤ 9) (hn : noTub (e1.set i .any) = true := by rfl) : ED K (tCall (spT K R__law_point) [] E0 (tCons (tVar i) (tCons t0 tNil))) e0 (encP (pointT t k).1) (e1.set i (.tub ((pointT t k).2).1 ((pointT t k).2).2.1 ((pointT t k).2).2.2)) := ed_callT hv (ad_cons a0 ad_nil) hv1 ⟨k, hp, rfl, rfl, rfl⟩ hn
abbrev DD__law_point (P : Program) (w : World) (K : Frag) (mg : Str → Option Value) (base : Heap) : Prop := Def P w K mg base 3 "_law_point" ["_law_tub_here", "_law_wide"] (spT K R__law_point)
theorem ok__law_point (T : Top K mg) (D__law_of : DD__law_of P w K mg base) (D__law_about : DD__law_about P w K mg base) (D__law_cut : DD__law_cut P w K mg base) : DD__law_point P w K mg base := by
  obtain ⟨f, fd, F, hm⟩ := T.df "_law_point" 115 (by decide +kernel)
  have sc : FnScope ["_law_tub_here", "_law_wide", "_law_deep"] ["_law_tub_here", "_law_wide"] (defScope (top 115)) := ⟨rfl, rfl, rfl, by decide +kernel, rfl, by decide +kernel, by decide +kernel⟩
  refine defT_of F hm sc (fun t ds d t2 h => ?_) (fun _ _ _ _ _ _ us hl => match us, hl with | [_, _], _ => rfl) (fun cdv A outer s H E t ds d t2 hr h => ?_)
  · obtain ⟨k, hp, rfl, rfl, rfl⟩ := h
    rfl
  · obtain ⟨k, hp, rfl, rfl, rfl⟩ := h
    have hr2 := hr.mono (j := 2) (by decide)
    refine ⟨_, (pss_cons (ps_set (i := 2) sc.nd rfl (Or.inl rfl) (pe_def D__law_of hr2 (by rfl) (pa_cons (pv 0) (pa_cons (pe_lst (pa_cons pe_int (pa_cons pe_int (pa_cons pe_int (pa_cons pe_int (pa_cons pe_int pa_nil)))))) pa_nil))))
      (pss_one (ps_ret (pe_def D__law_cut hr2 (by rfl) (pa_cons (pe_tup (pa_cons (pe_def D__law_about hr2 (by rfl) (pa_cons (pv 0) (pa_cons (pe_op op_mulW (pv 1) (pv 2)) pa_nil))) (pa_cons (pe_def D__law_about hr2 (by rfl) (pa_cons (pv 0) (pa_cons (pe_op op_mulW (pv 1) (pv 2)) pa_nil))) (pa_cons (pv 2) pa_nil)))) pa_nil))))), ?_⟩
    obtain ⟨ht, hk⟩ := hp
    have hd := deepT_ok t
    have t1 := dip_ok ht 5
    have t2 := aboutT_ok t1 (k * deepT t)
    have hkd : k * deepT t < 1000 := by
      rcases hd with h | h | h <;> rw [h] <;> omega
    have e5 : ([PyData.int 1, .int 1, .int 1, .int 2, .int 3] : List PyData) = ([1, 1, 1, 2, 3] : List Nat).map encN := rfl
    show SD K _ [.tub t.1 t.2.1 t.2.2, .imm _, .any] _ _ _ _
    refine sd_then (e1 := [.tub (dip t 5).2.1 (dip t 5).2.2.1 (dip t 5).2.2.2, .imm (encN k), .imm (encN (deepT t))]) (sd_set (ed_is (d := encN (deepT t)) (c__law_of (t := t) (u := t) (i := 0) (z := (true, [PyData.int 1, .int 1, .int 1, .int 2, .int 3])) rfl (ed_lst (ad_cons ed_int (ad_cons ed_int (ad_cons ed_int (ad_cons ed_int (ad_cons ed_int ad_nil)))))) rfl ⟨ht.mono (by decide), by decide, by decide⟩) ?_)) (
      sd_ret (c_cut3 (x := (pointA t k).1) (y := (pointB t k).1) (w := (deepT t : Int)) (ed_tup (ad_cons (c__law_about (t := (dip t 5).2) (u := (dip t 5).2) (k := k * deepT t) (i := 0) rfl (ed_is (ed_mul (ed_var rfl) (ed_var rfl) ?_) ?_) rfl ⟨t1.mono (by decide), hkd⟩) (ad_cons (c__law_about (t := (pointA t k).2) (u := (pointA t k).2) (k := k * deepT t) (i := 0) rfl (ed_is (ed_mul (ed_var rfl) (ed_var rfl) ?_) ?_) rfl ⟨t2.mono (by decide), hkd⟩) (ad_cons (ed_var rfl) ad_nil)))) ?_ ?_ rfl) ⟨rfl, rfl⟩)
    · show (ofT t _).1 = _
      rw [e5]
      exact ofT_map t [1, 1, 1, 2, 3] encN 1 (by decide)
    · exact cm (B10 (by omega) (by omega)) (B10 (by omega) (by omega)) (by decide) (by decide) (by decide)
    · show PyData.int ((k : Int) * (deepT t : Int)) = .int ((k * deepT t : Nat) : Int)
      rw [Int.natCast_mul]
    · exact cm (B10 (by omega) (by omega)) (B10 (by omega) (by omega)) (by decide) (by decide) (by decide)
    · show PyData.int ((k : Int) * (deepT t : Int)) = .int ((k * deepT t : Nat) : Int)
      rw [Int.natCast_mul]
    · omega
    · exact B.mono (B10 (by omega) (by omega)) (by decide)
end
end Hull
namespace Hull
open PySem PySem.Spec PyProof.Rows L2
section
variable {P : Program} {w : World} {K : Frag} {mg : Str → Option Value} {base : Heap}
/-! the drawn section -/
def ptsT (t : Tb) (w : Nat) : Nat → List P2 × Tb
  | 0 => ([], t)
  | n + 1 => ((ptsT t w n).1 ++ [(pointT (ptsT t w n).2 w).1], (pointT (ptsT t w n).2 w).2)
def octL : List (Int × Int) := [(1, 0), (2, 0), (3, 1), (3, 2), (2, 3), (1, 3), (0, 2), (0, 1)]
abbrev ptI (q : Int × Int) : P2 := ⟨(q.1 : Rat), (q.2 : Rat)⟩
abbrev PT := List P2 × Tb
def rectL (a b : Nat) : List (Int × Int) := [(0, 0), ((1 + a : Nat), 0), (0, (1 + b : Nat)), ((1 + a : Nat), (1 + b : Nat))]
def stp0 (way : Nat) (s : PT) : PT := if way = 0 then ((rectL (dip s.2 5).1 (dip (dip s.2 5).2 5).1).map ptI, (dip (dip s.2 5).2 5).2) else s
def stp1 (way : Nat) (s : PT) : PT := if way = 1 then (s.1.take 4 ++ (s.1.take 4).map P2.mir, s.2) else s
def stp2 (way : Nat) (s : PT) : PT := if way = 2 then (((octL.drop (dip s.2 8).1 ++ octL.take (dip s.2 8).1).take (5 + (dip (dip s.2 8).2 4).1)).map ptI, (dip (dip s.2 8).2 4).2) else s
def wayT (t : Tb) : Nat := (dip t 7).1
def wideT (t : Tb) : Nat := [1, 2, 3, 3, 4, 9].getD (dip (dip t 7).2 6).1 1
def manyT (t : Tb) : Nat := 3 + (dip (dip (dip t 7).2 6).2 6).1
def pts0 (t : Tb) : PT := ptsT (dip (dip (dip t 7).2 6).2 6).2 (wideT t) (manyT t)
def someT (t : Tb) : PT := stp2 (wayT t) (stp1 (wayT t) (stp0 (wayT t) (pts0 t)))
def fallQ (t : Tb) : Nat := 1 + (dip (someT t).2 3).1
def fallT (t : Tb) : Int × Tb := aboutT (dip (someT t).2 3).2 2
def fallP (t : Tb) : P2 := (someT t).1.getD 0 ⟨0, 0⟩
def fallS (t : Tb) : List P2 := [fallP t, (fallP t).add (ptI ((fallQ t : Nat), 0)), (fallP t).add (ptI ((fallT t).1, (fallQ t + 1 : Nat)))]
def sectionT (t : Tb) : PT := if (hullP (someT t).1).length < 3 then (hullP (fallS t), (fallT t).2) else (hullP (someT t).1, (someT t).2)
theorem ptsT_len (t : Tb) (w : Nat) : ∀ n, (ptsT t w n).1.length = n
  | 0 => rfl
  | n + 1 => by show ((ptsT t w n).1 ++ [_]).length = n + 1; rw [List.length_append, ptsT_len t w n]; rfl
theorem ptsT_ok {k : Nat} {t : Tb} (h : TubOk k t) (w : Nat) : ∀ n, TubOk (k + 3 * n) (ptsT t w n).2
  | 0 => h
  | n + 1 => (pointT_ok (ptsT_ok h w n) w).mono (by omega)
theorem ptsT_take (t : Tb) (w : Nat) : ∀ n i, i ≤ n → (ptsT t w n).1.take i = (ptsT t w i).1
  | 0, i, h => by
    have : i = 0 := by omega
    subst this; rfl
  | n + 1, i, h => by
    by_cases q : i = n + 1
    · subst q
      rw [List.take_of_length_le (by rw [ptsT_len]; exact Nat.le_refl _)]
    · show ((ptsT t w n).1 ++ [_]).take i = _
      rw [List.take_append_of_le_length (by rw [ptsT_len]; omega), ptsT_take t w n i (by omega)]
theorem ptsT_at (t : Tb) (w n i : Nat) (h : i < n) : (ptsT t w n).1[i]? = some (pointT (ptsT t w i).2 w).1 := by
  have e := ptsT_take t w n (i + 1) (by omega)
  have e2 : ((ptsT t w n).1.take (i + 1))[i]? = (ptsT t w n).1[i]? := by rw [List.getElem?_take]; rw [if_pos (by omega)]
  rw [← e2, e]
  show ((ptsT t w i).1 ++ [_])[i]? = _
  rw [List.getElem?_append_right (by rw [ptsT_len]; exact Nat.le_refl _), ptsT_len, Nat.sub_self]
  rfl
theorem pointT_gp (t : Tb) (w : Nat) : Gp (6 * w) (pointT t w).1 := by
  have hd := deepT_ok t
  have a := about_lo (dip t 5).2 (w * deepT t)
  have b := about_lo (pointA t w).2 (w * deepT t)
  have e : (deepT t : Int).natAbs = deepT t := Int.natAbs_natCast _
  refine Gp.part (by omega) ?_ ?_
  · show (aboutT (dip t 5).2 (w * deepT t)).1.natAbs ≤ _
    rw [e]; omega
  · show (aboutT (pointA t w).2 (w * deepT t)).1.natAbs ≤ _
    rw [e]; omega
theorem ptsT_gp (t : Tb) (w : Nat) : ∀ n, Gs (6 * w) (ptsT t w n).1
  | 0 => fun p hp => nomatch hp
  | n + 1 => (ptsT_gp t w n).app fun p hp => by rw [List.mem_singleton.mp hp]; exact pointT_gp _ w
theorem wideT_ok (t : Tb) : wideT t ≤ 9 := by
  have : wideT t ∈ [1, 2, 3, 3, 4, 9] := getD_mem (dip_lt _ (k := 6) (by decide))
  simp only [List.mem_cons, List.not_mem_nil, or_false] at this
  omega
theorem manyT_ok (t : Tb) : 3 ≤ manyT t ∧ manyT t ≤ 8 := by
  have := dip_lt (dip (dip t 7).2 6).2 (k := 6) (by decide)
  unfold manyT
  omega
/-- few small points -/
structure Few (s : PT) (n : Nat) : Prop where
  gs : Gs 54 s.1
  lo : 3 ≤ s.1.length
  hi : s.1.length ≤ 8
  ok : TubOk n s.2
theorem pts0_few {n : Nat} {t : Tb} (h : TubOk n t) : Few (pts0 t) (n + 27) := by
  have hm := manyT_ok t
  have hw := wideT_ok t
  have h1 := dip_ok (dip_ok (dip_ok h 7) 6) 6
  refine ⟨fun p hp => (ptsT_gp _ _ _ p hp).mono (by omega), ?_, ?_, (ptsT_ok h1 _ _).mono (by omega)⟩
  · unfold pts0; rw [ptsT_len]; exact hm.1
  · unfold pts0; rw [ptsT_len]; exact hm.2
theorem gp_ptI {q : Int × Int} (h1 : q.1.natAbs ≤ 9) (h2 : q.2.natAbs ≤ 9) : Gp 54 (ptI q) := Gp.int (by omega) (by omega)
theorem stp0_few {w n : Nat} {s : PT} (h : Few s n) : Few (stp0 w s) (n + 2) := by
  unfold stp0
  split
  · have h1 := dip_lt s.2 (k := 5) (by decide)
    have h2 := dip_lt (dip s.2 5).2 (k := 5) (by decide)
    refine ⟨fun p hp => ?_, by simp [rectL], by simp [rectL], dip_ok (dip_ok h.ok 5) 5⟩
    obtain ⟨q, hq, rfl⟩ := List.mem_map.mp hp
    simp only [rectL, List.mem_cons, List.not_mem_nil, or_false] at hq
    rcases hq with rfl | rfl | rfl | rfl <;> exact gp_ptI (by omega) (by omega)
  · exact ⟨h.gs, h.lo, h.hi, h.ok.mono (by omega)⟩
theorem stp1_few {w n : Nat} {s : PT} (h : Few s n) : Few (stp1 w s) n := by
  have h1 := h.lo
  have h2 := h.hi
  unfold stp1
  split
  · refine ⟨(h.gs.sub fun p hp => List.mem_of_mem_take hp).app fun p hp => ?_, ?_, ?_, h.ok⟩
    · obtain ⟨q, hq, rfl⟩ := List.mem_map.mp hp
      exact (h.gs q (List.mem_of_mem_take hq)).mir
    · rw [List.length_append, List.length_map, List.length_take]; omega
    · rw [List.length_append, List.length_map, List.length_take]; omega
  · exact h
theorem stp2_few {w n : Nat} {s : PT} (h : Few s n) : Few (stp2 w s) (n + 2) := by
  unfold stp2
  split
  · have h1 := dip_lt s.2 (k := 8) (by decide)
    have h2 := dip_lt (dip s.2 8).2 (k := 4) (by decide)
    have hl : (octL.drop (dip s.2 8).1 ++ octL.take (dip s.2 8).1).length = 8 := by
      rw [List.length_append, List.length_drop, List.length_take]
      show 8 - _ + min _ 8 = 8
      omega
    refine ⟨fun p hp => ?_, ?_, ?_, dip_ok (dip_ok h.ok 8) 4⟩
    · obtain ⟨q, hq, rfl⟩ := List.mem_map.mp hp
      have hq := List.mem_of_mem_take hq
      have hq : q ∈ octL := (List.mem_append.mp hq).elim List.mem_of_mem_drop List.mem_of_mem_take
      simp only [octL, List.mem_cons, List.not_mem_nil, or_false] at hq
      rcases hq with rfl | rfl | rfl | rfl | rfl | rfl | rfl | rfl <;> exact gp_ptI (by decide) (by decide)
    · rw [List.length_map, List.length_take, hl]; omega
    · rw [List.length_map, List.length_take, hl]; omega
  · exact ⟨h.gs, h.lo, h.hi, h.ok.mono (by omega)⟩
theorem someT_few {n : Nat} {t : Tb} (h : TubOk n t) : Few (someT t) (n + 31) := stp2_few (stp1_few (stp0_few (pts0_few h)))
theorem few_hull {n : Nat} {s : PT} (h : Few s n) : Ps 900 s.1 ∧ s.1.length < 64 ∧ grid s.1 < 2 ^ 3000 := ⟨fun p hp => ((h.gs.ps (k := 10) (by decide) (by decide)) p hp).mono (by decide), by have := h.hi; omega, h.gs.grid (by decide) (by have := h.hi; omega)⟩
theorem fallQ_ok (t : Tb) : 1 ≤ fallQ t ∧ fallQ t ≤ 3 := by
  have := dip_lt (someT t).2 (k := 3) (by decide)
  unfold fallQ
  omega
theorem fallP_gp {n : Nat} {t : Tb} (h : TubOk n t) : Gp 54 (fallP t) := by
  have hf := someT_few h
  exact hf.gs _ (getD_mem (by have := hf.lo; omega))
theorem fallS_gs {n : Nat} {t : Tb} (h : TubOk n t) : Gs 100 (fallS t) := fun p hp => by
  have hq := fallQ_ok t
  have ha := about_lo (dip (someT t).2 3).2 2
  have hp0 := fallP_gp h
  have ha : -2 ≤ (fallT t).1 ∧ (fallT t).1 ≤ 2 := ha
  unfold fallS at hp
  rcases List.mem_cons.mp hp with e | hp
  · rw [e]; exact hp0.mono (by decide)
  · rcases List.mem_cons.mp hp with e | hp
    · rw [e]
      exact (hp0.add (Gp.int (m := 24) (by omega) (by omega))).mono (by decide)
    · rw [List.mem_singleton.mp hp]
      exact (hp0.add (Gp.int (m := 24) (by omega) (by omega))).mono (by decide)
theorem fall_hull {n : Nat} {t : Tb} (h : TubOk n t) : Ps 900 (fallS t) ∧ (fallS t).length < 64 ∧ grid (fallS t) < 2 ^ 3000 :=
  ⟨fun p hp => ((fallS_gs h).ps (k := 10) (by decide) (by decide) p hp).mono (by decide), by show 3 < 64; decide, (fallS_gs h).grid (by decide) (by show 3 ≤ 64; decide)⟩
/-- a section, and few corners with small numbers -/
structure Sec (S : List P2) : Prop where
  cv : Conv S
  un : ∃ p, Uni S p
  gs : Gs 100 S
  hi : S.length ≤ 8
theorem sectionT_sec {n : Nat} {t : Tb} (h : TubOk n t) : Sec (sectionT t).1 := by
  have hf := someT_few h
  unfold sectionT
  split
  · have h3 : 3 ≤ (hullP (fallS t)).length := by
      have hq := fallQ_ok t
      refine hull_three (.inl ?_) ?_
      · show 0 < ((fallP t).x + ((fallQ t : Nat) : Int)) - (fallP t).x
        have : (0 : Rat) < ((fallQ t : Nat) : Int) := Rat.intCast_pos.mpr (by omega)
        grind
      · have h1 : (0 : Rat) < ((fallQ t : Nat) : Int) := Rat.intCast_pos.mpr (by omega)
        have h2 : (0 : Rat) < ((fallQ t + 1 : Nat) : Int) := Rat.intCast_pos.mpr (by omega)
        have := mul_pos' h1 h2
        simp only [tri, cr, P2.sub, P2.add]
        grind
    have := hull_conv h3
    exact ⟨this.1, this.2, (fallS_gs h).hull, Nat.le_trans (hull_few h3) (by show 3 ≤ 8; decide)⟩
  · rename_i q
    have h3 : 3 ≤ (hullP (someT t).1).length := by omega
    have := hull_conv h3
    exact ⟨this.1, this.2, fun p hp => (hf.gs.hull p hp).mono (by decide), Nat.le_trans (hull_few h3) hf.hi⟩
theorem sectionT_ok {n : Nat} {t : Tb} (h : TubOk n t) : TubOk (n + 33) (sectionT t).2 := by
  have hf := someT_few h
  unfold sectionT
  split
  · exact aboutT_ok (dip_ok hf.ok 3) 2
  · exact hf.ok.mono (by omega)
theorem ptI_enc (q : Int × Int) : encP (ptI q) = .tuple [.int q.1, .int q.2, .int 1] := encP_int q.1 q.2
theorem ed_lcTN {wi : TI} {g : TG} {te : TE} {e e1 : List EK} {rs : List PyData} {vs : List Nat} {i0 : Nat} {tf : Nat → Tb} {n : Nat} {f : Nat → PyData} (hi : ID K wi e ((List.range n).map f) e1) (hvt : e1[i0]? = some (.tub (tf 0).1 (tf 0).2.1 (tf 0).2.2)) (hnt : noTub (e1.set i0 .any) = true) (hnl : noLis e1 = true) (h0 : i0 ∉ vs) (hv : anyB e1 vs = true) (hl : rs.length = n) (hz : n ≤ 1000)
    (ht : ∀ (i : Nat) (r : PyData), i < n → rs[i]? = some r → ∃ e2 e3 js, (∀ j ∈ js, j ∈ vs) ∧ GD K g js (stripT (e1.set i0 (.tub (tf i).1 (tf i).2.1 (tf i).2.2))) (f i) e2 ∧ ED K te e2 r e3 ∧ e3[i0]? = some (.tub (tf (i + 1)).1 (tf (i + 1)).2.1 (tf (i + 1)).2.2)) :
    ED K (tLc wi g tYes te vs) e (.list rs) (e1.set i0 (.tub (tf n).1 (tf n).2.1 (tf n).2.2)) := by
  have h := ed_lcT (i0 := i0) (tf := tf) (rs := rs) (te := te) (g := g) (vs := vs) hi hvt hnt hnl h0 hv (by rw [List.length_map, List.length_range]; exact hl) (by rw [List.length_map, List.length_range]; exact hz) fun i d r hd hr => by
    rw [List.getElem?_map] at hd
    by_cases q : i < n
    · rw [List.getElem?_range q] at hd
      cases Option.some.inj hd
      exact ht i r q hr
    · rw [List.getElem?_eq_none (by rw [List.length_range]; omega)] at hd
      cases hd
  rw [List.length_map, List.length_range] at h
  exact h
def R__law_section (t : Tb) (ds : List PyData) (d : PyData) (t2 : Tb) : Prop := (TubOk 100000 t) ∧ ds = [] ∧ d = encS (sectionT t).1 ∧ t2 = (sectionT t).2
theorem c__law_section {e0 : List EK} {i : Nat} {t u : Tb}  (hv : e0[i]? = some (.tub u.1 u.2.1 u.2.2))  (hv1 : e0[i]? = some (.tub t.1 t.2.1 t.2.2)) (hp : TubOk 100000 t) (hn : noTub (e0.set i .any) = true := by rfl) : ED K (tCall (spT K R__law_section) [] E0 (tCons (tVar i) tNil)) e0 (encS (sectionT t).1) (e0.set i (.tub ((sectionT t).2).1 ((sectionT t).2).2.1 ((sectionT t).2).2.2)) := ed_callT hv ad_nil hv1 ⟨hp, rfl, rfl, rfl⟩ hn
abbrev DD__law_section (P : Program) (w : World) (K : Frag) (mg : Str → Option Value) (base : Heap) : Prop := Def P w K mg base 7 "_law_section" ["_law_tub_here"] (spT K R__law_section)
theorem ok__law_section (T : Top K mg) (D__law_dip : DD__law_dip P w K mg base) (D__law_of : DD__law_of P w K mg base) (D__law_about : DD__law_about P w K mg base) (D__law_cut : DD__law_cut P w K mg base) (D__law_joined : DD__law_joined P w K mg base) (D__law_hull : DD__law_hull P w K mg base) (D__law_point : DD__law_point P w K mg base) : DD__law_section P w K mg base := by
  obtain ⟨f, fd, F, hm⟩ := T.df "_law_section" 116 (by decide +kernel)
  have sc : FnScope ["_law_tub_here", "_law_way_here", "_law_wide", "_law_some", "_law_a", "_law_b", "_law_many", "_law_at", "_law_found", "_law_p", "_law_q", "_law_lap", "_law_x", "_law_y", "_law_w"] ["_law_tub_here"] (defScope (top 116)) := ⟨rfl, rfl, rfl, by decide +kernel, rfl, by decide +kernel, by decide +kernel⟩
  have m_len := T.fr "len" (by decide +kernel)
  have m_range := T.fr "range" (by decide +kernel)
  refine defT_of F hm sc (fun t ds d t2 h => ?_) (fun _ _ _ _ _ _ us hl => match us, hl with | [_], _ => rfl) (fun cdv A outer s H E t ds d t2 hr h => ?_)
  · obtain ⟨hp, rfl, rfl, rfl⟩ := h
    rfl
  · obtain ⟨hp, rfl, rfl, rfl⟩ := h
    have hr1 := hr.mono (j := 1) (by decide)
    have hr2 := hr.mono (j := 2) (by decide)
    have hr3 := hr.mono (j := 3) (by decide)
    have hr6 := hr.mono (j := 6) (by decide)
    refine ⟨_, (pss_cons (ps_asg (pe_tup (pa_cons (pe_def D__law_dip hr1 (by rfl) (pa_cons (pv 0) (pa_cons pe_int pa_nil))) (pa_cons (pe_def D__law_of hr2 (by rfl) (pa_cons (pv 0) (pa_cons (pe_lst (pa_cons pe_int (pa_cons pe_int (pa_cons pe_int (pa_cons pe_int (pa_cons pe_int (pa_cons pe_int pa_nil))))))) pa_nil))) pa_nil))) (pg_tup rfl (pgs_cons (pg_name (i := 1) sc.nd rfl (Or.inl rfl)) (pgs_cons (pg_name (i := 2) sc.nd rfl (Or.inr rfl)) pgs_nil))))
      (pss_cons (ps_setLc (i := 3) (own := [("_law_lap", 11)]) rfl sc.nd rfl rfl (sw_true rfl rfl rfl (by decide +kernel)) (pi_range1 (by rfl) m_range (pa_cons (pe_op op_add pe_int (pe_def D__law_dip hr1 (by rfl) (pa_cons (pv 0) (pa_cons pe_int pa_nil)))) pa_nil)) (blkOk_by (own := [("_law_lap", 11)]) (N := ["_law_tub_here", "_law_way_here", "_law_wide", "_law_some", "_law_a", "_law_b", "_law_many", "_law_at", "_law_found", "_law_p", "_law_q", "_law_lap", "_law_x", "_law_y", "_law_w"]) (sc := defScope (top 116)) (by decide +kernel)) (fun _ _ _ _ _ => (pg_name (i := 11) sc.nd rfl (Or.inl rfl))) (fun _ _ _ _ _ => pts_nil) (fun _ _ _ _ _ => (pe_def D__law_point hr3 (by rfl) (pa_cons (pv 0) (pa_cons (pv 2) pa_nil)))))
      (pss_cons (ps_if (pt_cmpR op_eq (pv 1) pe_int (nomark _)) (pss_cons (ps_par (i := 4) (j := 5) rfl sc.nd rfl rfl (by decide) rfl rfl (pa_cons (pe_op op_add pe_int (pe_def D__law_dip hr1 (by rfl) (pa_cons (pv 0) (pa_cons pe_int pa_nil)))) (pa_cons (pe_op op_add pe_int (pe_def D__law_dip hr1 (by rfl) (pa_cons (pv 0) (pa_cons pe_int pa_nil)))) pa_nil)) rfl)
      (pss_one (ps_set (i := 3) sc.nd rfl (Or.inl rfl) (pe_lst (pa_cons (pe_tup (pa_cons pe_int (pa_cons pe_int (pa_cons pe_int pa_nil)))) (pa_cons (pe_tup (pa_cons (pv 4) (pa_cons pe_int (pa_cons pe_int pa_nil)))) (pa_cons (pe_tup (pa_cons pe_int (pa_cons (pv 5) (pa_cons pe_int pa_nil)))) (pa_cons (pe_tup (pa_cons (pv 4) (pa_cons (pv 5) (pa_cons pe_int pa_nil)))) pa_nil)))))))) pss_nil)
      (pss_cons (ps_if (pt_cmpR op_eq (pv 1) pe_int (nomark _)) (pss_one (ps_set (i := 3) sc.nd rfl (Or.inl rfl) (pe_op op_cat (pe_slice sl_list (pv 3) po_none (po_some pe_int)) (pe_lc (g := gTup K 3 (gCons (gName 12) (gCons (gName 13) (gCons (gName 14) gNil)))) (own := [("_law_x", 12), ("_law_y", 13), ("_law_w", 14)]) rfl sc.nd (pi_seq (pe_slice sl_list (pv 3) po_none (po_some pe_int))) (blkOk_by (own := [("_law_x", 12), ("_law_y", 13), ("_law_w", 14)]) (N := ["_law_tub_here", "_law_way_here", "_law_wide", "_law_some", "_law_a", "_law_b", "_law_many", "_law_at", "_law_found", "_law_p", "_law_q", "_law_lap", "_law_x", "_law_y", "_law_w"]) (sc := defScope (top 116)) (by decide +kernel)) (fun _ _ _ _ _ => (pg_tup rfl (pgs_cons (pg_name (i := 12) sc.nd rfl (Or.inl rfl)) (pgs_cons (pg_name (i := 13) sc.nd rfl (Or.inl rfl)) (pgs_cons (pg_name (i := 14) sc.nd rfl (Or.inl rfl)) pgs_nil))))) (fun _ _ _ _ _ => pts_nil) (fun _ _ _ _ _ => (pe_def D__law_cut hr2 (by rfl) (pa_cons (pe_tup (pa_cons (pe_op op_sub pe_int (pv 12)) (pa_cons (pv 13) (pa_cons (pv 14) pa_nil)))) pa_nil))))))) pss_nil)
      (pss_cons (ps_if (pt_cmpR op_eq (pv 1) pe_int (nomark _)) (pss_cons (ps_set (i := 6) sc.nd rfl (Or.inl rfl) (pe_lst (pa_cons (pe_tup (pa_cons pe_int (pa_cons pe_int (pa_cons pe_int pa_nil)))) (pa_cons (pe_tup (pa_cons pe_int (pa_cons pe_int (pa_cons pe_int pa_nil)))) (pa_cons (pe_tup (pa_cons pe_int (pa_cons pe_int (pa_cons pe_int pa_nil)))) (pa_cons (pe_tup (pa_cons pe_int (pa_cons pe_int (pa_cons pe_int pa_nil)))) (pa_cons (pe_tup (pa_cons pe_int (pa_cons pe_int (pa_cons pe_int pa_nil)))) (pa_cons (pe_tup (pa_cons pe_int (pa_cons pe_int (pa_cons pe_int pa_nil)))) (pa_cons (pe_tup (pa_cons pe_int (pa_cons pe_int (pa_cons pe_int pa_nil)))) (pa_cons (pe_tup (pa_cons pe_int (pa_cons pe_int (pa_cons pe_int pa_nil)))) pa_nil))))))))))
      (pss_cons (ps_set (i := 7) sc.nd rfl (Or.inl rfl) (pe_def D__law_dip hr1 (by rfl) (pa_cons (pv 0) (pa_cons pe_int pa_nil))))
      (pss_one (ps_set (i := 3) sc.nd rfl (Or.inl rfl) (pe_slice sl_list (pe_op op_cat (pe_slice sl_list (pv 6) (po_some (pv 7)) po_none) (pe_slice sl_list (pv 6) po_none (po_some (pv 7)))) po_none (po_some (pe_op op_add pe_int (pe_def D__law_dip hr1 (by rfl) (pa_cons (pv 0) (pa_cons pe_int pa_nil)))))))))) pss_nil)
      (pss_cons (ps_set (i := 8) sc.nd rfl (Or.inl rfl) (pe_def D__law_hull hr6 (by rfl) (pa_cons (pv 3) pa_nil)))
      (pss_cons (ps_if (pt_cmpR op_lt (pe_callB call_len_seq (by rfl) m_len bt_len (pa_cons (pv 8) pa_nil)) pe_int (nomark _)) (pss_cons (ps_par (i := 9) (j := 10) rfl sc.nd rfl rfl (by decide) rfl rfl (pa_cons (pe_ix (r := rIx K) ix_seq (pv 3) pe_int (fun _ _ => rfl)) (pa_cons (pe_op op_add pe_int (pe_def D__law_dip hr1 (by rfl) (pa_cons (pv 0) (pa_cons pe_int pa_nil)))) pa_nil)) rfl)
      (pss_one (ps_set (i := 8) sc.nd rfl (Or.inl rfl) (pe_def D__law_hull hr6 (by rfl) (pa_cons (pe_lst (pa_cons (pv 9) (pa_cons (pe_def D__law_joined hr3 (by rfl) (pa_cons (pv 9) (pa_cons (pe_tup (pa_cons (pv 10) (pa_cons pe_int (pa_cons pe_int pa_nil)))) pa_nil))) (pa_cons (pe_def D__law_joined hr3 (by rfl) (pa_cons (pv 9) (pa_cons (pe_tup (pa_cons (pe_def D__law_about hr2 (by rfl) (pa_cons (pv 0) (pa_cons pe_int pa_nil))) (pa_cons (pe_op op_add (pv 10) pe_int) (pa_cons pe_int pa_nil)))) pa_nil))) pa_nil)))) pa_nil))))) pss_nil)
      (pss_one (ps_ret (pv 8)))))))))), ?_⟩
    have t1 := dip_ok hp 7
    have t2 := dip_ok t1 6
    have t3 := dip_ok t2 6
    have f0 := pts0_few hp
    have f1 := stp0_few (w := wayT t) f0
    have f2 := stp1_few (w := wayT t) f1
    have f3 := someT_few hp
    have hw := wideT_ok t
    have hm := manyT_ok t
    have e6 : ([PyData.int 1, .int 2, .int 3, .int 3, .int 4, .int 9] : List PyData) = ([1, 2, 3, 3, 4, 9] : List Nat).map encN := rfl
    show SD K _ [.tub t.1 t.2.1 t.2.2, .any, .any, .any, .any, .any, .any, .any, .any, .any, .any, .any, .any, .any, .any] _ _ _ _
    refine sd_then (e1 := [.tub (dip (dip t 7).2 6).2.1 (dip (dip t 7).2 6).2.2.1 (dip (dip t 7).2 6).2.2.2, .imm (encN (wayT t)), .imm (encN (wideT t)), .any, .any, .any, .any, .any, .any, .any, .any, .any, .any, .any, .any]) (sd_asg (ed_tup (ad_cons (c__law_dip (t := t) (u := t) (k := 7) (i := 0) rfl ed_int rfl ⟨hp.mono (by decide), by decide, by decide⟩) (ad_cons (ed_is (d := encN (wideT t)) (c__law_of (t := (dip t 7).2) (u := (dip t 7).2) (i := 0) (z := (true, [PyData.int 1, .int 2, .int 3, .int 3, .int 4, .int 9])) rfl (ed_lst (ad_cons ed_int (ad_cons ed_int (ad_cons ed_int (ad_cons ed_int (ad_cons ed_int (ad_cons ed_int ad_nil))))))) rfl ⟨t1.mono (by decide), by decide, by decide⟩) ?_) ad_nil))) (gd_tup (gds_cons gd_name (gds_cons gd_name gds_nil)))) (
      sd_then (e1 := [.tub (pts0 t).2.1 (pts0 t).2.2.1 (pts0 t).2.2.2, .imm (encN (wayT t)), .imm (encN (wideT t)), .imm (.list ((pts0 t).1.map encP)), .any, .any, .any, .any, .any, .any, .any, .any, .any, .any, .any]) (sd_set (e1 := [.tub (pts0 t).2.1 (pts0 t).2.2.1 (pts0 t).2.2.2, .imm (encN (wayT t)), .imm (encN (wideT t)), .any, .any, .any, .any, .any, .any, .any, .any, .any, .any, .any, .any]) (d := .list ((pts0 t).1.map encP)) ?comp rfl) (
      sd_seq (N := fun e => ∃ k4 k5 k6 k7, e = [.tub ((stp0 (wayT t) (pts0 t))).2.1 ((stp0 (wayT t) (pts0 t))).2.2.1 ((stp0 (wayT t) (pts0 t))).2.2.2, .imm (encN (wayT t)), .imm (encN (wideT t)), .imm (.list (((stp0 (wayT t) (pts0 t))).1.map encP)), k4, k5, k6, k7, .any, .any, .any, .any, .any, .any, .any]) ?_ (fun e hz => ?_)))
    · show (ofT (dip t 7).2 _).1 = _
      rw [e6]
      exact ofT_map _ [1, 2, 3, 3, 4, 9] encN 1 (by decide)
    case comp =>
      refine ed_lcTN (i0 := 0) (tf := fun i => (ptsT (dip (dip (dip t 7).2 6).2 6).2 (wideT t) i).2) (n := manyT t) (f := encN) (rs := (pts0 t).1.map encP) (e1 := [.tub (dip (dip (dip t 7).2 6).2 6).2.1 (dip (dip (dip t 7).2 6).2 6).2.2.1 (dip (dip (dip t 7).2 6).2 6).2.2.2, .imm (encN (wayT t)), .imm (encN (wideT t)), .any, .any, .any, .any, .any, .any, .any, .any, .any, .any, .any, .any])
        (id_rngN (n := manyT t) (ad_cons (ed_is (ed_add ed_int (c__law_dip (t := (dip (dip t 7).2 6).2) (u := (dip (dip t 7).2 6).2) (k := 6) (i := 0) rfl ed_int rfl ⟨t2.mono (by decide), by decide, by decide⟩)) ?_) ad_nil) (by omega)) rfl rfl rfl (by decide) rfl ?_ (by omega) (fun i r hi hr => ?_)
      · show PyData.int (3 + ((dip (dip (dip t 7).2 6).2 6).1 : Int)) = .int ((manyT t : Nat) : Int)
        unfold manyT
        congr 1
      · rw [List.length_map]
        unfold pts0
        rw [ptsT_len]
      · rw [List.getElem?_map] at hr
        rw [show (pts0 t).1[i]? = some (pointT (ptsT (dip (dip (dip t 7).2 6).2 6).2 (wideT t) i).2 (wideT t)).1 from ptsT_at _ _ _ _ hi] at hr
        cases Option.some.inj hr
        exact ⟨_, _, [11], fun j h => h, gd_name, c__law_point (t := (ptsT (dip (dip (dip t 7).2 6).2 6).2 (wideT t) i).2) (u := (ptsT (dip (dip (dip t 7).2 6).2 6).2 (wideT t) i).2) (i := 0) (k := wideT t) rfl (ed_var rfl) rfl ⟨(ptsT_ok t3 _ i).mono (by omega), hw⟩, rfl⟩
    · -- a rectangle
      refine sd_if (td_test (ed_eqI (ed_var rfl) ed_int)) (fun h => ?_) (fun h => sd_next ⟨.any, .any, .any, .any, ?_⟩)
      · have h : ((wayT t : Nat) : Int) = 0 := of_decide_eq_true h
        have h : wayT t = 0 := by omega
        have e : (stp0 (wayT t) (pts0 t)) = ((rectL (dip (pts0 t).2 5).1 (dip (dip (pts0 t).2 5).2 5).1).map ptI, (dip (dip (pts0 t).2 5).2 5).2) := by unfold stp0; rw [if_pos h]
        rw [e]
        refine sd_then (sd_par (ad_cons (ed_add ed_int (c__law_dip (t := (pts0 t).2) (u := (pts0 t).2) (k := 5) (i := 0) rfl ed_int rfl ⟨f0.ok.mono (by decide), by decide, by decide⟩)) (ad_cons (ed_add ed_int (c__law_dip (t := (dip (pts0 t).2 5).2) (u := (dip (pts0 t).2 5).2) (k := 5) (i := 0) rfl ed_int rfl ⟨(dip_ok f0.ok 5).mono (by decide), by decide, by decide⟩)) ad_nil))) (
          sd_imp (sd_set (ed_lst (ad_cons (ed_tup (ad_cons ed_int (ad_cons ed_int (ad_cons ed_int ad_nil)))) (ad_cons (ed_tup (ad_cons (ed_var rfl) (ad_cons ed_int (ad_cons ed_int ad_nil)))) (ad_cons (ed_tup (ad_cons ed_int (ad_cons (ed_var rfl) (ad_cons ed_int ad_nil)))) (ad_cons (ed_tup (ad_cons (ed_var rfl) (ad_cons (ed_var rfl) (ad_cons ed_int ad_nil)))) ad_nil)))))) fun e' he => ⟨.imm (.int (1 + ((dip (pts0 t).2 5).1 : Int))), .imm (.int (1 + ((dip (dip (pts0 t).2 5).2 5).1 : Int))), .any, .any, ?_⟩)
        rw [he]
        have el : ((rectL (dip (pts0 t).2 5).1 (dip (dip (pts0 t).2 5).2 5).1).map ptI).map encP = [.tuple [.int 0, .int 0, .int 1], .tuple [.int (1 + ((dip (pts0 t).2 5).1 : Int)), .int 0, .int 1], .tuple [.int 0, .int (1 + ((dip (dip (pts0 t).2 5).2 5).1 : Int)), .int 1], .tuple [.int (1 + ((dip (pts0 t).2 5).1 : Int)), .int (1 + ((dip (dip (pts0 t).2 5).2 5).1 : Int)), .int 1]] := by
          simp only [rectL, List.map_cons, List.map_nil, ptI_enc]
          have e1 : ∀ x : Nat, ((1 + x : Nat) : Int) = 1 + (x : Int) := fun x => by omega
          rw [e1, e1]
        show _ = [_, _, _, EK.imm (.list (((rectL (dip (pts0 t).2 5).1 (dip (dip (pts0 t).2 5).2 5).1).map ptI).map encP)), _, _, _, _, _, _, _, _, _, _, _]
        rw [el]
        rfl
      · have h : ¬ ((wayT t : Nat) : Int) = 0 := of_decide_eq_false h
        have e : (stp0 (wayT t) (pts0 t)) = pts0 t := by unfold stp0; rw [if_neg (by omega)]
        rw [e]
    · obtain ⟨k4, k5, k6, k7, rfl⟩ := hz
      refine sd_wk (e1 := [.tub ((stp0 (wayT t) (pts0 t))).2.1 ((stp0 (wayT t) (pts0 t))).2.2.1 ((stp0 (wayT t) (pts0 t))).2.2.2, .imm (encN (wayT t)), .imm (encN (wideT t)), .imm (.list (((stp0 (wayT t) (pts0 t))).1.map encP)), .any, .any, .any, .any, .any, .any, .any, .any, .any, .any, .any]) ?_ ⟨.inr rfl, .inr rfl, .inr rfl, .inr rfl, .inl rfl, .inl rfl, .inl rfl, .inl rfl, .inr rfl, .inr rfl, .inr rfl, .inr rfl, .inr rfl, .inr rfl, .inr rfl, trivial⟩
      refine sd_seq (N := fun e => ∃ k4 k5 k6 k7, e = [.tub ((stp1 (wayT t) (stp0 (wayT t) (pts0 t)))).2.1 ((stp1 (wayT t) (stp0 (wayT t) (pts0 t)))).2.2.1 ((stp1 (wayT t) (stp0 (wayT t) (pts0 t)))).2.2.2, .imm (encN (wayT t)), .imm (encN (wideT t)), .imm (.list (((stp1 (wayT t) (stp0 (wayT t) (pts0 t)))).1.map encP)), k4, k5, k6, k7, .any, .any, .any, .any, .any, .any, .any]) ?_ (fun e hz => ?_)
      · -- mirrored
        refine sd_if (td_test (ed_eqI (ed_var rfl) ed_int)) (fun h => ?_) (fun h => sd_next ⟨.any, .any, .any, .any, ?_⟩)
        · have h : ((wayT t : Nat) : Int) = 1 := of_decide_eq_true h
          have h : wayT t = 1 := by omega
          have e : (stp1 (wayT t) (stp0 (wayT t) (pts0 t))) = ((stp0 (wayT t) (pts0 t)).1.take 4 ++ ((stp0 (wayT t) (pts0 t)).1.take 4).map P2.mir, (stp0 (wayT t) (pts0 t)).2) := by
            generalize (stp0 (wayT t) (pts0 t)) = s
            unfold stp1
            rw [if_pos h]
          rw [e]
          generalize (stp0 (wayT t) (pts0 t)) = s at f1 ⊢
          have hl4 : (s.1.take 4).length ≤ 4 := by rw [List.length_take]; omega
          have ec : cutD (s.1.map encP) none (some ((4 : Nat) : Int)) = (s.1.take 4).map encP := by rw [cut_take, List.map_take]
          refine sd_imp (sd_set (ed_cat (ds := (s.1.take 4).map encP) (ed_is (ed_slL (ed_var rfl) od_no (od_some ed_int)) (congrArg PyData.list ec)) (ed_lcM (l := s.1.take 4) (f := encP) (h := fun p => encP p.mir) (id_eq (id_seqL (ed_slL (ed_var rfl) od_no (od_some ed_int))) ec) (by rfl) (by omega) fun p hp' => ⟨_, [12, 13, 14], fun j h => h, gd_tup (gds_cons gd_name (gds_cons gd_name (gds_cons gd_name gds_nil))), c_cut3 (ed_tup (ad_cons (ed_sub ed_int (ed_var rfl)) (ad_cons (ed_var rfl) (ad_cons (ed_var rfl) ad_nil)))) (wpos p) ?_ (mir_pt p)⟩) ?_)) fun e' he => ⟨.any, .any, .any, .any, ?_⟩
          · exact (((f1.gs p (List.mem_of_mem_take hp')).pm (k := 10) (by decide) (by decide)).w).mono (by decide)
          · rw [List.length_map, List.length_map]; omega
          · rw [he]
            show _ = [_, _, _, EK.imm (.list ((s.1.take 4 ++ (s.1.take 4).map P2.mir).map encP)), _, _, _, _, _, _, _, _, _, _, _]
            rw [List.map_append, List.map_map]
            rfl
        · have h : ¬ ((wayT t : Nat) : Int) = 1 := of_decide_eq_false h
          have e : (stp1 (wayT t) (stp0 (wayT t) (pts0 t))) = (stp0 (wayT t) (pts0 t)) := by
            generalize (stp0 (wayT t) (pts0 t)) = s
            unfold stp1
            rw [if_neg (by omega)]
          rw [e]
      · obtain ⟨k4, k5, k6, k7, rfl⟩ := hz
        refine sd_wk (e1 := [.tub ((stp1 (wayT t) (stp0 (wayT t) (pts0 t)))).2.1 ((stp1 (wayT t) (stp0 (wayT t) (pts0 t)))).2.2.1 ((stp1 (wayT t) (stp0 (wayT t) (pts0 t)))).2.2.2, .imm (encN (wayT t)), .imm (encN (wideT t)), .imm (.list (((stp1 (wayT t) (stp0 (wayT t) (pts0 t)))).1.map encP)), .any, .any, .any, .any, .any, .any, .any, .any, .any, .any, .any]) ?_ ⟨.inr rfl, .inr rfl, .inr rfl, .inr rfl, .inl rfl, .inl rfl, .inl rfl, .inl rfl, .inr rfl, .inr rfl, .inr rfl, .inr rfl, .inr rfl, .inr rfl, .inr rfl, trivial⟩
        refine sd_seq (N := fun e => ∃ k4 k5 k6 k7, e = [.tub ((someT t)).2.1 ((someT t)).2.2.1 ((someT t)).2.2.2, .imm (encN (wayT t)), .imm (encN (wideT t)), .imm (.list (((someT t)).1.map encP)), k4, k5, k6, k7, .any, .any, .any, .any, .any, .any, .any]) ?_ (fun e hz => ?_)
        · -- many corners
          have e0 : someT t = stp2 (wayT t) (stp1 (wayT t) (stp0 (wayT t) (pts0 t))) := rfl
          rw [e0]
          generalize (stp1 (wayT t) (stp0 (wayT t) (pts0 t))) = s at f2 ⊢
          refine sd_if (td_test (ed_eqI (ed_var rfl) ed_int)) (fun h => ?_) (fun h => sd_next ⟨.any, .any, .any, .any, ?_⟩)
          · have h : ((wayT t : Nat) : Int) = 2 := of_decide_eq_true h
            have h : wayT t = 2 := by omega
            have e : stp2 (wayT t) s = (((octL.drop (dip s.2 8).1 ++ octL.take (dip s.2 8).1).take (5 + (dip (dip s.2 8).2 4).1)).map ptI, (dip (dip s.2 8).2 4).2) := by unfold stp2; rw [if_pos h]
            rw [e]
            have eo : (PyData.list [.tuple [.int 1, .int 0, .int 1], .tuple [.int 2, .int 0, .int 1], .tuple [.int 3, .int 1, .int 1], .tuple [.int 3, .int 2, .int 1], .tuple [.int 2, .int 3, .int 1], .tuple [.int 1, .int 3, .int 1], .tuple [.int 0, .int 2, .int 1], .tuple [.int 0, .int 1, .int 1]]) = .list (octL.map fun q => encP (ptI q)) := by
              simp only [octL, List.map_cons, List.map_nil, ptI_enc]
            have ec : ∀ a b : Nat, cutD (cutD (octL.map fun q => encP (ptI q)) (some (a : Int)) none ++ cutD (octL.map fun q => encP (ptI q)) none (some (a : Int))) none (some (b : Int)) = (((octL.drop a ++ octL.take a).take b).map ptI).map encP := fun a b => by
              rw [cut_take, cut_drop, cut_take, List.map_map, List.map_take, List.map_append, List.map_drop, List.map_take]
              rfl
            have hd := dip_lt (dip s.2 8).2 (k := 4) (by decide)
            refine sd_then (sd_set (ed_is (ed_lst (ad_cons (ed_tup (ad_cons ed_int (ad_cons ed_int (ad_cons ed_int ad_nil)))) (ad_cons (ed_tup (ad_cons ed_int (ad_cons ed_int (ad_cons ed_int ad_nil)))) (ad_cons (ed_tup (ad_cons ed_int (ad_cons ed_int (ad_cons ed_int ad_nil)))) (ad_cons (ed_tup (ad_cons ed_int (ad_cons ed_int (ad_cons ed_int ad_nil)))) (ad_cons (ed_tup (ad_cons ed_int (ad_cons ed_int (ad_cons ed_int ad_nil)))) (ad_cons (ed_tup (ad_cons ed_int (ad_cons ed_int (ad_cons ed_int ad_nil)))) (ad_cons (ed_tup (ad_cons ed_int (ad_cons ed_int (ad_cons ed_int ad_nil)))) (ad_cons (ed_tup (ad_cons ed_int (ad_cons ed_int (ad_cons ed_int ad_nil)))) ad_nil))))))))) eo)) (sd_then (sd_set (c__law_dip (t := s.2) (u := s.2) (k := 8) (i := 0) rfl ed_int rfl ⟨f2.ok.mono (by decide), by decide, by decide⟩)) (
              sd_imp (sd_set (ed_is (ed_slL (ed_cat (ed_slL (ed_var rfl) (od_some (ed_var rfl)) od_no) (ed_slL (ed_var rfl) od_no (od_some (ed_var rfl))) ?_) od_no (od_some (i := ((5 + (dip (dip s.2 8).2 4).1 : Nat) : Int)) (ed_is (ed_add ed_int (c__law_dip (t := (dip s.2 8).2) (u := (dip s.2 8).2) (k := 4) (i := 0) rfl ed_int rfl ⟨(dip_ok f2.ok 8).mono (by decide), by decide, by decide⟩)) ?_))) (congrArg PyData.list (ec _ _)))) fun e' he => ⟨.any, .any, _, _, he⟩))
            · rw [cut_drop, cut_take, List.length_drop, List.length_take, List.length_map]
              show 8 - _ + min _ 8 ≤ 1000
              omega
            · congr 1
          · have h : ¬ ((wayT t : Nat) : Int) = 2 := of_decide_eq_false h
            have e : stp2 (wayT t) s = s := by unfold stp2; rw [if_neg (by omega)]
            rw [e]
        · obtain ⟨k4, k5, k6, k7, rfl⟩ := hz
          refine sd_wk (e1 := [.tub ((someT t)).2.1 ((someT t)).2.2.1 ((someT t)).2.2.2, .imm (encN (wayT t)), .imm (encN (wideT t)), .imm (.list (((someT t)).1.map encP)), .any, .any, .any, .any, .any, .any, .any, .any, .any, .any, .any]) ?_ ⟨.inr rfl, .inr rfl, .inr rfl, .inr rfl, .inl rfl, .inl rfl, .inl rfl, .inl rfl, .inr rfl, .inr rfl, .inr rfl, .inr rfl, .inr rfl, .inr rfl, .inr rfl, trivial⟩
          have hlo := f3.lo
          unfold sectionT
          refine sd_then (sd_set (c__law_hull (ed_var rfl) (few_hull f3))) ?_
          by_cases q : (hullP (someT t).1).length < 3
          · rw [if_pos q]
            have t4 := dip_ok f3.ok 3
            have hq := fallQ_ok t
            have hP0 : Pm 10 (fallP t) := (fallP_gp hp).pm (by decide) (by decide)
            have ha := about_lo (dip (someT t).2 3).2 2
            have ha : -2 ≤ (fallT t).1 ∧ (fallT t).1 ≤ 2 := ha
            have hI : ∀ a b : Int, a.natAbs ≤ 9 → b.natAbs ≤ 9 → Pm 4000 (ptI (a, b)) := fun a b h1 h2 => ((gp_ptI (q := (a, b)) h1 h2).pm (k := 10) (by decide) (by decide)).mono (by decide)
            refine sd_then (sd_if (b := true) (td_is (td_test (ed_lt (ed_lenT (ed_var rfl)) ed_int)) (decide_eq_true (by rw [List.length_map]; omega))) (fun _ => sd_then (sd_par (d1 := encP (fallP t)) (d2 := encN (fallQ t)) (ad_cons (ed_ixL (ed_var rfl) ed_int ?_) (ad_cons (ed_is (ed_add ed_int (c__law_dip (t := (someT t).2) (u := (someT t).2) (k := 3) (i := 0) rfl ed_int rfl ⟨f3.ok.mono (by decide), by decide, by decide⟩)) ?_) ad_nil))) (
              sd_set (c__law_hull (S := fallS t) (ed_lst (ad_cons (ed_var rfl) (ad_cons (c__law_joined (p := fallP t) (q := ptI ((fallQ t : Nat), 0)) (ed_var rfl) (ed_is (ed_tup (ad_cons (ed_var rfl) (ad_cons ed_int (ad_cons ed_int ad_nil)))) (by rw [ptI_enc])) ⟨hP0.mono (by decide), hI _ _ (by omega) (by omega)⟩) (ad_cons (c__law_joined (p := fallP t) (q := ptI ((fallT t).1, (fallQ t + 1 : Nat))) (ed_var rfl) (ed_is (ed_tup (ad_cons (c__law_about (t := (dip (someT t).2 3).2) (u := (dip (someT t).2 3).2) (k := 2) (i := 0) rfl ed_int rfl ⟨t4.mono (by decide), by decide⟩) (ad_cons (ed_add (ed_var rfl) ed_int) (ad_cons ed_int ad_nil)))) (by rw [ptI_enc]; rfl)) ⟨hP0.mono (by decide), hI _ _ (by omega) (by omega)⟩) ad_nil)))) (fall_hull hp)))) (fun h => nomatch h)) (
              sd_ret (ed_var rfl) ⟨rfl, rfl⟩)
            · refine atN (j := 0) ?_
              rw [List.getElem?_map, getD_at (by omega)]
              rfl
            · show PyData.int (1 + ((dip (someT t).2 3).1 : Int)) = .int ((fallQ t : Nat) : Int)
              unfold fallQ
              congr 1
          · rw [if_neg q]
            refine sd_then (sd_if (b := false) (td_is (td_test (ed_lt (ed_lenT (ed_var rfl)) ed_int)) (decide_eq_false (by rw [List.length_map]; omega))) (fun h => nomatch h) (fun _ => sd_next rfl)) (
              sd_ret (ed_var rfl) ⟨rfl, rfl⟩)
end
end Hull
namespace Hull
open PySem PySem.Spec PyProof.Rows L2
section
variable {P : Program} {w : World} {K : Frag} {mg : Str → Option Value} {base : Heap}
structure FanOk (ps : List P2) : Prop where
  lo : 2 ≤ ps.length
  hi : ps.length ≤ 64
  pm : Ps 1900 ps
  sm : ∀ k, k + 2 ≤ ps.length → Sm 4000 (fan ps k)
  tr : ∀ k, k + 3 ≤ ps.length → Sm 4000 (tri (ps.getD 0 pz) (ps.getD (k + 1) pz) (ps.getD (k + 2) pz))
theorem half_enc : PyData.tuple [.int 1, .int 2] = encR (1 / 2) := by
  have h1 : (1 / 2 : Rat).num = 1 := by decide +kernel
  have h2 : (1 / 2 : Rat).den = 2 := by decide +kernel
  unfold encR
  rw [h1, h2]
  rfl
theorem three_enc : PyData.tuple [.int 3, .int 1] = encR 3 := rfl
theorem FanOk.at_ {ps : List P2} (h : FanOk ps) {i : Nat} (hi : i < ps.length) : Pm 1900 (ps.getD i pz) := h.pm _ (List.mem_of_getElem? (getD_at hi))
theorem at_getD {S : List P2} {i : Nat} (h : i < S.length) : atI (S.map encP) ((i : Nat) : Int) = some (encP (S.getD i pz)) := atN (by rw [List.getElem?_map, getD_at h]; rfl)
def R__law_size (ds : List PyData) (d : PyData) : Prop := ∃ (z : Bool × List P2), (FanOk z.2) ∧ ds = [sq z.1 (z.2.map encP)] ∧ d = encR (area z.2)
theorem c__law_size {t0 : TE} {e0 e1 : List EK} {z : Bool × List P2} (a0 : ED K t0 e0 (sq z.1 (z.2.map encP)) e1) (hp : FanOk z.2) : ED K (tCall (spP K R__law_size) [] E0 (tCons t0 tNil)) e0 (encR (area z.2)) e1 := ed_call (ad_cons a0 ad_nil) ⟨z, hp, rfl, rfl⟩
abbrev DD__law_size (P : Program) (w : World) (K : Frag) (mg : Str → Option Value) (base : Heap) : Prop := Def P w K mg base 6 "_law_size" ["_law_points"] (spP K R__law_size)
theorem ok__law_size (T : Top K mg) (D__law_plus : DD__law_plus P w K mg base) (D__law_mul : DD__law_mul P w K mg base) (D__law_tri : DD__law_tri P w K mg base) : DD__law_size P w K mg base := by
  obtain ⟨f, fd, F, hm⟩ := T.df "_law_size" 118 (by decide +kernel)
  have sc : FnScope ["_law_points", "_law_total", "_law_at"] ["_law_points"] (defScope (top 118)) := ⟨rfl, rfl, rfl, by decide +kernel, rfl, by decide +kernel, by decide +kernel⟩
  have m_len := T.fr "len" (by decide +kernel)
  have m_range := T.fr "range" (by decide +kernel)
  refine def_of F hm sc (fun ds d h => ?_) (fun _ _ _ _ _ _ us hl => match us, hl with | [_], _ => rfl) (fun cdv A outer s H E ds d hr h => ?_)
  · obtain ⟨z, hp, rfl, rfl⟩ := h
    rfl
  · obtain ⟨z, hp, rfl, rfl⟩ := h
    have hr4 := hr.mono (j := 4) (by decide)
    have hr5 := hr.mono (j := 5) (by decide)
    refine ⟨_, (pss_cons (ps_set (i := 1) sc.nd rfl (Or.inl rfl) (pe_tup (pa_cons pe_int (pa_cons pe_int pa_nil))))
      (pss_cons (ps_for PassesOwn.never rfl (pi_range2 (by rfl) m_range (pa_cons pe_int (pa_cons (pe_op op_sub (pe_callB call_len_seq (by rfl) m_len bt_len (pa_cons (pv 0) pa_nil)) pe_int) pa_nil))) (pg_name (i := 2) sc.nd rfl (Or.inl rfl)) (pss_one (ps_set (i := 1) sc.nd rfl (Or.inl rfl) (pe_def D__law_plus hr4 (by rfl) (pa_cons (pv 1) (pa_cons (pe_def D__law_tri hr5 (by rfl) (pa_cons (pe_ix (r := rIx K) ix_seq (pv 0) pe_int (fun _ _ => rfl)) (pa_cons (pe_ix (r := rIx K) ix_seq (pv 0) (pv 2) (fun _ _ => rfl)) (pa_cons (pe_ix (r := rIx K) ix_seq (pv 0) (pe_op op_add (pv 2) pe_int) (fun _ _ => rfl)) pa_nil)))) pa_nil))))))
      (pss_one (ps_ret (pe_def D__law_mul hr4 (by rfl) (pa_cons (pv 1) (pa_cons (pe_tup (pa_cons pe_int (pa_cons pe_int pa_nil))) pa_nil))))))), ?_⟩
    have hlo := hp.lo
    have hhi := hp.hi
    have es : ∀ i : Nat, ((i + 1 : Nat) : Int) + 1 = ((i + 2 : Nat) : Int) := fun i => by omega
    show SD K _ [.imm _, .any, .any] _ _ _ _
    refine sd_then (e1 := [.imm (sq z.1 (z.2.map encP)), .imm (encR (fan z.2 0)), .any]) (sd_set (ed_tup (ad_cons ed_int (ad_cons ed_int ad_nil)))) (
      sd_seq (N := fun e => ∃ k, e = [.imm (sq z.1 (z.2.map encP)), .imm (encR (fan z.2 (z.2.length - 2))), k])
        (sd_forR (fun i e => ∃ k, e = [.imm (sq z.1 (z.2.map encP)), .imm (encR (fan z.2 i)), k]) (id_rng1N (n := z.2.length - 2) (ad_cons ed_int (ad_cons (ed_sub (ed_lenS (b := z.1) (ed_var rfl)) ed_int) ad_nil)) (by rw [List.length_map]; omega) (by omega)) ⟨.any, rfl⟩ (fun i e' hi hI => ?_) (fun e' hI => hI)) (fun e hz => ?_))
    · obtain ⟨k, rfl⟩ := hI
      refine ⟨_, _, gd_name, sd_imp (sd_set (c__law_plus (p := fan z.2 i) (q := tri (z.2.getD 0 pz) (z.2.getD (i + 1) pz) (z.2.getD (i + 2) pz)) (ed_var rfl) (c__law_tri (ed_ixS (b := z.1) (ed_var rfl) ed_int (at_getD (S := z.2) (i := 0) (by omega))) (ed_ixS (b := z.1) (ed_var rfl) (ed_var rfl) (at_getD (by omega))) (ed_ixS (b := z.1) (ed_var rfl) (ed_is (ed_add (ed_var rfl) ed_int) (congrArg PyData.int (es i))) (at_getD (by omega))) ⟨hp.at_ (by omega), hp.at_ (by omega), hp.at_ (by omega)⟩) ⟨hp.sm i (by omega), hp.tr i (by omega)⟩)) fun e' he => ⟨_, he⟩⟩
    · obtain ⟨k, rfl⟩ := hz
      refine sd_wk (e1 := [_, _, .any]) (sd_retD (ed_is (c__law_mul (p := fan z.2 (z.2.length - 2)) (q := 1 / 2) (ed_var rfl) (ed_is (ed_tup (ad_cons ed_int (ad_cons ed_int ad_nil))) half_enc) ⟨hp.sm _ (by omega), Sm.lit (by decide +kernel) (by decide +kernel)⟩) ?_)) ⟨.inr rfl, .inr rfl, .inl rfl, trivial⟩
      rw [fan_area _ hlo]
def R__law_middle (ds : List PyData) (d : PyData) : Prop := ∃ (S : List P2), (Sec S) ∧ ds = [encS S] ∧ d = encP (middle S)
theorem c__law_middle {t0 : TE} {e0 e1 : List EK} {S : List P2} (a0 : ED K t0 e0 (encS S) e1) (hp : Sec S) : ED K (tCall (spP K R__law_middle) [] E0 (tCons t0 tNil)) e0 (encP (middle S)) e1 := ed_call (ad_cons a0 ad_nil) ⟨S, hp, rfl, rfl⟩
abbrev DD__law_middle (P : Program) (w : World) (K : Frag) (mg : Str → Option Value) (base : Heap) : Prop := Def P w K mg base 6 "_law_middle" ["_law_points"] (spP K R__law_middle)
theorem ok__law_middle (T : Top K mg) (D__law_plus : DD__law_plus P w K mg base) (D__law_mul : DD__law_mul P w K mg base) (D__law_over : DD__law_over P w K mg base) (D__law_spot : DD__law_spot P w K mg base) (D__law_xy : DD__law_xy P w K mg base) (D__law_joined : DD__law_joined P w K mg base) (D__law_tri : DD__law_tri P w K mg base) : DD__law_middle P w K mg base := by
  obtain ⟨f, fd, F, hm⟩ := T.df "_law_middle" 119 (by decide +kernel)
  have sc : FnScope ["_law_points", "_law_total", "_law_x", "_law_y", "_law_at", "_law_size_here", "_law_sums", "_law_deep"] ["_law_points"] (defScope (top 119)) := ⟨rfl, rfl, rfl, by decide +kernel, rfl, by decide +kernel, by decide +kernel⟩
  have m_len := T.fr "len" (by decide +kernel)
  have m_range := T.fr "range" (by decide +kernel)
  refine def_of F hm sc (fun ds d h => ?_) (fun _ _ _ _ _ _ us hl => match us, hl with | [_], _ => rfl) (fun cdv A outer s H E ds d hr h => ?_)
  · obtain ⟨S, hp, rfl, rfl⟩ := h
    rfl
  · obtain ⟨S, hp, rfl, rfl⟩ := h
    have hr3 := hr.mono (j := 3) (by decide)
    have hr4 := hr.mono (j := 4) (by decide)
    have hr5 := hr.mono (j := 5) (by decide)
    refine ⟨_, (pss_cons (ps_asg (pe_tup (pa_cons (pe_tup (pa_cons pe_int (pa_cons pe_int pa_nil))) (pa_cons (pe_tup (pa_cons pe_int (pa_cons pe_int pa_nil))) (pa_cons (pe_tup (pa_cons pe_int (pa_cons pe_int pa_nil))) pa_nil)))) (pg_tup rfl (pgs_cons (pg_name (i := 1) sc.nd rfl (Or.inl rfl)) (pgs_cons (pg_name (i := 2) sc.nd rfl (Or.inl rfl)) (pgs_cons (pg_name (i := 3) sc.nd rfl (Or.inl rfl)) pgs_nil)))))
      (pss_cons (ps_for PassesOwn.never rfl (pi_range2 (by rfl) m_range (pa_cons pe_int (pa_cons (pe_op op_sub (pe_callB call_len_seq (by rfl) m_len bt_len (pa_cons (pv 0) pa_nil)) pe_int) pa_nil))) (pg_name (i := 4) sc.nd rfl (Or.inl rfl)) (pss_cons (ps_set (i := 5) sc.nd rfl (Or.inl rfl) (pe_def D__law_tri hr5 (by rfl) (pa_cons (pe_ix (r := rIx K) ix_seq (pv 0) pe_int (fun _ _ => rfl)) (pa_cons (pe_ix (r := rIx K) ix_seq (pv 0) (pv 4) (fun _ _ => rfl)) (pa_cons (pe_ix (r := rIx K) ix_seq (pv 0) (pe_op op_add (pv 4) pe_int) (fun _ _ => rfl)) pa_nil)))))
      (pss_cons (ps_set (i := 6) sc.nd rfl (Or.inl rfl) (pe_def D__law_xy hr4 (by rfl) (pa_cons (pe_def D__law_joined hr3 (by rfl) (pa_cons (pe_def D__law_joined hr3 (by rfl) (pa_cons (pe_ix (r := rIx K) ix_seq (pv 0) pe_int (fun _ _ => rfl)) (pa_cons (pe_ix (r := rIx K) ix_seq (pv 0) (pv 4) (fun _ _ => rfl)) pa_nil))) (pa_cons (pe_ix (r := rIx K) ix_seq (pv 0) (pe_op op_add (pv 4) pe_int) (fun _ _ => rfl)) pa_nil))) pa_nil)))
      (pss_cons (ps_set (i := 1) sc.nd rfl (Or.inl rfl) (pe_def D__law_plus hr4 (by rfl) (pa_cons (pv 1) (pa_cons (pv 5) pa_nil))))
      (pss_one (ps_par (i := 2) (j := 3) rfl sc.nd rfl rfl (by decide) rfl rfl (pa_cons (pe_def D__law_plus hr4 (by rfl) (pa_cons (pv 2) (pa_cons (pe_def D__law_mul hr4 (by rfl) (pa_cons (pv 5) (pa_cons (pe_ix (r := rIx K) ix_seq (pv 6) pe_int (fun _ _ => rfl)) pa_nil))) pa_nil))) (pa_cons (pe_def D__law_plus hr4 (by rfl) (pa_cons (pv 3) (pa_cons (pe_def D__law_mul hr4 (by rfl) (pa_cons (pv 5) (pa_cons (pe_ix (r := rIx K) ix_seq (pv 6) pe_int (fun _ _ => rfl)) pa_nil))) pa_nil))) pa_nil)) rfl))))))
      (pss_cons (ps_set (i := 7) sc.nd rfl (Or.inl rfl) (pe_def D__law_mul hr4 (by rfl) (pa_cons (pv 1) (pa_cons (pe_tup (pa_cons pe_int (pa_cons pe_int pa_nil))) pa_nil))))
      (pss_one (ps_ret (pe_def D__law_spot hr3 (by rfl) (pa_cons (pe_def D__law_over hr4 (by rfl) (pa_cons (pv 2) (pa_cons (pv 7) pa_nil))) (pa_cons (pe_def D__law_over hr4 (by rfl) (pa_cons (pv 3) (pa_cons (pv 7) pa_nil))) pa_nil)))))))), ?_⟩
    have h3 := hp.cv.1
    have h8 := hp.hi
    have hT := (fan_pos hp.cv (S.length - 2) (by omega)).2 (by omega)
    have es : ∀ i : Nat, ((i + 1 : Nat) : Int) + 1 = ((i + 2 : Nat) : Int) := fun i => by omega
    have hat : ∀ i, i < S.length → Pm 10 (S.getD i pz) := fun i hi => (getD_gs hp.gs hi).pm (by decide) (by decide)
    show SD K _ [.imm _, .any, .any, .any, .any, .any, .any, .any] _ _ _ _
    refine sd_then (e1 := [.imm (encS S), .imm (encR (fan S 0)), .imm (encR (midX S 0)), .imm (encR (midY S 0)), .any, .any, .any, .any]) (sd_asg (ed_tup (ad_cons (ed_tup (ad_cons ed_int (ad_cons ed_int ad_nil))) (ad_cons (ed_tup (ad_cons ed_int (ad_cons ed_int ad_nil))) (ad_cons (ed_tup (ad_cons ed_int (ad_cons ed_int ad_nil))) ad_nil)))) (gd_tup (gds_cons gd_name (gds_cons gd_name (gds_cons gd_name gds_nil))))) (
      sd_seq (N := fun e => ∃ k1 k2 k3, e = [.imm (encS S), .imm (encR (fan S (S.length - 2))), .imm (encR (midX S (S.length - 2))), .imm (encR (midY S (S.length - 2))), k1, k2, k3, .any])
        (sd_forR (fun i e => ∃ k1 k2 k3, e = [.imm (encS S), .imm (encR (fan S i)), .imm (encR (midX S i)), .imm (encR (midY S i)), k1, k2, k3, .any]) (id_rng1N (n := S.length - 2) (ad_cons ed_int (ad_cons (ed_sub (ed_lenT (ed_var rfl)) ed_int) ad_nil)) (by rw [List.length_map]; omega) (by omega)) ⟨.any, .any, .any, rfl⟩ (fun i e' hi hI => ?_) (fun e' hI => hI)) (fun e hz => ?_))
    · obtain ⟨k1, k2, k3, rfl⟩ := hI
      have p0 := hat 0 (by omega)
      have p1 := hat (i + 1) (by omega)
      have p2 := hat (i + 2) (by omega)
      have hw : Sm 43 (tri (S.getD 0 pz) (S.getD (i + 1) pz) (S.getD (i + 2) pz)) := by
        unfold tri
        exact (Sm_cr (p1.sub p0) (p2.sub p0)).mono (by decide)
      have hs : Pm 32 (((S.getD 0 pz).add (S.getD (i + 1) pz)).add (S.getD (i + 2) pz)) := (p0.add p1).add p2
      have hf := fan_sm hp.gs h8 (k := i) (by omega)
      have hm := mid_sm hp.gs h8 (k := i) (by omega)
      refine ⟨[.imm (encS S), .imm (encR (fan S i)), .imm (encR (midX S i)), .imm (encR (midY S i)), .imm (encN (i + 1)), k2, k3, .any], _, gd_name, ?_⟩
      refine sd_then (e1 := [.imm (encS S), .imm (encR (fan S i)), .imm (encR (midX S i)), .imm (encR (midY S i)), .imm (encN (i + 1)), .imm (encR (tri (S.getD 0 pz) (S.getD (i + 1) pz) (S.getD (i + 2) pz))), k3, .any]) (sd_set (c__law_tri (ed_ixT (ed_var rfl) ed_int (at_getD (S := S) (i := 0) (by omega))) (ed_ixT (ed_var rfl) (ed_var rfl) (at_getD (by omega))) (ed_ixT (ed_var rfl) (ed_is (ed_add (ed_var rfl) ed_int) (congrArg PyData.int (es i))) (at_getD (by omega))) ⟨p0.mono (by decide), p1.mono (by decide), p2.mono (by decide)⟩)) (
        sd_then (e1 := [.imm (encS S), .imm (encR (fan S i)), .imm (encR (midX S i)), .imm (encR (midY S i)), .imm (encN (i + 1)), .imm (encR (tri (S.getD 0 pz) (S.getD (i + 1) pz) (S.getD (i + 2) pz))), .imm (.list [encR (((S.getD 0 pz).add (S.getD (i + 1) pz)).add (S.getD (i + 2) pz)).x, encR (((S.getD 0 pz).add (S.getD (i + 1) pz)).add (S.getD (i + 2) pz)).y]), .any]) (sd_set (c__law_xy (c__law_joined (c__law_joined (ed_ixT (ed_var rfl) ed_int (at_getD (S := S) (i := 0) (by omega))) (ed_ixT (ed_var rfl) (ed_var rfl) (at_getD (by omega))) ⟨p0.mono (by decide), p1.mono (by decide)⟩) (ed_ixT (ed_var rfl) (ed_is (ed_add (ed_var rfl) ed_int) (congrArg PyData.int (es i))) (at_getD (by omega))) ⟨(p0.add p1).mono (by decide), p2.mono (by decide)⟩) (hs.mono (by decide)))) (
        sd_then (e1 := [.imm (encS S), .imm (encR (fan S (i + 1))), .imm (encR (midX S i)), .imm (encR (midY S i)), .imm (encN (i + 1)), .imm (encR (tri (S.getD 0 pz) (S.getD (i + 1) pz) (S.getD (i + 2) pz))), .imm (.list [encR (((S.getD 0 pz).add (S.getD (i + 1) pz)).add (S.getD (i + 2) pz)).x, encR (((S.getD 0 pz).add (S.getD (i + 1) pz)).add (S.getD (i + 2) pz)).y]), .any]) (sd_set (c__law_plus (ed_var rfl) (ed_var rfl) ⟨hf.mono (by decide), hw.mono (by decide)⟩)) (
        sd_imp (sd_par (ad_cons (c__law_plus (ed_var rfl) (c__law_mul (ed_var rfl) (ed_ixL (ed_var rfl) ed_int at0) ⟨hw.mono (by decide), hs.sx.mono (by decide)⟩) ⟨hm.1.mono (by decide), (hw.mul hs.sx).mono (by decide)⟩) (ad_cons (c__law_plus (ed_var rfl) (c__law_mul (ed_var rfl) (ed_ixL (ed_var rfl) ed_int at1) ⟨hw.mono (by decide), hs.sy.mono (by decide)⟩) ⟨hm.2.mono (by decide), (hw.mul hs.sy).mono (by decide)⟩) ad_nil))) fun e' he => ⟨_, _, _, he⟩)))
    · obtain ⟨k1, k2, k3, rfl⟩ := hz
      have hf := fan_sm hp.gs h8 (k := S.length - 2) (by omega)
      have hm := mid_sm hp.gs h8 (k := S.length - 2) (by omega)
      have h30 : Sm 2 (3 : Rat) := ⟨by unfold B; decide, by unfold B; decide⟩
      have hd : Sm 22 (fan S (S.length - 2) * 3) := hf.mul h30
      have hd0 : fan S (S.length - 2) * 3 ≠ 0 := by grind
      refine sd_wk (e1 := [.imm (encS S), .imm (encR (fan S (S.length - 2))), .imm (encR (midX S (S.length - 2))), .imm (encR (midY S (S.length - 2))), .any, .any, .any, .any]) ?_ ⟨.inr rfl, .inr rfl, .inr rfl, .inr rfl, .inl rfl, .inl rfl, .inl rfl, .inr rfl, trivial⟩
      exact sd_then (e1 := [.imm (encS S), .imm (encR (fan S (S.length - 2))), .imm (encR (midX S (S.length - 2))), .imm (encR (midY S (S.length - 2))), .any, .any, .any, .imm (encR (fan S (S.length - 2) * 3))]) (sd_set (c__law_mul (q := 3) (ed_var rfl) (ed_is (ed_tup (ad_cons ed_int (ad_cons ed_int ad_nil))) three_enc) ⟨hf.mono (by decide), h30.mono (by decide)⟩)) (
        sd_retD (c__law_spot (c__law_over (ed_var rfl) (ed_var rfl) ⟨hm.1.mono (by decide), hd.mono (by decide), hd0⟩) (c__law_over (ed_var rfl) (ed_var rfl) ⟨hm.2.mono (by decide), hd.mono (by decide), hd0⟩) ⟨(hm.1.over hd hd0).mono (by decide), (hm.2.over hd hd0).mono (by decide)⟩))
def cornT (t : Tb) (S : List P2) : P2 × Tb := (cn S (dip t S.length).1, (dip t S.length).2)
theorem ofT_corn (t : Tb) (S : List P2) (h : 0 < S.length) : (ofT t (S.map encP)).1 = encP (cornT t S).1 ∧ (ofT t (S.map encP)).2 = (cornT t S).2 := by
  constructor
  · rw [ofT_map t S encP pz h, getD_cn (dip_lt t h)]
    rfl
  · show (dip t (S.map encP).length).2 = _
    rw [List.length_map]
    rfl
theorem c_corn {t0 : TE} {e0 e1 : List EK} {i : Nat} {t u : Tb} {S : List P2} (hv : e0[i]? = some (.tub u.1 u.2.1 u.2.2)) (a0 : ED K t0 e0 (encS S) e1) (hv1 : e1[i]? = some (.tub t.1 t.2.1 t.2.2)) (ht : TubOk 1000000 t) (h0 : 0 < S.length) (h1 : S.length < 1000) (hn : noTub (e1.set i .any) = true := by rfl) :
    ED K (tCall (spT K R__law_of) [] E0 (tCons (tVar i) (tCons t0 tNil))) e0 (encP (cornT t S).1) (e1.set i (.tub (cornT t S).2.1 (cornT t S).2.2.1 (cornT t S).2.2.2)) := by
  have := c__law_of (z := (false, S.map encP)) hv a0 hv1 ⟨ht, by rw [List.length_map]; exact h0, by rw [List.length_map]; exact h1⟩ hn
  obtain ⟨e1, e2⟩ := ofT_corn t S h0
  have e3 : ofT t ((false, S.map encP) : Bool × List PyData).2 = ofT t (S.map encP) := rfl
  rw [e3, e1, e2] at this
  exact this
theorem cornT_ok {n : Nat} {t : Tb} (h : TubOk n t) (S : List P2) : TubOk (n + 1) (cornT t S).2 := dip_ok h _
theorem part6 (j : Nat) : (((j : Nat) : Int) : Rat) / ((6 : Int) : Rat) = (j : Rat) / 6 := by rw [Rat.intCast_natCast]; rfl
def in1 (t : Tb) (S : List P2) : P2 × Tb := cornT (dip t 4).2 S
def in2 (t : Tb) (S : List P2) : Nat × Tb := dip (in1 t S).2 6
def in3 (t : Tb) (S : List P2) : P2 × Tb := cornT (in2 t S).2 S
def in4 (t : Tb) (S : List P2) : Nat × Tb := dip (in3 t S).2 5
def inP (t : Tb) (S : List P2) : P2 := along (middle S) (in1 t S).1 (((in2 t S).1 : Rat) / 6)
def insideT (t : Tb) (S : List P2) : P2 × Tb := if (dip t 4).1 = 0 then (middle S, (dip t 4).2) else (along (inP t S) (in3 t S).1 (((in4 t S).1 : Rat) / 6), (in4 t S).2)
theorem corn_gp {t : Tb} {S : List P2} (h : Sec S) : Gp 100 (cornT t S).1 := h.gs _ (cn_mem (by have := h.cv.1; omega))
theorem corn_lt {t : Tb} {S : List P2} (h : Sec S) : (dip t S.length).1 < S.length := dip_lt t (by have := h.cv.1; omega)
theorem six_lt {j : Nat} (h : j < 6) : (0 : Rat) ≤ (j : Rat) / 6 ∧ (j : Rat) / 6 < 1 := by
  have h1 : (0 : Rat) ≤ (j : Rat) := Rat.natCast_nonneg
  have h2 : (j : Rat) < 6 := by
    have := Rat.natCast_lt_natCast.mpr h
    exact this
  exact ⟨by rw [Rat.div_def]; exact mul_nn h1 (by decide +kernel), (Rat.div_lt_iff (by decide)).mpr (by grind)⟩
theorem inP_pm {t : Tb} {S : List P2} (h : Sec S) : Pm 38 (inP t S) := along_pm (middle_pm h.cv h.gs h.hi) (corn_gp h) (by have := dip_lt (in1 t S).2 (k := 6) (by decide); unfold in2; omega)
theorem insideT_pm {t : Tb} {S : List P2} (h : Sec S) : Pm 48 (insideT t S).1 := by
  unfold insideT
  split
  · exact (middle_pm h.cv h.gs h.hi).mono (by decide)
  · exact along_pm (inP_pm h) (corn_gp h) (by have := dip_lt (in3 t S).2 (k := 5) (by decide); unfold in4; omega)
theorem insideT_in {t : Tb} {S : List P2} (h : Sec S) : Ins S (insideT t S).1 := by
  have hm := middle_in h.cv
  unfold insideT
  split
  · exact hm
  · have h1 := six_lt (dip_lt (in1 t S).2 (k := 6) (by decide))
    have h2 := six_lt (show (in4 t S).1 < 6 by have := dip_lt (in3 t S).2 (k := 5) (by decide); unfold in4; omega)
    exact along_in h.cv (along_in h.cv hm (corn_lt h) h1.1 h1.2) (corn_lt h) h2.1 h2.2
theorem insideT_ok {n : Nat} {t : Tb} (h : TubOk n t) (S : List P2) : TubOk (n + 5) (insideT t S).2 := by
  unfold insideT
  split
  · exact (dip_ok h 4).mono (by omega)
  · exact (dip_ok (cornT_ok (dip_ok (cornT_ok (dip_ok h 4) S) 6) S) 5).mono (by omega)
theorem Sm_six {j : Nat} (h : j ≤ 6) : Sm 3 ((j : Rat) / 6) := by
  rw [← part6]
  exact Sm_div (by decide) (B_le (m := 6) (by omega) (by decide)) (B.lit (by decide))
def R__law_inside (t : Tb) (ds : List PyData) (d : PyData) (t2 : Tb) : Prop := ∃ (S : List P2), (TubOk 100000 t ∧ Sec S) ∧ ds = [encS S] ∧ d = encP (insideT t S).1 ∧ t2 = (insideT t S).2
theorem c__law_inside {t0 : TE} {e0 e1 : List EK} {i : Nat} {t u : Tb} {S : List P2} (hv : e0[i]? = some (.tub u.1 u.2.1 u.2.2)) (a0 : ED K t0 e0 (encS S) e1) (hv1 : e1[i]? = some (.tub t.1 t.2.1 t.2.2)) (hp : TubOk 100000 t ∧ Sec S) (hn : noTub (e1.set i .any) = true := by rfl) : ED K (tCall (spT K R__law_inside) [] E0 (tCons (tVar i) (tCons t0 tNil))) e0 (encP (insideT t S).1) (e1.set i (.tub ((insideT t S).2).1 ((insideT t S).2).2.1 ((insideT t S).2).2.2)) := ed_callT hv (ad_cons a0 ad_nil) hv1 ⟨S, hp, rfl, rfl, rfl⟩ hn
abbrev DD__law_inside (P : Program) (w : World) (K : Frag) (mg : Str → Option Value) (base : Heap) : Prop := Def P w K mg base 7 "_law_inside" ["_law_tub_here", "_law_section_here"] (spT K R__law_inside)
theorem ok__law_inside (T : Top K mg) (D__law_dip : DD__law_dip P w K mg base) (D__law_of : DD__law_of P w K mg base) (D__law_part : DD__law_part P w K mg base) (D__law_along : DD__law_along P w K mg base) (D__law_middle : DD__law_middle P w K mg base) : DD__law_inside P w K mg base := by
  obtain ⟨f, fd, F, hm⟩ := T.df "_law_inside" 130 (by decide +kernel)
  have sc : FnScope ["_law_tub_here", "_law_section_here", "_law_middle_here", "_law_first"] ["_law_tub_here", "_law_section_here"] (defScope (top 130)) := ⟨rfl, rfl, rfl, by decide +kernel, rfl, by decide +kernel, by decide +kernel⟩
  refine defT_of F hm sc (fun t ds d t2 h => ?_) (fun _ _ _ _ _ _ us hl => match us, hl with | [_, _], _ => rfl) (fun cdv A outer s H E t ds d t2 hr h => ?_)
  · obtain ⟨S, hp, rfl, rfl, rfl⟩ := h
    rfl
  · obtain ⟨S, hp, rfl, rfl, rfl⟩ := h
    have hr1 := hr.mono (j := 1) (by decide)
    have hr2 := hr.mono (j := 2) (by decide)
    have hr3 := hr.mono (j := 3) (by decide)
    have hr4 := hr.mono (j := 4) (by decide)
    have hr6 := hr.mono (j := 6) (by decide)
    refine ⟨_, (pss_cons (ps_set (i := 2) sc.nd rfl (Or.inl rfl) (pe_def D__law_middle hr6 (by rfl) (pa_cons (pv 1) pa_nil)))
      (pss_cons (ps_if (pt_cmpR op_eq (pe_def D__law_dip hr1 (by rfl) (pa_cons (pv 0) (pa_cons pe_int pa_nil))) pe_int (nomark _)) (pss_one (ps_ret (pv 2))) pss_nil)
      (pss_cons (ps_set (i := 3) sc.nd rfl (Or.inl rfl) (pe_def D__law_along hr4 (by rfl) (pa_cons (pv 2) (pa_cons (pe_def D__law_of hr2 (by rfl) (pa_cons (pv 0) (pa_cons (pv 1) pa_nil))) (pa_cons (pe_def D__law_part hr3 (by rfl) (pa_cons (pe_def D__law_dip hr1 (by rfl) (pa_cons (pv 0) (pa_cons pe_int pa_nil))) (pa_cons pe_int pa_nil))) pa_nil)))))
      (pss_one (ps_ret (pe_def D__law_along hr4 (by rfl) (pa_cons (pv 3) (pa_cons (pe_def D__law_of hr2 (by rfl) (pa_cons (pv 0) (pa_cons (pv 1) pa_nil))) (pa_cons (pe_def D__law_part hr3 (by rfl) (pa_cons (pe_def D__law_dip hr1 (by rfl) (pa_cons (pv 0) (pa_cons pe_int pa_nil))) (pa_cons pe_int pa_nil))) pa_nil))))))))), ?_⟩
    obtain ⟨ht, hS⟩ := hp
    have h3 := hS.cv.1
    have h8 := hS.hi
    have t1 := dip_ok ht 4
    have t2 := cornT_ok t1 S
    have t3 := dip_ok t2 6
    have t4 := cornT_ok t3 S
    have hM := middle_pm hS.cv hS.gs hS.hi
    have hP := inP_pm (t := t) hS
    have c1 : Pm 10 (in1 t S).1 := (corn_gp hS).pm (by decide) (by decide)
    have c3 : Pm 10 (in3 t S).1 := (corn_gp hS).pm (by decide) (by decide)
    have l2 := dip_lt (in1 t S).2 (k := 6) (by decide)
    have l4 := dip_lt (in3 t S).2 (k := 5) (by decide)
    show SD K _ [.tub t.1 t.2.1 t.2.2, .imm _, .any, .any] _ _ _ _
    refine sd_then (e1 := [.tub t.1 t.2.1 t.2.2, .imm (encS S), .imm (encP (middle S)), .any]) (sd_set (c__law_middle (ed_var rfl) hS)) (
      sd_leave (td_test (ed_eqI (c__law_dip (t := t) (u := t) (k := 4) (i := 0) rfl ed_int rfl ⟨ht.mono (by decide), by decide, by decide⟩) ed_int)) (fun h => sd_ret (ed_var rfl) ?_) (fun h =>
      sd_then (e1 := [.tub (in2 t S).2.1 (in2 t S).2.2.1 (in2 t S).2.2.2, .imm (encS S), .imm (encP (middle S)), .imm (encP (inP t S))]) (sd_set (c__law_along (p := middle S) (q := (in1 t S).1) (t := ((in2 t S).1 : Rat) / 6) (ed_var rfl) (c_corn (t := (dip t 4).2) (u := (dip t 4).2) (i := 0) rfl (ed_var rfl) rfl (t1.mono (by decide)) (by omega) (by omega)) (ed_is (c__law_part (c__law_dip (t := (in1 t S).2) (u := (in1 t S).2) (k := 6) (i := 0) rfl ed_int rfl ⟨?_, by decide, by decide⟩) ed_int ⟨by decide, B.lit (by decide)⟩) (congrArg encR (part6 _))) ⟨hM.mono (by decide), c1.mono (by decide), (Sm_six (by unfold in2; omega)).mono (by decide)⟩)) (
      sd_ret (c__law_along (p := inP t S) (q := (in3 t S).1) (t := ((in4 t S).1 : Rat) / 6) (ed_var rfl) (c_corn (t := (in2 t S).2) (u := (in2 t S).2) (i := 0) rfl (ed_var rfl) rfl (t3.mono (by decide)) (by omega) (by omega)) (ed_is (c__law_part (c__law_dip (t := (in3 t S).2) (u := (in3 t S).2) (k := 5) (i := 0) rfl ed_int rfl ⟨?_, by decide, by decide⟩) ed_int ⟨by decide, B.lit (by decide)⟩) (congrArg encR (part6 _))) ⟨hP.mono (by decide), c3.mono (by decide), (Sm_six (by unfold in4; omega)).mono (by decide)⟩) ?_)))
    · have h : (((dip t 4).1 : Nat) : Int) = 0 := of_decide_eq_true h
      have e : insideT t S = (middle S, (dip t 4).2) := if_pos (by omega)
      rw [e]
      exact ⟨rfl, rfl⟩
    · exact t2.mono (by decide)
    · exact t4.mono (by decide)
    · have h : ¬ (((dip t 4).1 : Nat) : Int) = 0 := of_decide_eq_false h
      have e : insideT t S = (along (inP t S) (in3 t S).1 (((in4 t S).1 : Rat) / 6), (in4 t S).2) := if_neg (by omega)
      rw [e]
      exact ⟨rfl, rfl⟩
end
end Hull
namespace Hull
open PySem PySem.Spec PyProof.Rows L2
section
variable {P : Program} {w : World} {K : Frag} {mg : Str → Option Value} {base : Heap}
/-! a drawn up -/
def dirL : List (Int × Int) := [(0, 1), (1, 0), (0, -1), (-1, 0)]
abbrev UT := (Int × Int) × Tb
def upB (t : Tb) : UT := (((aboutT (dip t 4).2 4).1, (aboutT (aboutT (dip t 4).2 4).2 4).1), (aboutT (aboutT (dip t 4).2 4).2 4).2)
def ups0 (way : Nat) (s : UT) : UT := if way = 0 then (dirL.getD (dip s.2 4).1 (0, 0), (dip s.2 4).2) else s
def upW (s : UT) (S : List P2) : P2 := (cn S (dip s.2 S.length).1).sub (cn S ((dip s.2 S.length).1 + S.length - 1))
def ups1 (way : Nat) (S : List P2) (s : UT) : UT := if way = 1 then (if (dip (dip s.2 S.length).2 2).1 = 0 then (-(upW s S).Y, (upW s S).X) else (0 - -(upW s S).Y, 0 - (upW s S).X), (dip (dip s.2 S.length).2 2).2) else s
def upC (t : Tb) (S : List P2) : UT := ups1 (dip t 4).1 S (ups0 (dip t 4).1 (upB t))
def redU (q : Int × Int) : Int × Int := if q.1 ≠ 0 ∨ q.2 ≠ 0 then (q.1.fdiv ((gcdN [q.1, q.2] : Nat) : Int), q.2.fdiv ((gcdN [q.1, q.2] : Nat) : Int)) else (1, -2)
def upT (t : Tb) (S : List P2) : UT := (redU (upC t S).1, (upC t S).2)
theorem upC_B {t : Tb} {S : List P2} (h : Sec S) : Bu 20 (upC t S).1 := by
  have h0 : Bu 20 (upB t).1 := by
    have a := about_lo (dip t 4).2 4
    have b := about_lo (aboutT (dip t 4).2 4).2 4
    exact ⟨B_le (m := 4) (by show (aboutT (dip t 4).2 4).1.natAbs ≤ 4; omega) (by decide), B_le (m := 4) (by show (aboutT (aboutT (dip t 4).2 4).2 4).1.natAbs ≤ 4; omega) (by decide)⟩
  have h1 : Bu 20 (ups0 (dip t 4).1 (upB t)).1 := by
    unfold ups0
    split
    · have : dirL.getD (dip (upB t).2 4).1 (0, 0) ∈ dirL := getD_mem (dip_lt _ (by decide))
      show Bu 20 (dirL.getD (dip (upB t).2 4).1 (0, 0))
      generalize dirL.getD (dip (upB t).2 4).1 (0, 0) = q at this
      simp only [dirL, List.mem_cons, List.not_mem_nil, or_false] at this
      rcases this with rfl | rfl | rfl | rfl <;> exact ⟨B.lit (by decide), B.lit (by decide)⟩
    · exact h0
  unfold upC
  generalize ups0 (dip t 4).1 (upB t) = s at h1
  have h3 := h.cv.1
  have hc : ∀ i, Pm 8 (cn S i) := fun i => (h.gs _ (cn_mem (by omega))).pm (by decide) (by decide)
  have hw : Pm 17 (upW s S) := (hc _).sub (hc _)
  unfold ups1
  split
  · show Bu 20 (if _ then _ else _)
    split
    · exact ⟨hw.y.neg.mono (by decide), hw.x.mono (by decide)⟩
    · exact ⟨by show B 20 (0 - -(upW s S).Y); rw [Int.zero_sub, Int.neg_neg]; exact hw.y.mono (by decide), by show B 20 (0 - (upW s S).X); rw [Int.zero_sub]; exact hw.x.neg.mono (by decide)⟩
  · exact h1
theorem redU_ok {q : Int × Int} (h : Bu 20 q) : Bu 20 (redU q) ∧ gcdN [(redU q).1, (redU q).2] = 1 := by
  unfold redU
  split
  · rename_i hz
    have hg : 0 < gcdN [q.1, q.2] := by
      rw [gcdN2]
      rcases hz with z | z
      · exact Nat.gcd_pos_of_pos_left _ (by omega)
      · exact Nat.gcd_pos_of_pos_right _ (by omega)
    have d1 : ((gcdN [q.1, q.2] : Nat) : Int) ∣ q.1 := by rw [gcdN2]; exact Int.ofNat_dvd_left.mpr (Nat.gcd_dvd_left _ _)
    have d2 : ((gcdN [q.1, q.2] : Nat) : Int) ∣ q.2 := by rw [gcdN2]; exact Int.ofNat_dvd_left.mpr (Nat.gcd_dvd_right _ _)
    have f : ∀ x : Int, ((gcdN [q.1, q.2] : Nat) : Int) ∣ x → (x.fdiv ((gcdN [q.1, q.2] : Nat) : Int)).natAbs = x.natAbs / gcdN [q.1, q.2] := fun x hx => by
      rw [Int.fdiv_eq_ediv_of_nonneg _ (by omega), Int.natAbs_ediv_of_dvd hx, Int.natAbs_natCast]
    refine ⟨⟨h.1.le (by rw [f _ d1]; exact Nat.div_le_self _ _), h.2.le (by rw [f _ d2]; exact Nat.div_le_self _ _)⟩, ?_⟩
    rw [gcdN2]
    show Nat.gcd (q.1.fdiv _).natAbs (q.2.fdiv _).natAbs = 1
    rw [f _ d1, f _ d2, Nat.gcd_div (Int.ofNat_dvd_left.mp d1) (Int.ofNat_dvd_left.mp d2), ← gcdN2]
    exact Nat.div_self hg
  · exact ⟨⟨B.lit (by decide), B.lit (by decide)⟩, by decide⟩
theorem upC_ok {n : Nat} {t : Tb} (h : TubOk n t) (S : List P2) : TubOk (n + 6) (upC t S).2 := by
  have h0 : TubOk (n + 3) (upB t).2 := aboutT_ok (aboutT_ok (dip_ok h 4) 4) 4
  have h1 : TubOk (n + 4) (ups0 (dip t 4).1 (upB t)).2 := by
    unfold ups0
    split
    · exact dip_ok h0 4
    · exact h0.mono (by omega)
  unfold upC
  generalize ups0 (dip t 4).1 (upB t) = s at h1
  unfold ups1
  split
  · exact dip_ok (dip_ok h1 _) 2
  · exact h1.mono (by omega)
theorem at_back {S : List P2} {i : Nat} (h : i < S.length) : atI (S.map encP) ((i : Int) - 1) = some (encP (cn S (i + S.length - 1))) := by
  by_cases q : i = 0
  · subst q
    unfold atI ixN
    rw [if_neg (by decide), if_pos (by rw [List.length_map]; omega), List.length_map]
    show (S.map encP)[(((0 : Nat) : Int) - 1 + (S.length : Int)).toNat]? = _
    rw [show (((0 : Nat) : Int) - 1 + (S.length : Int)).toNat = S.length - 1 by omega, cn_at (by omega), Nat.zero_add]
  · rw [show (i : Int) - 1 = ((i - 1 : Nat) : Int) by omega]
    refine atN ?_
    rw [cn_at (by omega), show i + S.length - 1 = (i - 1) + S.length by omega, cn_add]
def R__law_up (t : Tb) (ds : List PyData) (d : PyData) (t2 : Tb) : Prop := ∃ (S : List P2), (TubOk 100000 t ∧ Sec S) ∧ ds = [encS S] ∧ d = encU (upT t S).1 ∧ t2 = (upT t S).2
theorem c__law_up {t0 : TE} {e0 e1 : List EK} {i : Nat} {t u : Tb} {S : List P2} (hv : e0[i]? = some (.tub u.1 u.2.1 u.2.2)) (a0 : ED K t0 e0 (encS S) e1) (hv1 : e1[i]? = some (.tub t.1 t.2.1 t.2.2)) (hp : TubOk 100000 t ∧ Sec S) (hn : noTub (e1.set i .any) = true := by rfl) : ED K (tCall (spT K R__law_up) [] E0 (tCons (tVar i) (tCons t0 tNil))) e0 (encU (upT t S).1) (e1.set i (.tub ((upT t S).2).1 ((upT t S).2).2.1 ((upT t S).2).2.2)) := ed_callT hv (ad_cons a0 ad_nil) hv1 ⟨S, hp, rfl, rfl, rfl⟩ hn
abbrev DD__law_up (P : Program) (w : World) (K : Frag) (mg : Str → Option Value) (base : Heap) : Prop := Def P w K mg base 4 "_law_up" ["_law_tub_here", "_law_section_here"] (spT K R__law_up)
theorem ok__law_up (T : Top K mg) (D__law_dip : DD__law_dip P w K mg base) (D__law_of : DD__law_of P w K mg base) (D__law_about : DD__law_about P w K mg base) (D__law_cut : DD__law_cut P w K mg base) (D__law_way : DD__law_way P w K mg base) (D__law_quarter : DD__law_quarter P w K mg base) : DD__law_up P w K mg base := by
  obtain ⟨f, fd, F, hm⟩ := T.df "_law_up" 125 (by decide +kernel)
  have sc : FnScope ["_law_tub_here", "_law_section_here", "_law_way_here", "_law_c", "_law_s", "_law_at", "_law_line"] ["_law_tub_here", "_law_section_here"] (defScope (top 125)) := ⟨rfl, rfl, rfl, by decide +kernel, rfl, by decide +kernel, by decide +kernel⟩
  have m_len := T.fr "len" (by decide +kernel)
  refine defT_of F hm sc (fun t ds d t2 h => ?_) (fun _ _ _ _ _ _ us hl => match us, hl with | [_, _], _ => rfl) (fun cdv A outer s H E t ds d t2 hr h => ?_)
  · obtain ⟨S, hp, rfl, rfl, rfl⟩ := h
    rfl
  · obtain ⟨S, hp, rfl, rfl, rfl⟩ := h
    have hr1 := hr.mono (j := 1) (by decide)
    have hr2 := hr.mono (j := 2) (by decide)
    have hr3 := hr.mono (j := 3) (by decide)
    refine ⟨_, (pss_cons (ps_set (i := 2) sc.nd rfl (Or.inl rfl) (pe_def D__law_dip hr1 (by rfl) (pa_cons (pv 0) (pa_cons pe_int pa_nil))))
      (pss_cons (ps_par (i := 3) (j := 4) rfl sc.nd rfl rfl (by decide) rfl rfl (pa_cons (pe_def D__law_about hr2 (by rfl) (pa_cons (pv 0) (pa_cons pe_int pa_nil))) (pa_cons (pe_def D__law_about hr2 (by rfl) (pa_cons (pv 0) (pa_cons pe_int pa_nil))) pa_nil)) rfl)
      (pss_cons (ps_if (pt_cmpR op_eq (pv 2) pe_int (nomark _)) (pss_one (ps_asg (pe_def D__law_of hr2 (by rfl) (pa_cons (pv 0) (pa_cons (pe_lst (pa_cons (pe_tup (pa_cons pe_int (pa_cons pe_int pa_nil))) (pa_cons (pe_tup (pa_cons pe_int (pa_cons pe_int pa_nil))) (pa_cons (pe_tup (pa_cons pe_int (pa_cons (pe_un un_neg pe_int) pa_nil))) (pa_cons (pe_tup (pa_cons (pe_un un_neg pe_int) (pa_cons pe_int pa_nil))) pa_nil))))) pa_nil))) (pg_tup rfl (pgs_cons (pg_name (i := 3) sc.nd rfl (Or.inl rfl)) (pgs_cons (pg_name (i := 4) sc.nd rfl (Or.inl rfl)) pgs_nil))))) pss_nil)
      (pss_cons (ps_if (pt_cmpR op_eq (pv 2) pe_int (nomark _)) (pss_cons (ps_set (i := 5) sc.nd rfl (Or.inl rfl) (pe_def D__law_dip hr1 (by rfl) (pa_cons (pv 0) (pa_cons (pe_callB call_len_seq (by rfl) m_len bt_len (pa_cons (pv 1) pa_nil)) pa_nil))))
      (pss_cons (ps_set (i := 6) sc.nd rfl (Or.inl rfl) (pe_def D__law_quarter hr1 (by rfl) (pa_cons (pe_def D__law_way hr3 (by rfl) (pa_cons (pe_ix (r := rIx K) ix_seq (pv 1) (pe_op op_sub (pv 5) pe_int) (fun _ _ => rfl)) (pa_cons (pe_ix (r := rIx K) ix_seq (pv 1) (pv 5) (fun _ _ => rfl)) pa_nil))) pa_nil)))
      (pss_one (ps_asg (pe_ifExp (pt_cmpR op_eq (pe_def D__law_dip hr1 (by rfl) (pa_cons (pv 0) (pa_cons pe_int pa_nil))) pe_int (nomark _)) (pe_slice sl_tup (pv 6) po_none (po_some pe_int)) (pe_tup (pa_cons (pe_op op_sub pe_int (pe_ix (r := rIx K) ix_seq (pv 6) pe_int (fun _ _ => rfl))) (pa_cons (pe_op op_sub pe_int (pe_ix (r := rIx K) ix_seq (pv 6) pe_int (fun _ _ => rfl))) pa_nil)))) (pg_tup rfl (pgs_cons (pg_name (i := 3) sc.nd rfl (Or.inl rfl)) (pgs_cons (pg_name (i := 4) sc.nd rfl (Or.inl rfl)) pgs_nil))))))) pss_nil)
      (pss_one (ps_ret (pe_ifExp (pw_or (pt_cmpR op_ne (pv 3) pe_int (nomark _)) (pw_or1 (pt_cmpR op_ne (pv 4) pe_int (nomark _)))).pt (pe_def D__law_cut hr2 (by rfl) (pa_cons (pe_tup (pa_cons (pv 3) (pa_cons (pv 4) pa_nil))) pa_nil)) (pe_tup (pa_cons pe_int (pa_cons (pe_un un_neg pe_int) pa_nil)))))))))), ?_⟩
    obtain ⟨ht, hS⟩ := hp
    have h3 := hS.cv.1
    have h8 := hS.hi
    have t1 := dip_ok ht 4
    have t2 := aboutT_ok t1 4
    have tB : TubOk 100003 (upB t).2 := aboutT_ok t2 4
    have t0 : TubOk 100004 (ups0 (dip t 4).1 (upB t)).2 := by
      unfold ups0
      split
      · exact dip_ok tB 4
      · exact tB.mono (by omega)
    have hc : ∀ i, Pm 8 (cn S i) := fun i => (hS.gs _ (cn_mem (by omega))).pm (by decide) (by decide)
    have hB := upC_B (t := t) hS
    show SD K _ [.tub t.1 t.2.1 t.2.2, .imm _, .any, .any, .any, .any, .any] _ _ _ _
    refine sd_then (e1 := [.tub (dip t 4).2.1 (dip t 4).2.2.1 (dip t 4).2.2.2, .imm (encS S), .imm (encN (dip t 4).1), .any, .any, .any, .any]) (sd_set (c__law_dip (t := t) (u := t) (k := 4) (i := 0) rfl ed_int rfl ⟨ht.mono (by decide), by decide, by decide⟩)) (
      sd_then (e1 := [.tub (upB t).2.1 (upB t).2.2.1 (upB t).2.2.2, .imm (encS S), .imm (encN (dip t 4).1), .imm (.int (upB t).1.1), .imm (.int (upB t).1.2), .any, .any]) (sd_par (ad_cons (c__law_about (t := (dip t 4).2) (u := (dip t 4).2) (k := 4) (i := 0) rfl ed_int rfl ⟨t1.mono (by decide), by decide⟩) (ad_cons (c__law_about (t := (aboutT (dip t 4).2 4).2) (u := (aboutT (dip t 4).2 4).2) (k := 4) (i := 0) rfl ed_int rfl ⟨t2.mono (by decide), by decide⟩) ad_nil))) (
      sd_seq (N := fun e => e = [.tub (ups0 (dip t 4).1 (upB t)).2.1 (ups0 (dip t 4).1 (upB t)).2.2.1 (ups0 (dip t 4).1 (upB t)).2.2.2, .imm (encS S), .imm (encN (dip t 4).1), .imm (.int (ups0 (dip t 4).1 (upB t)).1.1), .imm (.int (ups0 (dip t 4).1 (upB t)).1.2), .any, .any]) ?_ (fun e hz => ?_)))
    · generalize upB t = s at tB ⊢
      refine sd_if (td_test (ed_eqI (ed_var rfl) ed_int)) (fun h => ?_) (fun h => sd_next ?_)
      · have h : (((dip t 4).1 : Nat) : Int) = 0 := of_decide_eq_true h
        have e : ups0 (dip t 4).1 s = (dirL.getD (dip s.2 4).1 (0, 0), (dip s.2 4).2) := if_pos (by omega)
        rw [e]
        have e4 : ([.tuple [.int 0, .int 1], .tuple [.int 1, .int 0], .tuple [.int 0, .int (-1)], .tuple [.int (-1), .int 0]] : List PyData) = dirL.map encU := rfl
        refine sd_imp (sd_asg (ed_is (d := encU (dirL.getD (dip s.2 4).1 (0, 0))) (c__law_of (t := s.2) (u := s.2) (i := 0) (z := (true, [.tuple [.int 0, .int 1], .tuple [.int 1, .int 0], .tuple [.int 0, .int (-1)], .tuple [.int (-1), .int 0]])) rfl (ed_lst (ad_cons (ed_tup (ad_cons ed_int (ad_cons ed_int ad_nil))) (ad_cons (ed_tup (ad_cons ed_int (ad_cons ed_int ad_nil))) (ad_cons (ed_tup (ad_cons ed_int (ad_cons (ed_neg ed_int) ad_nil))) (ad_cons (ed_tup (ad_cons (ed_neg ed_int) (ad_cons ed_int ad_nil))) ad_nil))))) rfl ⟨tB.mono (by decide), by decide, by decide⟩) ?_) (gd_tup (gds_cons gd_name (gds_cons gd_name gds_nil)))) fun e' he => he
        show (ofT s.2 _).1 = _
        rw [e4]
        exact ofT_map s.2 dirL encU (0, 0) (by decide)
      · have h : ¬ (((dip t 4).1 : Nat) : Int) = 0 := of_decide_eq_false h
        have e : ups0 (dip t 4).1 s = s := if_neg (by omega)
        rw [e]
    · subst hz
      refine sd_seq (N := fun e => ∃ k1 k2, e = [.tub (upC t S).2.1 (upC t S).2.2.1 (upC t S).2.2.2, .imm (encS S), .imm (encN (dip t 4).1), .imm (.int (upC t S).1.1), .imm (.int (upC t S).1.2), k1, k2]) ?_ (fun e hz => ?_)
      · have e0 : upC t S = ups1 (dip t 4).1 S (ups0 (dip t 4).1 (upB t)) := rfl
        rw [e0]
        generalize ups0 (dip t 4).1 (upB t) = s at t0 ⊢
        refine sd_if (td_test (ed_eqI (ed_var rfl) ed_int)) (fun h => ?_) (fun h => sd_next ⟨.any, .any, ?_⟩)
        · have h : (((dip t 4).1 : Nat) : Int) = 1 := of_decide_eq_true h
          have e : ups1 (dip t 4).1 S s = (if (dip (dip s.2 S.length).2 2).1 = 0 then (-(upW s S).Y, (upW s S).X) else (0 - -(upW s S).Y, 0 - (upW s S).X), (dip (dip s.2 S.length).2 2).2) := if_pos (by omega)
          rw [e]
          have hlt := dip_lt s.2 (k := S.length) (by omega)
          refine sd_then (e1 := [.tub (dip s.2 S.length).2.1 (dip s.2 S.length).2.2.1 (dip s.2 S.length).2.2.2, .imm (encS S), .imm (encN (dip t 4).1), .imm (.int s.1.1), .imm (.int s.1.2), .imm (encN (dip s.2 S.length).1), .any]) (sd_set (c__law_dip (t := s.2) (u := s.2) (k := S.length) (i := 0) rfl (ed_is (ed_lenT (ed_var rfl)) (by rw [List.length_map])) rfl ⟨t0.mono (by decide), by omega, by omega⟩)) (
            sd_then (e1 := [.tub (dip s.2 S.length).2.1 (dip s.2 S.length).2.2.1 (dip s.2 S.length).2.2.2, .imm (encS S), .imm (encN (dip t 4).1), .imm (.int s.1.1), .imm (.int s.1.2), .imm (encN (dip s.2 S.length).1), .imm (.tuple [.int (-(upW s S).Y), .int (upW s S).X, .int ((upW s S).W : Int)])]) (sd_set (c__law_quarter (p := upW s S) (c__law_way (ed_ixT (ed_var rfl) (ed_sub (ed_var rfl) ed_int) (at_back hlt)) (ed_ixT (ed_var rfl) (ed_var rfl) (atN (cn_at hlt))) ⟨(hc _).mono (by decide), (hc _).mono (by decide)⟩) trivial)) ?_)
          have td := dip_ok t0 S.length
          by_cases q : (dip (dip s.2 S.length).2 2).1 = 0
          · rw [if_pos q]
            refine sd_imp (sd_asg (ed_if (b := true) (td_is (td_test (ed_eqI (c__law_dip (t := (dip s.2 S.length).2) (u := (dip s.2 S.length).2) (k := 2) (i := 0) rfl ed_int rfl ⟨td.mono (by decide), by decide, by decide⟩) ed_int)) (decide_eq_true (by omega))) (fun _ => ed_is (d := .tuple [.int (-(upW s S).Y), .int (upW s S).X]) (ed_slT (ed_var rfl) od_no (od_some ed_int) (show ¬ (HT.sIx 3 0 none = 0 ∧ HT.sIx 3 3 (some 2) = 3) by decide)) ?_) (fun h => nomatch h)) (gd_tup (gds_cons gd_name (gds_cons gd_name gds_nil)))) fun e' he => ⟨_, _, he⟩
            show PyData.tuple (cutD _ none (some ((2 : Nat) : Int))) = _
            rw [cut_take]
            rfl
          · rw [if_neg q]
            exact sd_imp (sd_asg (ed_if (b := false) (td_is (td_test (ed_eqI (c__law_dip (t := (dip s.2 S.length).2) (u := (dip s.2 S.length).2) (k := 2) (i := 0) rfl ed_int rfl ⟨td.mono (by decide), by decide, by decide⟩) ed_int)) (decide_eq_false (by omega))) (fun h => nomatch h) (fun _ => ed_tup (ad_cons (ed_sub ed_int (ed_ixT (ed_var rfl) ed_int at0)) (ad_cons (ed_sub ed_int (ed_ixT (ed_var rfl) ed_int at1)) ad_nil)))) (gd_tup (gds_cons gd_name (gds_cons gd_name gds_nil)))) fun e' he => ⟨_, _, he⟩
        · have h : ¬ (((dip t 4).1 : Nat) : Int) = 1 := of_decide_eq_false h
          have e : ups1 (dip t 4).1 S s = s := if_neg (by omega)
          rw [e]
      · obtain ⟨k1, k2, rfl⟩ := hz
        unfold upT
        generalize upC t S = s at hB ⊢
        have hg : B 8200 ((gcdN [s.1.1, s.1.2] : Nat) : Int) ∨ s.1.1 = 0 ∧ s.1.2 = 0 := by
          by_cases z : s.1.1 = 0
          · by_cases z2 : s.1.2 = 0
            · exact .inr ⟨z, z2⟩
            · refine .inl (B.mono (hB.2.le ?_) (k := 20) (by decide))
              rw [Int.natAbs_natCast, gcdN2]
              exact Nat.le_of_dvd (by omega) (Nat.gcd_dvd_right _ _)
          · refine .inl (B.mono (hB.1.le ?_) (k := 20) (by decide))
            rw [Int.natAbs_natCast, gcdN2]
            exact Nat.le_of_dvd (by omega) (Nat.gcd_dvd_left _ _)
        have ft : ∀ {a b : Int}, (!decide (a = 0) || !decide (b = 0)) = true → a ≠ 0 ∨ b ≠ 0 := fun h => by
          rcases Bool.or_eq_true_iff.mp h with h | h
          · exact .inl (by simpa using h)
          · exact .inr (by simpa using h)
        refine sd_ret (ed_if (d := encU (redU s.1)) (td_or (td_test (ed_neI (ed_var rfl) ed_int)) fun h => td_test (ed_neI (ed_var rfl) ed_int)) (fun h => ed_is (c__law_cut (ns := [s.1.1, s.1.2]) (ed_tup (ad_cons (ed_var rfl) (ad_cons (ed_var rfl) ad_nil))) ⟨by simp, ?_⟩) ?_) (fun h => ed_is (ed_tup (ad_cons ed_int (ad_cons (ed_neg ed_int) ad_nil))) ?_)) ⟨rfl, rfl⟩
        · rcases hg with hg | ⟨z1, z2⟩
          · exact hg
          · rcases ft h with w | w
            · exact absurd z1 w
            · exact absurd z2 w
        · have hz := ft h
          have hgp : 0 < gcdN [s.1.1, s.1.2] := by
            rw [gcdN2]
            rcases hz with z | z
            · exact Nat.gcd_pos_of_pos_left _ (by omega)
            · exact Nat.gcd_pos_of_pos_right _ (by omega)
          unfold redU
          rw [if_pos hz, cutL_eq hgp]
          rfl
        · have hz : ¬ (s.1.1 ≠ 0 ∨ s.1.2 ≠ 0) := by
            obtain ⟨h1, h2⟩ := Bool.or_eq_false_iff.mp h
            rintro (w | w)
            · exact w (by simpa using h1)
            · exact w (by simpa using h2)
          unfold redU
          rw [if_neg hz]
end
end Hull
set_option maxHeartbeats 1000000
namespace Hull
open PySem
/-! sizes of stands -/
structure StB (S : List P2) (z : Stand) : Prop where
  okL : RimOk S z.1
  okR : RimOk S z.2
  ne : z.1.1 ≠ z.2.1
  s1 : Sm 211 z.1.2
  s2 : Sm 211 z.2.2
section
variable {S : List P2} {P : P2} {z : Stand} {m : Rat}
theorem cn_pm (h : Gs 130 S) (h0 : 0 < S.length) (i : Nat) : Pm 8 (cn S i) := (h _ (cn_mem h0)).pm (by decide) (by decide)
theorem eg_pm (h : Gs 130 S) (h0 : 0 < S.length) (i : Nat) : Pm 17 (eg S i) := (cn_pm h h0 _).sub (cn_pm h h0 _)
theorem rp_pm (h : Gs 130 S) (h0 : 0 < S.length) {r : Rim} (hr : Sm 211 r.2) : Pm 237 (rp S r) := ((cn_pm h h0 _).add ((eg_pm h h0 _).mul hr)).mono (by decide)
theorem StB.lenP (h : StB S z) : 2 ≤ (passed S.length z).length + 2 ∧ (passed S.length z).length ≤ S.length - 1 := by
  have h1 := arc_lt h.okL.i h.okR.i
  refine ⟨by omega, ?_⟩
  unfold passed
  split
  · rw [List.length_dropLast, List.length_map, List.length_range]; omega
  · rw [List.length_map, List.length_range]; omega
theorem StB.len (h : StB S z) : (below S z).length = (passed S.length z).length + 2 := by
  unfold below
  rw [List.length_append, List.length_append, List.length_map]
  show 1 + _ + 1 = _
  omega
theorem below_ps (hG : Gs 130 S) (h : StB S z) : Ps 237 (below S z) := fun p hp => by
  have h0 : 0 < S.length := by have := h.okL.i; omega
  unfold below at hp
  rcases List.mem_append.mp hp with hp | hp
  · rcases List.mem_append.mp hp with hp | hp
    · rw [List.mem_singleton.mp hp]; exact rp_pm hG h0 h.s1
    · obtain ⟨k, _, rfl⟩ := List.mem_map.mp hp
      exact (cn_pm hG h0 k).mono (by decide)
  · rw [List.mem_singleton.mp hp]; exact rp_pm hG h0 h.s2
theorem below_mid (hG : Gs 130 S) (h : StB S z) {i : Nat} (h1 : 0 < i) (h2 : i + 1 < (below S z).length) : Pm 8 ((below S z).getD i pz) := by
  have h0 : 0 < S.length := by have := h.okL.i; omega
  have hl := h.len
  have e := getD_at (l := below S z) (i := i) (by omega)
  have e2 : (below S z)[i]? = ((passed S.length z).map (cn S))[i - 1]? := by
    unfold below
    rw [List.getElem?_append_left (by rw [List.length_append, List.length_map]; show i < 1 + _; omega), List.getElem?_append_right (by show 1 ≤ i; omega)]
    rfl
  rw [e2] at e
  obtain ⟨k, _, hk⟩ := List.mem_map.mp (List.mem_of_getElem? e)
  rw [← hk]
  exact cn_pm hG h0 k
theorem below_fst (hG : Gs 130 S) (h : StB S z) {i : Nat} (h2 : i < (below S z).length) : Pm 237 ((below S z).getD i pz) := below_ps hG h _ (List.mem_of_getElem? (getD_at h2))
theorem Sm1 : Sm 1 (0 : Rat) := ⟨by unfold B; decide, by unfold B; decide⟩
theorem fan_step (hG : Gs 130 S) (h : StB S z) (h8 : S.length ≤ 8) : ∀ k, k + 3 ≤ (below S z).length → Sm (1 + k * 495) (fan (below S z) k)
  | 0, _ => Sm1
  | k + 1, hk => by
    have ih := fan_step hG h h8 k (by omega)
    have a := below_fst hG h (i := 0) (by omega)
    have b := below_mid hG h (i := k + 1) (by omega) (by omega)
    have c := below_mid hG h (i := k + 2) (by omega) (by omega)
    have ht : Sm 493 (tri ((below S z).getD 0 pz) ((below S z).getD (k + 1) pz) ((below S z).getD (k + 2) pz)) := by
      unfold tri
      exact (Sm_cr (b.sub a) (c.sub a)).mono (by decide)
    exact (ih.add ht).mono (by omega)
theorem StB.fan (hG : Gs 130 S) (h : StB S z) (h8 : S.length ≤ 8) : FanOk (below S z) := by
  have hl := h.len
  have hp := h.lenP
  have tr : ∀ k, k + 3 ≤ (below S z).length → Sm 722 (tri ((below S z).getD 0 pz) ((below S z).getD (k + 1) pz) ((below S z).getD (k + 2) pz)) := fun k hk => by
    have a := below_fst hG h (i := 0) (by omega)
    have b := below_mid hG h (i := k + 1) (by omega) (by omega)
    have c := below_fst hG h (i := k + 2) (by omega)
    unfold tri
    exact (Sm_cr (b.sub a) (c.sub a)).mono (by decide)
  refine ⟨by omega, by omega, fun p q => (below_ps hG h p q).mono (by decide), fun k hk => ?_, fun k hk => (tr k hk).mono (by decide)⟩
  cases k with
  | zero => exact (⟨by unfold B; decide, by unfold B; decide⟩ : Sm 1 (0 : Rat)).mono (by decide)
  | succ k =>
    have h1 := fan_step hG h h8 k (by omega)
    have h2 := tr k (by omega)
    refine (h1.add h2).mono ?_
    have : k * 495 ≤ 6 * 495 := Nat.mul_le_mul_right _ (by omega)
    omega
theorem StB.area (hG : Gs 130 S) (h : StB S z) (h8 : S.length ≤ 8) : Sm 4000 (stArea S z) := by
  have hl := h.len
  have hp := h.lenP
  have e := fan_area (below S z) (by omega)
  have hf : Sm 3990 (Hull.fan (below S z) ((below S z).length - 2)) := by
    have hcase : (below S z).length - 2 = 0 ∨ ∃ k, (below S z).length - 2 = k + 1 ∧ k ≤ 6 := by
      rcases (by omega : (below S z).length - 2 = 0 ∨ 0 < (below S z).length - 2) with q | q
      · exact .inl q
      · exact .inr ⟨(below S z).length - 2 - 1, by omega, by omega⟩
    rcases hcase with q | ⟨k, q, hk⟩
    · rw [q]
      exact (⟨by unfold B; decide, by unfold B; decide⟩ : Sm 1 (0 : Rat)).mono (by decide)
    · have h1 := fan_step hG h h8 k (by omega)
      have a := below_fst hG h (i := 0) (by omega)
      have b := below_mid hG h (i := k + 1) (by omega) (by omega)
      have c := below_fst hG h (i := k + 2) (by omega)
      have h2 : Sm 722 (tri ((below S z).getD 0 pz) ((below S z).getD (k + 1) pz) ((below S z).getD (k + 2) pz)) := by
        unfold tri
        exact (Sm_cr (b.sub a) (c.sub a)).mono (by decide)
      rw [q]
      refine (h1.add h2).mono ?_
      have : k * 495 ≤ 6 * 495 := Nat.mul_le_mul_right _ hk
      omega
  have hh : Sm 2 (1 / 2 : Rat) := Sm.lit (by decide +kernel) (by decide +kernel)
  unfold stArea
  rw [← e]
  exact (hf.mul hh).mono (by decide)
theorem StB.ok (hG : Gs 130 S) (h : StB S z) (h8 : S.length ≤ 8) : StOk S z :=
  ⟨h.okL.i, h.okR.i, h.s1.mono (by decide), h.s2.mono (by decide), fun p q => (below_ps hG h p q).mono (by decide), grid_small (below_ps hG h) (l := 10) (by have := h.len; have := h.lenP; omega) (by decide)⟩
/-! which stands are small -/
theorem Chord.stB (hI : Ins S P) (h : Chord S P z m) (s1 : Sm 211 z.1.2) (s2 : Sm 211 z.2.2) : StB S z := ⟨h.okL, h.okR, h.ne hI, s1, s2⟩
theorem Sm0 (k : Nat) : Sm (k + 1) 0 := ⟨B.zero, B.one (by omega)⟩
theorem Sm.neg {k : Nat} {q : Rat} (h : Sm k q) : Sm k (-q) := ⟨by show B k (-q.num); exact h.n.neg, h.d⟩
theorem corner_share (hG : Gs 130 S) (hP : Pm 55 P) (hI : Ins S P) {i : Nat} {r : Rim} (h : Chord S P ((i, 0), r) m) : Sm 211 r.2 := by
  have h0 : 0 < S.length := by have := h.i1; omega
  have hz := Ch.zero h.lk
  have hv := Ch.mv h.lk
  have hp := hI.cr h0 r.1
  have hm := h.lk.m0
  have h1 := mul_pos' hm hp
  have hz : cr ((cn S i).sub P) ((cn S r.1).sub P) + r.2 * cr ((cn S i).sub P) (eg S r.1) + 0 * (cr (eg S i) ((cn S r.1).sub P) + r.2 * cr (eg S i) (eg S r.1)) = 0 := hz
  have hv : m * cr ((cn S r.1).sub P) (eg S r.1) = -(cr ((cn S i).sub P) (eg S r.1) + 0 * cr (eg S i) (eg S r.1)) := hv
  have hd : cr ((cn S i).sub P) (eg S r.1) ≠ 0 := by grind
  have e : r.2 = -(cr ((cn S i).sub P) ((cn S r.1).sub P)) / cr ((cn S i).sub P) (eg S r.1) := by grind
  have a : Pm 64 ((cn S i).sub P) := (cn_pm hG h0 i).sub hP
  have b : Pm 64 ((cn S r.1).sub P) := (cn_pm hG h0 r.1).sub hP
  rw [e]
  exact (((Sm_cr a b).neg).over (Sm_cr a (eg_pm hG h0 r.1)) hd).mono (by decide)
theorem half_share (hG : Gs 130 S) (hP : Pm 55 P) (h0 : 0 < S.length) {i j : Nat} (hd : cr (eg S i) (eg S j) ≠ 0) : Sm 211 (acrossX S P i j) ∧ Sm 211 (acrossY S P i j) := by
  have g : Pm 75 (((P.mul 2).sub (cn S i)).sub (cn S j)) := (((hP.mul Sm2).sub (cn_pm hG h0 i)).sub (cn_pm hG h0 j)).mono (by decide)
  have hc := Sm_cr (eg_pm hG h0 i) (eg_pm hG h0 j)
  exact ⟨((Sm_cr g (eg_pm hG h0 j)).over hc hd).mono (by decide), ((Sm_cr (eg_pm hG h0 i) g).over hc hd).mono (by decide)⟩
theorem isF.stB (hG : Gs 130 S) (hP : Pm 55 P) (hI : Ins S P) (h : isF S P z) : StB S z := by
  obtain ⟨m, c, h⟩ := h
  have h0 : 0 < S.length := by have := c.i1; omega
  rcases h with (h | h) | ⟨h1, h2⟩
  · have e : z = ((z.1.1, 0), z.2) := Prod.ext (Prod.ext rfl h) rfl
    have c2 := c
    rw [e] at c2
    exact c.stB hI (by rw [h]; exact Sm0 210) (corner_share hG hP hI c2)
  · have c2 := c.flip
    have e : (z.2, z.1) = ((z.2.1, 0), z.1) := Prod.ext (Prod.ext rfl h) rfl
    rw [e] at c2
    exact c.stB hI (corner_share hG hP hI c2) (by rw [h]; exact Sm0 210)
  · subst h1
    obtain ⟨e1, e2⟩ := (link_half h2).mp c.lk
    have := half_share hG hP h0 h2
    exact c.stB hI (by rw [e1]; exact this.1) (by rw [e2]; exact this.2)
theorem hv_ok (hC : Conv S) (hI : Ins S P) (hG : Gs 130 S) (hP : Pm 55 P) (h8 : S.length ≤ 8) : HvOk S P where
  ps := fun p hp => ((hG p hp).pm (k := 8) (by decide) (by decide)).mono (by decide)
  lo := hC.1
  hi := h8
  pm := hP.mono (by decide)
  ne := fun i hi => corner_ne hI (by omega) i
  st := fun z hz => (((mem_halved hC hI).mp hz).isF.stB hG hP hI).ok hG h8
  ar := fun z hz => (((mem_halved hC hI).mp hz).isF.stB hG hP hI).area hG h8
theorem plate_ok (hC : Conv S) (hG : Gs 130 S) (h8 : S.length ≤ 8) (hh : hullP S = S) : Plate S where
  ps := fun p hp => ((hG p hp).pm (k := 8) (by decide) (by decide)).mono (by decide)
  lo := hC.1
  hi := h8
  gr := hG.grid (by decide) (by omega)
  hull := hh
/-! water lines -/
theorem lev_sm {k j : Nat} {u : Int × Int} {p : P2} (hu : Bu k u) (hp : Pm j p) : Sm (k + j + 1) (lev u p) := by
  unfold lev
  rw [← pt_lev]
  exact Sm_div (W_ne' p) (((hu.1.mul hp.x).add (hu.2.mul hp.y)).mono (by omega)) (hp.w.mono (by omega))
theorem line_stB (hG : Gs 130 S) (hP : Pm 55 P) (hI : Ins S P) {u : Int × Int} (hu : Bu 20 u) {l r : Rim} (hl : lineL S u (lev u P) S.length = some l) (hr : lineR S u (lev u P) S.length = some r) (c : Chord S P (l, r) m) : StB S (l, r) := by
  have h0 : 0 < S.length := by have := c.i1; omega
  have key : ∀ i, lev u (cn S (i + 1)) - lev u (cn S i) ≠ 0 → Sm 211 (cross1 S u (lev u P) i).2 := fun i hd => by
    unfold cross1 told
    split
    · exact Sm0 210
    · have a : Sm 76 (lev u P) := lev_sm hu hP
      have b : ∀ k, Sm 29 (lev u (cn S k)) := fun k => lev_sm hu (cn_pm hG h0 k)
      exact ((a.sub (b i)).over ((b (i + 1)).sub (b i)) hd).mono (by decide)
  have fL : ∀ (cnd : Nat → Prop) [DecidablePred cnd] (n : Nat) (x : Rim), (List.range n).foldl (fun a i => if cnd i then some (cross1 S u (lev u P) i) else a) none = some x → ∃ i, cnd i ∧ x = cross1 S u (lev u P) i := by
    intro cnd _ n
    induction n with
    | zero => intro x h; cases h
    | succ n ih =>
      intro x h
      rw [List.range_succ, List.foldl_append, List.foldl_cons, List.foldl_nil] at h
      split at h
      · rename_i q
        exact ⟨n, q, (Option.some.inj h).symm⟩
      · exact ih x h
  obtain ⟨i, hi, e1⟩ := fL (fun i => lev u (cn S (i + 1)) < lev u P ∧ ¬ lev u (cn S i) < lev u P) _ _ hl
  obtain ⟨j, hj, e2⟩ := fL (fun i => lev u (cn S i) < lev u P ∧ ¬ lev u (cn S (i + 1)) < lev u P) _ _ hr
  refine c.stB hI ?_ ?_
  · show Sm 211 l.2
    rw [e1]; exact key i (by grind)
  · show Sm 211 r.2
    rw [e2]; exact key j (by grind)
end
end Hull
set_option maxHeartbeats 4000000
namespace Hull
open PySem PySem.Spec PyProof.Rows L2
section
variable {P : Program} {w : World} {K : Frag} {mg : Str → Option Value} {base : Heap}
abbrev encPr (z : Stand) : PyData := .list [encRim z.1, encRim z.2]
theorem num_pos {q : Rat} : decide (0 < q.num) = decide (0 < q) := decide_eq_decide.mpr (by
  have h0 : 0 ≤ q.num ↔ 0 ≤ q := Rat.num_nonneg
  have hz : q.num = 0 ↔ q = 0 := Rat.num_eq_zero
  constructor
  · intro h
    have a := h0.mp (by omega)
    have b : q ≠ 0 := fun z => by have := hz.mpr z; omega
    grind
  · intro h
    have a := h0.mpr (by grind)
    have b : q.num ≠ 0 := fun z => by have := hz.mp z; grind
    omega)
theorem num_le {q : Rat} : decide (q.num ≤ 0) = decide (q ≤ 0) := by
  have h := num_pos (q := q)
  have e1 : decide (q.num ≤ 0) = !decide (0 < q.num) := by
    by_cases z : 0 < q.num
    · rw [decide_eq_true z, decide_eq_false (by omega)]; rfl
    · rw [decide_eq_false z, decide_eq_true (by omega)]; rfl
  have e2 : decide (q ≤ 0) = !decide (0 < q) := by
    by_cases z : 0 < q
    · rw [decide_eq_true z, decide_eq_false (by grind)]; rfl
    · rw [decide_eq_false z, decide_eq_true (by grind)]; rfl
  rw [e1, e2, h]
theorem num_nn {q : Rat} : decide (0 ≤ q.num) = decide (0 ≤ q) := decide_eq_decide.mpr Rat.num_nonneg
theorem num_nz {q : Rat} : decide (q.num = 0) = decide (q = 0) := decide_eq_decide.mpr Rat.num_eq_zero
/-- what the law's halves and exits need -/
structure In55 (S : List P2) (P : P2) : Prop where
  gs : Gs 130 S
  pm : Pm 55 P
  lo : 0 < S.length
  hi : S.length ≤ 8
theorem In55.sz {S : List P2} {P : P2} (h : In55 S P) : Sz S := ⟨fun p hp => ((h.gs p hp).pm (k := 8) (by decide) (by decide)).mono (by decide), h.lo, by have := h.hi; omega⟩
theorem int_next {n : Nat} {i : Nat} : (((i : Int) + 1) % (n : Int)) = (((i + 1) % n : Nat) : Int) := by rw [Int.natCast_emod]; rfl
theorem Sk.wk {H0 H : Hp} {M X0 : Ap} {ps : List (V × PyData)} {e e1 : List EK} {σ : L2.St} (g : Sk K H0 M X0 ps e σ H) (hw : Wk e e1) : Sk K H0 M X0 ps e1 σ H := by
  obtain ⟨hl, hw⟩ := hw.at_
  obtain ⟨X, g⟩ := g
  exact ⟨X, { g with len := g.len.trans hl.symm, slot := fun i k q => (hw i k q).elim (fun z => z ▸ True.intro) (fun z => g.slot i k z) }⟩
def R__law_exit (ds : List PyData) (d : PyData) : Prop := ∃ (S : List P2) (i : Nat) (P : P2), (In55 S P) ∧ ds = [encS S, encP (cn S i), encP P] ∧ d = encO (exitOf S P i)
theorem c__law_exit {t0 t1 t2 : TE} {e0 e1 e2 e3 : List EK} {S : List P2} {i : Nat} {P : P2} (a0 : ED K t0 e0 (encS S) e1) (a1 : ED K t1 e1 (encP (cn S i)) e2) (a2 : ED K t2 e2 (encP P) e3) (hp : In55 S P) : ED K (tCall (spP K R__law_exit) [] E0 (tCons t0 (tCons t1 (tCons t2 tNil)))) e0 (encO (exitOf S P i)) e3 := ed_call (ad_cons a0 (ad_cons a1 (ad_cons a2 ad_nil))) ⟨S, i, P, hp, rfl, rfl⟩
abbrev DD__law_exit (P : Program) (w : World) (K : Frag) (mg : Str → Option Value) (base : Heap) : Prop := Def P w K mg base 6 "_law_exit" ["_law_section_here", "_law_corner", "_law_point_here"] (spP K R__law_exit)
theorem ok__law_exit (T : Top K mg) (D__law_less : DD__law_less P w K mg base) (D__law_over : DD__law_over P w K mg base) (D__law_tri : DD__law_tri P w K mg base) : DD__law_exit P w K mg base := by
  obtain ⟨f, fd, F, hm⟩ := T.df "_law_exit" 126 (by decide +kernel)
  have sc : FnScope ["_law_section_here", "_law_corner", "_law_point_here", "_law_at", "_law_one", "_law_two", "_law_low", "_law_high"] ["_law_section_here", "_law_corner", "_law_point_here"] (defScope (top 126)) := ⟨rfl, rfl, rfl, by decide +kernel, rfl, by decide +kernel, by decide +kernel⟩
  have m_int := T.fr "int" (by decide +kernel)
  have m_len := T.fr "len" (by decide +kernel)
  have m_range := T.fr "range" (by decide +kernel)
  refine def_of F hm sc (fun ds d h => ?_) (fun _ _ _ _ _ _ us hl => match us, hl with | [_, _, _], _ => rfl) (fun cdv A outer s H E ds d hr h => ?_)
  · obtain ⟨S, i, P, hp, rfl, rfl⟩ := h
    rfl
  · obtain ⟨S, i, P, hp, rfl, rfl⟩ := h
    have hr4 := hr.mono (j := 4) (by decide)
    have hr5 := hr.mono (j := 5) (by decide)
    refine ⟨_, (pss_cons (ps_for PassesOwn.never rfl (pi_range1 (by rfl) m_range (pa_cons (pe_callB call_len_seq (by rfl) m_len bt_len (pa_cons (pv 0) pa_nil)) pa_nil)) (pg_name (i := 3) sc.nd rfl (Or.inl rfl)) (pss_cons (ps_par (i := 4) (j := 5) rfl sc.nd rfl rfl (by decide) rfl rfl (pa_cons (pe_ix (r := rIx K) ix_seq (pv 0) (pv 3) (fun _ _ => rfl)) (pa_cons (pe_ix (r := rIx K) ix_seq (pv 0) (pe_op op_mod (pe_callTy call_int1 (by rfl) m_int bt_int (pa_cons (pe_op op_add (pv 3) pe_int) pa_nil)) (pe_callB call_len_seq (by rfl) m_len bt_len (pa_cons (pv 0) pa_nil))) (fun _ _ => rfl)) pa_nil)) rfl)
      (pss_cons (ps_par (i := 6) (j := 7) rfl sc.nd rfl rfl (by decide) rfl rfl (pa_cons (pe_def D__law_tri hr5 (by rfl) (pa_cons (pv 1) (pa_cons (pv 2) (pa_cons (pv 4) pa_nil)))) (pa_cons (pe_def D__law_tri hr5 (by rfl) (pa_cons (pv 1) (pa_cons (pv 2) (pa_cons (pv 5) pa_nil)))) pa_nil)) rfl)
      (pss_one (ps_if (pw_and (pt_cmpR (r := rNeD K) (op_neD hr.units) (pv 1) (pv 4) (nomark _)) (pw_and (pt_cmpR op_le (pe_ix (r := rIx K) ix_seq (pv 6) pe_int (fun _ _ => rfl)) pe_int (nomark _)) (pw_and1 (pt_cmpR op_gt (pe_ix (r := rIx K) ix_seq (pv 7) pe_int (fun _ _ => rfl)) pe_int (nomark _))))).pt (pss_one (ps_ret (pe_tup (pa_cons (pv 3) (pa_cons (pe_def D__law_over hr4 (by rfl) (pa_cons (pv 6) (pa_cons (pe_def D__law_less hr4 (by rfl) (pa_cons (pv 6) (pa_cons (pv 7) pa_nil))) pa_nil))) pa_nil))))) pss_nil)))))
      (pss_one (ps_ret pe_non))), ?_⟩
    have hS := hp.sz
    have h0 := hp.lo
    have h8 := hp.hi
    have hc : ∀ k, Pm 8 (cn S k) := cn_pm hp.gs h0
    have ht : ∀ k, Sm 140 (tri (cn S i) P (cn S k)) := fun k => by
      unfold tri
      exact (Sm_cr (hp.pm.sub (hc i)) ((hc k).sub (hc i))).mono (by decide)
    show SD K _ [.imm _, .imm _, .imm _, .any, .any, .any, .any, .any] _ _ _ _
    refine sd_seq (N := fun e => (∃ k1 k2 k3 k4 k5, e = [.imm (encS S), .imm (encP (cn S i)), .imm (encP P), k1, k2, k3, k4, k5]) ∧ exitOf S P i = none)
      (sd_forR (n := S.length) (f := encN) (fun k e => (∃ k1 k2 k3 k4 k5, e = [.imm (encS S), .imm (encP (cn S i)), .imm (encP P), k1, k2, k3, k4, k5]) ∧ ∀ x, x < k → exitAt S P i x = false) (id_rngN (n := S.length) (ad_cons (ed_is (ed_lenT (ed_var rfl)) (by rw [List.length_map])) ad_nil) (by omega)) ⟨⟨.any, .any, .any, .any, .any, rfl⟩, fun k hk => absurd hk (Nat.not_lt_zero _)⟩ (fun k e' hk hI => ?_) (fun e' hI => ⟨hI.1, findSome_none fun x hx => by rw [hI.2 x hx]; rfl⟩)) (fun e z => ?_)
    · obtain ⟨⟨k1, k2, k3, k4, k5, rfl⟩, hno⟩ := hI
      refine ⟨_, _, gd_name, ?_⟩
      refine sd_wk (e1 := [.imm (encS S), .imm (encP (cn S i)), .imm (encP P), .imm (encN k), .any, .any, .any, .any]) ?_ ⟨.inr rfl, .inr rfl, .inr rfl, .inr rfl, .inl rfl, .inl rfl, .inl rfl, .inl rfl, trivial⟩
      refine sd_then (e1 := [.imm (encS S), .imm (encP (cn S i)), .imm (encP P), .imm (encN k), .imm (encP (cn S k)), .imm (encP (cn S (k + 1))), .any, .any]) (sd_par (ad_cons (ed_ixT (ed_var rfl) (ed_var rfl) (at_here hk)) (ad_cons (ed_ixT (ed_var rfl) (ed_mod (ed_intC (ed_add (ed_var rfl) ed_int)) (ed_lenT (ed_var rfl)) (by rw [List.length_map]; omega)) (at_next h0)) ad_nil))) (
        sd_then (e1 := [.imm (encS S), .imm (encP (cn S i)), .imm (encP P), .imm (encN k), .imm (encP (cn S k)), .imm (encP (cn S (k + 1))), .imm (encR (tri (cn S i) P (cn S k))), .imm (encR (tri (cn S i) P (cn S (k + 1))))]) (sd_par (ad_cons (c__law_tri (ed_var rfl) (ed_var rfl) (ed_var rfl) ⟨(hc _).mono (by decide), hp.pm.mono (by decide), (hc _).mono (by decide)⟩) (ad_cons (c__law_tri (ed_var rfl) (ed_var rfl) (ed_var rfl) ⟨(hc _).mono (by decide), hp.pm.mono (by decide), (hc _).mono (by decide)⟩) ad_nil))) (
        sd_if (b := exitAt S P i k) (td_is (td_and (td_is (td_test (ed_neD (ed_var rfl) (ed_var rfl) rfl rfl)) (c := !decide (cn S i = cn S k)) (by rw [eqvP])) fun _ => td_and (td_is (td_test (ed_le (ed_ixT (ed_var rfl) ed_int at0) ed_int)) num_le) fun _ => td_is (td_test (ed_gt (ed_ixT (ed_var rfl) ed_int at0) ed_int)) num_pos) ?_) (fun h => ?_) (fun h => sd_next ⟨⟨_, _, _, _, _, rfl⟩, fun x hx => ?_⟩)))
      · unfold exitAt
        rw [show decide (cn S i ≠ cn S k) = !decide (cn S i = cn S k) from decide_not]
      · have hat : exitAt S P i k = true := h
        have hne : tri (cn S i) P (cn S k) - tri (cn S i) P (cn S (k + 1)) ≠ 0 := by
          unfold exitAt at hat
          simp only [Bool.and_eq_true, decide_eq_true_eq] at hat
          grind
        refine sd_retD (ed_is (ed_tup (ad_cons (ed_var rfl) (ad_cons (c__law_over (ed_var rfl) (c__law_less (ed_var rfl) (ed_var rfl) ⟨(ht _).mono (by decide), (ht _).mono (by decide)⟩) ⟨(ht _).mono (by decide), ((ht _).sub (ht _)).mono (by decide), hne⟩) ad_nil))) ?_)
        have e2 : exitOf S P i = some (k, exitShare S P i k) := findSome_at hk (fun x hx => by rw [hno x hx]; rfl) (by rw [hat]; rfl)
        rw [e2]
        rfl
      · rcases (by omega : x < k ∨ x = k) with z | z
        · exact hno x z
        · rw [z]; exact h
    · obtain ⟨⟨k1, k2, k3, k4, k5, rfl⟩, hn⟩ := z
      rw [hn]
      exact sd_retD ed_non
def hpL (S : List P2) (P : P2) (n : Nat) : List Stand := (List.range n).flatMap fun i => (List.range i).filterMap (across S P i)
theorem hpL_len (S : List P2) (P : P2) : ∀ n, n ≤ 8 → (hpL S P n).length ≤ 8 * n
  | 0, _ => Nat.le_refl _
  | n + 1, h => by
    have ih := hpL_len S P n (by omega)
    have e : hpL S P (n + 1) = hpL S P n ++ (List.range n).filterMap (across S P n) := by unfold hpL; rw [List.range_succ, List.flatMap_append, List.flatMap_singleton]
    have h3 := List.length_filterMap_le (across S P n) (List.range n)
    rw [List.length_range] at h3
    rw [e, List.length_append]
    omega
theorem hpL_succ (S : List P2) (P : P2) (n : Nat) : hpL S P (n + 1) = hpL S P n ++ (List.range n).filterMap (across S P n) := by unfold hpL; rw [List.range_succ, List.flatMap_append, List.flatMap_singleton]
abbrev gapL (S : List P2) (P : P2) (i j : Nat) : P2 := ((P.add P).sub (cn S j)).sub (cn S i)
abbrev wayD (S : List P2) (j : Nat) : P2 := (cn S j).sub (cn S (j + 1))
theorem deep_eq (S : List P2) (i j : Nat) : cr (eg S i) (wayD S j) = -(cr (eg S i) (eg S j)) := by simp only [wayD, eg, cr, P2.sub]; grind
theorem halfX {S : List P2} {P : P2} {i j : Nat} (h : cr (eg S i) (eg S j) ≠ 0) : cr (gapL S P i j) (wayD S j) / cr (eg S i) (wayD S j) = acrossX S P i j := by
  rw [deep_eq]
  unfold acrossX
  have e : cr (gapL S P i j) (wayD S j) = -(cr (((P.mul 2).sub (cn S i)).sub (cn S j)) (eg S j)) := by simp only [gapL, wayD, eg, cr, P2.sub, P2.add, P2.mul]; grind
  rw [e]
  grind
theorem halfY {S : List P2} {P : P2} {i j : Nat} (h : cr (eg S i) (eg S j) ≠ 0) : cr (gapL S P i j) (eg S i) / cr (eg S i) (wayD S j) = acrossY S P i j := by
  rw [deep_eq]
  unfold acrossY
  have e : cr (gapL S P i j) (eg S i) = -(cr (eg S i) (((P.mul 2).sub (cn S i)).sub (cn S j))) := by simp only [gapL, eg, cr, P2.sub, P2.add, P2.mul]; grind
  rw [e]
  grind
def R__law_halved (ds : List PyData) (rs : List PyData) : Prop := ∃ (S : List P2) (P : P2), (In55 S P) ∧ ds = [encS S, encP P] ∧ rs = (hpL S P S.length).map encPr
abbrev DD__law_halved (P : Program) (w : World) (K : Frag) (mg : Str → Option Value) (base : Heap) : Prop := Def P w K mg base 5 "_law_halved" ["_law_section_here", "_law_point_here"] (spF K R__law_halved)
theorem ok__law_halved (T : Top K mg) (D__law_over : DD__law_over P w K mg base) (D__law_under : DD__law_under P w K mg base) (D__law_way : DD__law_way P w K mg base) (D__law_joined : DD__law_joined P w K mg base) (D__law_cross : DD__law_cross P w K mg base) (D__law_told : DD__law_told P w K mg base) : DD__law_halved P w K mg base := by
  obtain ⟨f, fd, F, hm⟩ := T.df "_law_halved" 127 (by decide +kernel)
  have sc : FnScope ["_law_section_here", "_law_point_here", "_law_found", "_law_many", "_law_at", "_law_to", "_law_a", "_law_b", "_law_c", "_law_d", "_law_deep", "_law_x", "_law_y"] ["_law_section_here", "_law_point_here"] (defScope (top 127)) := ⟨rfl, rfl, rfl, by decide +kernel, rfl, by decide +kernel, by decide +kernel⟩
  have m_int := T.fr "int" (by decide +kernel)
  have m_len := T.fr "len" (by decide +kernel)
  have m_range := T.fr "range" (by decide +kernel)
  refine def_ofF F hm sc (fun ds d h => ?_) (fun _ _ _ _ _ _ us hl => match us, hl with | [_, _], _ => rfl) (fun cdv A outer s H E ds d hr h => ?_)
  · obtain ⟨S, P, hp, rfl, rfl⟩ := h
    rfl
  · obtain ⟨S, P, hp, rfl, rfl⟩ := h
    have hr1 := hr.mono (j := 1) (by decide)
    have hr3 := hr.mono (j := 3) (by decide)
    have hr4 := hr.mono (j := 4) (by decide)
    refine ⟨_, (pss_cons (ps_par (i := 2) (j := 3) rfl sc.nd rfl rfl (by decide) rfl rfl (pa_cons (pe_lst pa_nil) (pa_cons (pe_callB call_len_seq (by rfl) m_len bt_len (pa_cons (pv 0) pa_nil)) pa_nil)) rfl)
      (pss_cons (ps_for PassesOwn.never rfl (pi_range1 (by rfl) m_range (pa_cons (pv 3) pa_nil)) (pg_name (i := 4) sc.nd rfl (Or.inl rfl)) (pss_one (ps_for PassesOwn.never rfl (pi_range1 (by rfl) m_range (pa_cons (pv 4) pa_nil)) (pg_name (i := 5) sc.nd rfl (Or.inl rfl)) (pss_cons (ps_par (i := 6) (j := 7) rfl sc.nd rfl rfl (by decide) rfl rfl (pa_cons (pe_ix (r := rIx K) ix_seq (pv 0) (pv 4) (fun _ _ => rfl)) (pa_cons (pe_def D__law_way hr3 (by rfl) (pa_cons (pe_ix (r := rIx K) ix_seq (pv 0) (pv 4) (fun _ _ => rfl)) (pa_cons (pe_ix (r := rIx K) ix_seq (pv 0) (pe_op op_mod (pe_callTy call_int1 (by rfl) m_int bt_int (pa_cons (pe_op op_add (pv 4) pe_int) pa_nil)) (pv 3)) (fun _ _ => rfl)) pa_nil))) pa_nil)) rfl)
      (pss_cons (ps_set (i := 8) sc.nd rfl (Or.inl rfl) (pe_def D__law_way hr3 (by rfl) (pa_cons (pe_ix (r := rIx K) ix_seq (pv 0) (pv 5) (fun _ _ => rfl)) (pa_cons (pe_def D__law_joined hr3 (by rfl) (pa_cons (pv 1) (pa_cons (pv 1) pa_nil))) pa_nil))))
      (pss_cons (ps_set (i := 9) sc.nd rfl (Or.inl rfl) (pe_def D__law_way hr3 (by rfl) (pa_cons (pe_ix (r := rIx K) ix_seq (pv 0) (pe_op op_mod (pe_callTy call_int1 (by rfl) m_int bt_int (pa_cons (pe_op op_add (pv 5) pe_int) pa_nil)) (pv 3)) (fun _ _ => rfl)) (pa_cons (pe_ix (r := rIx K) ix_seq (pv 0) (pv 5) (fun _ _ => rfl)) pa_nil))))
      (pss_cons (ps_set (i := 10) sc.nd rfl (Or.inl rfl) (pe_def D__law_cross hr4 (by rfl) (pa_cons (pv 7) (pa_cons (pv 9) pa_nil))))
      (pss_one (ps_if (pt_cmpR op_ne (pe_ix (r := rIx K) ix_seq (pv 10) pe_int (fun _ _ => rfl)) pe_int (nomark _)) (pss_cons (ps_set (i := 11) sc.nd rfl (Or.inl rfl) (pe_def D__law_over hr4 (by rfl) (pa_cons (pe_def D__law_cross hr4 (by rfl) (pa_cons (pe_def D__law_way hr3 (by rfl) (pa_cons (pv 6) (pa_cons (pv 8) pa_nil))) (pa_cons (pv 9) pa_nil))) (pa_cons (pv 10) pa_nil))))
      (pss_cons (ps_set (i := 12) sc.nd rfl (Or.inl rfl) (pe_def D__law_over hr4 (by rfl) (pa_cons (pe_def D__law_cross hr4 (by rfl) (pa_cons (pe_def D__law_way hr3 (by rfl) (pa_cons (pv 6) (pa_cons (pv 8) pa_nil))) (pa_cons (pv 7) pa_nil))) (pa_cons (pv 10) pa_nil))))
      (pss_one (ps_if (pw_and (pt_cmpR op_ge (pe_ix (r := rIx K) ix_seq (pv 11) pe_int (fun _ _ => rfl)) pe_int (nomark _)) (pw_and (pt_not (pt_val (pe_def D__law_under hr1 (by rfl) (pa_cons (pe_tup (pa_cons pe_int (pa_cons pe_int pa_nil))) (pa_cons (pv 11) pa_nil))))) (pw_and (pt_cmpR op_ge (pe_ix (r := rIx K) ix_seq (pv 12) pe_int (fun _ _ => rfl)) pe_int (nomark _)) (pw_and1 (pt_not (pt_val (pe_def D__law_under hr1 (by rfl) (pa_cons (pe_tup (pa_cons pe_int (pa_cons pe_int pa_nil))) (pa_cons (pv 12) pa_nil))))))))).pt (pss_one (ps_expr (pe_bm PySem.F.plainAttrs_list PySem.F.slot_list_append PySem.F.type_list_append mt_append (pv 2) (pa_cons (pe_lst (pa_cons (pe_def D__law_told hr1 (by rfl) (pa_cons (pv 0) (pa_cons (pv 4) (pa_cons (pv 11) pa_nil)))) (pa_cons (pe_def D__law_told hr1 (by rfl) (pa_cons (pv 0) (pa_cons (pv 5) (pa_cons (pv 12) pa_nil)))) pa_nil))) pa_nil)))) pss_nil)))) pss_nil)))))))))
      (pss_one (ps_ret (pv 2))))), ?_⟩
    have hS := hp.sz
    have h0 := hp.lo
    have h8 := hp.hi
    have hc : ∀ k, Pm 8 (cn S k) := cn_pm hp.gs h0
    have he : ∀ k, Pm 17 (eg S k) := eg_pm hp.gs h0
    have hg : ∀ i j, Pm 129 (gapL S P i j) := fun i j => (((hp.pm.add hp.pm).sub (hc j)).sub (hc i)).mono (by decide)
    have hd : ∀ j, Pm 17 (wayD S j) := fun j => (hc _).sub (hc _)
    show SDM K _ [.imm _, .imm _, .any, .any, .any, .any, .any, .any, .any, .any, .any, .any, .any] _
    refine sdm_then (e1 := [.imm (encS S), .imm (encP P), .lis (([]).map encPr), .imm (encN S.length), .any, .any, .any, .any, .any, .any, .any, .any, .any]) (sd_parM (edm_lst ad_nil) (ed_is (ed_lenT (ed_var rfl)) (by rw [List.length_map])) (by decide)) (
      sdm_seq (N := fun e => ∃ k4 k5 k6 k7 k8 k9 k10 k11 k12, e = [.imm (encS S), .imm (encP P), .lis ((hpL S P S.length).map encPr), .imm (encN S.length), k4, k5, k6, k7, k8, k9, k10, k11, k12])
        (sd_forR (n := S.length) (f := encN) (fun i e => ∃ k4 k5 k6 k7 k8 k9 k10 k11 k12, e = [.imm (encS S), .imm (encP P), .lis ((hpL S P i).map encPr), .imm (encN S.length), k4, k5, k6, k7, k8, k9, k10, k11, k12]) (id_rngN (n := S.length) (ad_cons (ed_var rfl) ad_nil) (by omega)) ⟨.any, .any, .any, .any, .any, .any, .any, .any, .any, rfl⟩ (fun i e' hi hI => ?_) (fun e' hI => hI)) (fun e hz => ?_))
    · obtain ⟨k4, k5, k6, k7, k8, k9, k10, k11, k12, rfl⟩ := hI
      refine ⟨[.imm (encS S), .imm (encP P), .lis ((hpL S P i).map encPr), .imm (encN S.length), .imm (encN i), k5, k6, k7, k8, k9, k10, k11, k12], _, gd_name, ?_⟩
      refine sd_forR (n := i) (f := encN) (fun j e => ∃ k5 k6 k7 k8 k9 k10 k11 k12, e = [.imm (encS S), .imm (encP P), .lis ((hpL S P i ++ (List.range j).filterMap (across S P i)).map encPr), .imm (encN S.length), .imm (encN i), k5, k6, k7, k8, k9, k10, k11, k12]) (id_rngN (n := i) (ad_cons (ed_var rfl) ad_nil) (by omega)) ⟨k5, k6, k7, k8, k9, k10, k11, k12, by rw [List.range_zero, List.filterMap_nil, List.append_nil]⟩ (fun j e' hj hI => ?_) (fun e' hI => ?_)
      · obtain ⟨k5, k6, k7, k8, k9, k10, k11, k12, rfl⟩ := hI
        have hj' : j < S.length := by omega
        have hlen : ((hpL S P i ++ (List.range j).filterMap (across S P i)).map encPr).length < 1000 := by
          have h3 := List.length_filterMap_le (across S P i) (List.range j)
          have h2 := hpL_len S P i (by omega)
          rw [List.length_range] at h3
          rw [List.length_map, List.length_append]
          omega
        refine ⟨[.imm (encS S), .imm (encP P), .lis ((hpL S P i ++ (List.range j).filterMap (across S P i)).map encPr), .imm (encN S.length), .imm (encN i), .imm (encN j), k6, k7, k8, k9, k10, k11, k12], _, gd_name, ?_⟩
        refine sd_wk (e1 := [.imm (encS S), .imm (encP P), .lis ((hpL S P i ++ (List.range j).filterMap (across S P i)).map encPr), .imm (encN S.length), .imm (encN i), .imm (encN j), .any, .any, .any, .any, .any, .any, .any]) ?_ ⟨.inr rfl, .inr rfl, .inr rfl, .inr rfl, .inr rfl, .inr rfl, .inl rfl, .inl rfl, .inl rfl, .inl rfl, .inl rfl, .inl rfl, .inl rfl, trivial⟩
        refine sd_then (e1 := [.imm (encS S), .imm (encP P), .lis ((hpL S P i ++ (List.range j).filterMap (across S P i)).map encPr), .imm (encN S.length), .imm (encN i), .imm (encN j), .imm (encP (cn S i)), .imm (encP (eg S i)), .any, .any, .any, .any, .any]) (sd_par (ad_cons (ed_ixT (ed_var rfl) (ed_var rfl) (at_here hi)) (ad_cons (c__law_way (ed_ixT (ed_var rfl) (ed_var rfl) (at_here hi)) (ed_ixT (ed_var rfl) (ed_mod (ed_intC (ed_add (ed_var rfl) ed_int)) (ed_var rfl) (by omega)) (by rw [← List.length_map (f := encP)]; exact at_next h0)) ⟨(hc _).mono (by decide), (hc _).mono (by decide)⟩) ad_nil))) (
          sd_then (e1 := [.imm (encS S), .imm (encP P), .lis ((hpL S P i ++ (List.range j).filterMap (across S P i)).map encPr), .imm (encN S.length), .imm (encN i), .imm (encN j), .imm (encP (cn S i)), .imm (encP (eg S i)), .imm (encP ((P.add P).sub (cn S j))), .any, .any, .any, .any]) (sd_set (c__law_way (ed_ixT (ed_var rfl) (ed_var rfl) (at_here hj')) (c__law_joined (ed_var rfl) (ed_var rfl) ⟨hp.pm.mono (by decide), hp.pm.mono (by decide)⟩) ⟨(hc _).mono (by decide), (hp.pm.add hp.pm).mono (by decide)⟩)) (
          sd_then (e1 := [.imm (encS S), .imm (encP P), .lis ((hpL S P i ++ (List.range j).filterMap (across S P i)).map encPr), .imm (encN S.length), .imm (encN i), .imm (encN j), .imm (encP (cn S i)), .imm (encP (eg S i)), .imm (encP ((P.add P).sub (cn S j))), .imm (encP (wayD S j)), .any, .any, .any]) (sd_set (c__law_way (ed_ixT (ed_var rfl) (ed_mod (ed_intC (ed_add (ed_var rfl) ed_int)) (ed_var rfl) (by omega)) (by rw [← List.length_map (f := encP)]; exact at_next h0)) (ed_ixT (ed_var rfl) (ed_var rfl) (at_here hj')) ⟨(hc _).mono (by decide), (hc _).mono (by decide)⟩)) (
          sd_then (e1 := [.imm (encS S), .imm (encP P), .lis ((hpL S P i ++ (List.range j).filterMap (across S P i)).map encPr), .imm (encN S.length), .imm (encN i), .imm (encN j), .imm (encP (cn S i)), .imm (encP (eg S i)), .imm (encP ((P.add P).sub (cn S j))), .imm (encP (wayD S j)), .imm (encR (cr (eg S i) (wayD S j))), .any, .any]) (sd_set (c__law_cross (ed_var rfl) (ed_var rfl) ⟨(he _).mono (by decide), (hd _).mono (by decide)⟩)) ?_)))
        by_cases q : cr (eg S i) (eg S j) = 0
        · refine sd_if (b := false) (td_is (td_test (ed_neI (ed_ixT (ed_var rfl) ed_int at0) ed_int)) ?_) (fun h => nomatch h) (fun h => sd_next ?_)
          · rw [num_nz, decide_eq_true (by rw [deep_eq, q]; rfl)]
            rfl
          · have ea : across S P i j = none := if_neg fun z => z.1 q
            rw [filt_succ, ea, List.append_nil]
            exact ⟨_, _, _, _, _, _, _, _, rfl⟩
        · have hd0 : cr (eg S i) (wayD S j) ≠ 0 := by rw [deep_eq]; grind
          have hds : Sm 40 (cr (eg S i) (wayD S j)) := (Sm_cr (he _) (hd _)).mono (by decide)
          have hgx : Sm 200 (cr (gapL S P i j) (wayD S j)) := (Sm_cr (hg i j) (hd _)).mono (by decide)
          have hgy : Sm 200 (cr (gapL S P i j) (eg S i)) := (Sm_cr (hg i j) (he _)).mono (by decide)
          have hx : Sm 240 (acrossX S P i j) := by rw [← halfX q]; exact (hgx.over hds hd0).mono (by decide)
          have hy : Sm 240 (acrossY S P i j) := by rw [← halfY q]; exact (hgy.over hds hd0).mono (by decide)
          have b1 : Pm 4000 (cn S i) := (hc _).mono (by decide)
          have b2 : Pm 4000 ((P.add P).sub (cn S j)) := ((hp.pm.add hp.pm).sub (hc _)).mono (by decide)
          have b3 : Pm 4000 (wayD S j) := (hd _).mono (by decide)
          have b4 : Pm 4000 (eg S i) := (he _).mono (by decide)
          have b5 : Pm 4000 (gapL S P i j) := (hg i j).mono (by decide)
          refine sd_if (b := true) (td_is (td_test (ed_neI (ed_ixT (ed_var rfl) ed_int at0) ed_int)) ?_) (fun _ => ?_) (fun h => nomatch h)
          · rw [num_nz, decide_eq_false hd0]
            rfl
          refine sd_then (e1 := [.imm (encS S), .imm (encP P), .lis ((hpL S P i ++ (List.range j).filterMap (across S P i)).map encPr), .imm (encN S.length), .imm (encN i), .imm (encN j), .imm (encP (cn S i)), .imm (encP (eg S i)), .imm (encP ((P.add P).sub (cn S j))), .imm (encP (wayD S j)), .imm (encR (cr (eg S i) (wayD S j))), .imm (encR (acrossX S P i j)), .any]) (sd_set (ed_is (c__law_over (c__law_cross (c__law_way (ed_var rfl) (ed_var rfl) ⟨b1, b2⟩) (ed_var rfl) ⟨b5, b3⟩) (ed_var rfl) ⟨hgx.mono (by decide), hds.mono (by decide), hd0⟩) (congrArg encR (halfX q)))) (
            sd_then (e1 := [.imm (encS S), .imm (encP P), .lis ((hpL S P i ++ (List.range j).filterMap (across S P i)).map encPr), .imm (encN S.length), .imm (encN i), .imm (encN j), .imm (encP (cn S i)), .imm (encP (eg S i)), .imm (encP ((P.add P).sub (cn S j))), .imm (encP (wayD S j)), .imm (encR (cr (eg S i) (wayD S j))), .imm (encR (acrossX S P i j)), .imm (encR (acrossY S P i j))]) (sd_set (ed_is (c__law_over (c__law_cross (c__law_way (ed_var rfl) (ed_var rfl) ⟨b1, b2⟩) (ed_var rfl) ⟨b5, b4⟩) (ed_var rfl) ⟨hgy.mono (by decide), hds.mono (by decide), hd0⟩) (congrArg encR (halfY q)))) ?_)
          have one : PyData.tuple [.int 1, .int 1] = encR 1 := rfl
          refine sd_if (b := decide (0 ≤ acrossX S P i j) && (!decide (1 < acrossX S P i j) && (decide (0 ≤ acrossY S P i j) && !decide (1 < acrossY S P i j)))) (td_and (td_is (td_test (ed_ge (ed_ixT (ed_var rfl) ed_int at0) ed_int)) num_nn) fun _ => td_and (td_not (td_B (c__law_under (p := 1) (ed_is (ed_tup (ad_cons ed_int (ad_cons ed_int ad_nil))) one) (ed_var rfl) ⟨Sm.lit rfl rfl, hx.mono (by decide)⟩))) fun _ => td_and (td_is (td_test (ed_ge (ed_ixT (ed_var rfl) ed_int at0) ed_int)) num_nn) fun _ => td_not (td_B (c__law_under (p := 1) (ed_is (ed_tup (ad_cons ed_int (ad_cons ed_int ad_nil))) one) (ed_var rfl) ⟨Sm.lit rfl rfl, hy.mono (by decide)⟩))) (fun h => ?_) (fun h => sd_next ?_)
          · have hok : acrossOk S P i j := by
              simp only [Bool.and_eq_true, Bool.not_eq_true', decide_eq_true_eq, decide_eq_false_iff_not] at h
              obtain ⟨h1, h2, h3, h4⟩ := h
              exact ⟨q, h1, by grind, h3, by grind⟩
            refine sd_imp (sd_app rfl (ed_lst (ad_cons (c__law_told (ed_var rfl) (ed_var rfl) (ed_var rfl) h0) (ad_cons (c__law_told (ed_var rfl) (ed_var rfl) (ed_var rfl) h0) ad_nil))) rfl hlen) fun e' he => ?_
            have ea : across S P i j = some (told S.length i (acrossX S P i j), told S.length j (acrossY S P i j)) := if_pos hok
            rw [he, filt_succ, ea, ← List.append_assoc, List.map_append (l₂ := [(told S.length i (acrossX S P i j), told S.length j (acrossY S P i j))])]
            exact ⟨_, _, _, _, _, _, _, _, rfl⟩
          · have hno : ¬ acrossOk S P i j := fun ⟨_, h1, h2, h3, h4⟩ => by
              rw [decide_eq_true h1, decide_eq_false (by grind), decide_eq_true h3, decide_eq_false (by grind)] at h
              exact absurd h (by decide)
            have ea : across S P i j = none := if_neg hno
            rw [filt_succ, ea, List.append_nil]
            exact ⟨_, _, _, _, _, _, _, _, rfl⟩
      · obtain ⟨k5, k6, k7, k8, k9, k10, k11, k12, rfl⟩ := hI
        rw [hpL_succ]
        exact ⟨_, _, _, _, _, _, _, _, _, rfl⟩
    · obtain ⟨k4, k5, k6, k7, k8, k9, k10, k11, k12, rfl⟩ := hz
      exact fun H0 M X0 ps σ H g D k => sdm_ret (e := [.imm (encS S), .imm (encP P), .lis ((hpL S P S.length).map encPr), .imm (encN S.length), .any, .any, .any, .any, .any, .any, .any, .any, .any]) rfl rfl H0 M X0 ps σ H (g.wk ⟨.inr rfl, .inr rfl, .inr rfl, .inr rfl, .inl rfl, .inl rfl, .inl rfl, .inl rfl, .inl rfl, .inl rfl, .inl rfl, .inl rfl, .inl rfl, trivial⟩) D k
end
end Hull
namespace Hull
open PySem PySem.Spec PyProof.Rows L2
section
variable {P : Program} {w : World} {K : Frag} {mg : Str → Option Value} {base : Heap}
/-- a stand's numbers, and the section's -/
structure St130 (S : List P2) (z : Stand) : Prop where
  gs : Gs 130 S
  hi : S.length ≤ 8
  st : StB S z
theorem St130.sz {S : List P2} {z : Stand} (h : St130 S z) : Sz S := ⟨fun p hp => ((h.gs p hp).pm (k := 8) (by decide) (by decide)).mono (by decide), by have := h.st.okL.i; omega, by have := h.hi; omega⟩
def cornL (S : List P2) (i k : Nat) : List P2 := (List.range k).map fun x => cn S (i + x + 1)
theorem cornL_succ (S : List P2) (i k : Nat) : cornL S i (k + 1) = cornL S i k ++ [cn S (i + k + 1)] := by unfold cornL; rw [List.range_succ, List.map_append]; rfl
theorem cornL_len (S : List P2) (i k : Nat) : (cornL S i k).length = k := by unfold cornL; rw [List.length_map, List.length_range]
theorem passed_corn (S : List P2) (z : Stand) : (passed S.length z).map (cn S) = if z.2.2 = 0 then (cornL S z.1.1 (arcN S.length z.1.1 z.2.1)).dropLast else cornL S z.1.1 (arcN S.length z.1.1 z.2.1) := by
  have hm : ∀ n : Nat, ((List.range n).map fun k => (z.1.1 + k + 1) % S.length).map (cn S) = cornL S z.1.1 n := fun n => by
    rw [List.map_map]
    unfold cornL
    refine List.map_congr_left fun k _ => ?_
    show cn S _ = _
    rw [cn_mod]
  unfold passed
  split
  · rw [List.map_dropLast, hm]
  · rw [hm]
/-- the law's own list of what is under water -/
theorem below_law {S : List P2} {z : Stand} (hC : Conv S) (h : StB S z) (hj : ∃ P, Ins S P) : (if cn S (z.1.1 + arcN S.length z.1.1 z.2.1) = rp S z.2 then [rp S z.1] ++ cornL S z.1.1 (arcN S.length z.1.1 z.2.1) else [rp S z.1] ++ cornL S z.1.1 (arcN S.length z.1.1 z.2.1) ++ [rp S z.2]) = below S z := by
  have h1 := h.okL.i
  have h2 := h.okR.i
  have hne := h.ne
  have hd : ∃ d, arcN S.length z.1.1 z.2.1 = d + 1 := by
    have := arcN_eq h1 h2
    refine ⟨arcN S.length z.1.1 z.2.1 - 1, ?_⟩
    split at this <;> omega
  have hstop := arc_stop h1 h2
  have hcj : cn S (z.1.1 + arcN S.length z.1.1 z.2.1) = cn S z.2.1 := by
    have := congrArg (cn S) hstop
    rw [cn_mod] at this
    exact this
  unfold below
  rw [passed_corn, hcj]
  obtain ⟨P, hI⟩ := hj
  by_cases q : z.2.2 = 0
  · rw [if_pos q, if_pos (rp_zero q).symm]
    obtain ⟨d, hd⟩ := hd
    rw [hd] at hcj ⊢
    rw [cornL_succ, List.dropLast_concat, rp_zero q, ← hcj, ← List.append_assoc]
    rfl
  · rw [if_neg q, if_neg]
    intro e
    have e0 : rp S (z.2.1, 0) = cn S z.2.1 := rp_zero rfl
    rw [← e0] at e
    have := rim_inj hC hI (r := (z.2.1, 0)) ⟨h2, Rat.le_refl, zlt1⟩ h.okR e
    exact q (congrArg Prod.snd this).symm
/-- a section with an inner point -/
structure InS (S : List P2) (P : P2) : Prop where
  cv : Conv S
  ins : Ins S P
  i55 : In55 S P
def R__law_passed (ds : List PyData) (d : PyData) : Prop := ∃ (S : List P2) (P : P2) (z : Stand), (InS S P ∧ StB S z) ∧ ds = [encS S, encRim z.1, encRim z.2] ∧ d = .list ((below S z).map encP)
theorem c__law_passed {t0 t1 t2 : TE} {e0 e1 e2 e3 : List EK} {S : List P2} {P : P2} {z : Stand} (a0 : ED K t0 e0 (encS S) e1) (a1 : ED K t1 e1 (encRim z.1) e2) (a2 : ED K t2 e2 (encRim z.2) e3) (hp : InS S P ∧ StB S z) : ED K (tCall (spP K R__law_passed) [] E0 (tCons t0 (tCons t1 (tCons t2 tNil)))) e0 (.list ((below S z).map encP)) e3 := ed_call (ad_cons a0 (ad_cons a1 (ad_cons a2 ad_nil))) ⟨S, P, z, hp, rfl, rfl⟩
abbrev DD__law_passed (P : Program) (w : World) (K : Frag) (mg : Str → Option Value) (base : Heap) : Prop := Def P w K mg base 6 "_law_passed" ["_law_section_here", "_law_left", "_law_right_here"] (spP K R__law_passed)
theorem ok__law_passed (T : Top K mg) (D__law_under : DD__law_under P w K mg base) (D__law_on : DD__law_on P w K mg base) : DD__law_passed P w K mg base := by
  obtain ⟨f, fd, F, hm⟩ := T.df "_law_passed" 122 (by decide +kernel)
  have sc : FnScope ["_law_section_here", "_law_left", "_law_right_here", "_law_found", "_law_at", "_law_lap", "_law_end"] ["_law_section_here", "_law_left", "_law_right_here"] (defScope (top 122)) := ⟨rfl, rfl, rfl, by decide +kernel, rfl, by decide +kernel, by decide +kernel⟩
  have m_int := T.fr "int" (by decide +kernel)
  have m_len := T.fr "len" (by decide +kernel)
  have m_range := T.fr "range" (by decide +kernel)
  refine def_of F hm sc (fun ds d h => ?_) (fun _ _ _ _ _ _ us hl => match us, hl with | [_, _, _], _ => rfl) (fun cdv A outer s H E ds d hr h => ?_)
  · obtain ⟨S, P, z, hp, rfl, rfl⟩ := h
    rfl
  · obtain ⟨S, P, z, hp, rfl, rfl⟩ := h
    have hr1 := hr.mono (j := 1) (by decide)
    have hr5 := hr.mono (j := 5) (by decide)
    refine ⟨_, (pss_cons (ps_par (i := 3) (j := 4) rfl sc.nd rfl rfl (by decide) rfl rfl (pa_cons (pe_lst (pa_cons (pe_def D__law_on hr5 (by rfl) (pa_cons (pv 0) (pa_cons (pv 1) pa_nil))) pa_nil)) (pa_cons (pe_ix (r := rIx K) ix_seq (pv 1) pe_int (fun _ _ => rfl)) pa_nil)) rfl)
      (pss_cons (ps_for PassesOwn.never rfl (pi_range1 (by rfl) m_range (pa_cons (pe_callB call_len_seq (by rfl) m_len bt_len (pa_cons (pv 0) pa_nil)) pa_nil)) (pg_name (i := 5) sc.nd rfl (Or.inl rfl)) (pss_cons (ps_if (pw_and (pt_cmpR op_eq (pv 4) (pe_ix (r := rIx K) ix_seq (pv 2) pe_int (fun _ _ => rfl)) (nomark _)) (pw_and1 (pw_or (pt_cmpR op_gt (pv 5) pe_int (nomark _)) (pw_or1 (pt_val (pe_def D__law_under hr1 (by rfl) (pa_cons (pe_ix (r := rIx K) ix_seq (pv 1) pe_int (fun _ _ => rfl)) (pa_cons (pe_ix (r := rIx K) ix_seq (pv 2) pe_int (fun _ _ => rfl)) pa_nil)))))).pt)).pt (pss_one ps_break) pss_nil)
      (pss_cons (ps_set (i := 4) sc.nd rfl (Or.inl rfl) (pe_op op_mod (pe_callTy call_int1 (by rfl) m_int bt_int (pa_cons (pe_op op_add (pv 4) pe_int) pa_nil)) (pe_callB call_len_seq (by rfl) m_len bt_len (pa_cons (pv 0) pa_nil))))
      (pss_one (ps_expr (pe_bm PySem.F.plainAttrs_list PySem.F.slot_list_append PySem.F.type_list_append mt_append (pv 3) (pa_cons (pe_ix (r := rIx K) ix_seq (pv 0) (pv 4) (fun _ _ => rfl)) pa_nil)))))))
      (pss_cons (ps_set (i := 6) sc.nd rfl (Or.inl rfl) (pe_def D__law_on hr5 (by rfl) (pa_cons (pv 0) (pa_cons (pv 2) pa_nil))))
      (pss_one (ps_ret (pe_ifExp (pt_cmpR (r := rEqD K) (op_eqD hr.units) (pe_ix (r := rIx K) ix_seq (pv 3) (pe_un un_neg pe_int) (fun _ _ => rfl)) (pv 6) (nomark _)) (pv 3) (pe_op op_cat (pv 3) (pe_lst (pa_cons (pv 6) pa_nil))))))))), ?_⟩
    obtain ⟨hS, hst⟩ := hp
    have h8 := hS.i55.hi
    have hsz := hS.i55.sz
    have h1 := hst.okL.i
    have h2 := hst.okR.i
    have hne := hst.ne
    have hlt := arc_lt h1 h2
    have hd0 : 0 < (arcN S.length z.1.1 z.2.1) := by
      have := arcN_eq h1 h2
      split at this <;> omega
    show SD K _ [.imm _, .imm _, .imm _, .any, .any, .any, .any] _ _ _ _
    refine sd_then (e1 := [.imm (encS S), .imm (encRim z.1), .imm (encRim z.2), .lis (([rp S z.1] ++ cornL S z.1.1 0).map encP), .imm (encN (z.1.1)), .any, .any]) (sd_parM (edm_lst (ad_cons (c__law_on (ed_var rfl) (ed_var rfl) ⟨hsz, h1, hst.s1.mono (by decide)⟩) ad_nil)) (ed_ixT (ed_var rfl) ed_int at0) (by decide)) (
      sd_seq (N := fun e => ∃ k, e = [.imm (encS S), .imm (encRim z.1), .imm (encRim z.2), .lis (([rp S z.1] ++ cornL S z.1.1 (arcN S.length z.1.1 z.2.1)).map encP), .imm (encN (z.2.1)), k, .any])
        (sd_forR (n := S.length) (f := encN) (fun i e => i ≤ (arcN S.length z.1.1 z.2.1) ∧ ∃ k, e = [.imm (encS S), .imm (encRim z.1), .imm (encRim z.2), .lis (([rp S z.1] ++ cornL S z.1.1 i).map encP), .imm (encN ((z.1.1 + i) % S.length)), k, .any]) (id_rngN (n := S.length) (ad_cons (ed_is (ed_lenT (ed_var rfl)) (by rw [List.length_map])) ad_nil) (by omega)) ⟨Nat.zero_le _, .any, by rw [Nat.add_zero, Nat.mod_eq_of_lt h1]⟩ (fun i e' hi hI => ?_) (fun e' hI => ?_)) (fun e hz => ?_))
    · obtain ⟨hle, k, rfl⟩ := hI
      refine ⟨[.imm (encS S), .imm (encRim z.1), .imm (encRim z.2), .lis (([rp S z.1] ++ cornL S z.1.1 i).map encP), .imm (encN ((z.1.1 + i) % S.length)), .imm (encN i), .any], _, gd_name, ?_⟩
      by_cases q : i = (arcN S.length z.1.1 z.2.1)
      · subst q
        refine sd_leave (b := true) (td_is (td_and (td_is (td_test (ed_eqI (ed_var rfl) (ed_ixT (ed_var rfl) ed_int at0))) (decide_eq_true (by rw [arc_stop h1 h2]))) fun _ => td_or (td_test (ed_gt (ed_var rfl) ed_int)) fun _ => td_B (c__law_under (p := z.1.2) (q := z.2.2) (ed_ixT (ed_var rfl) ed_int at1) (ed_ixT (ed_var rfl) ed_int at1) ⟨hst.s1.mono (by decide), hst.s2.mono (by decide)⟩)) ?_) (fun _ => sd_break ⟨.imm (encN (arcN S.length z.1.1 z.2.1)), by rw [arc_stop h1 h2]⟩) (fun h => nomatch h)
        rw [decide_eq_true (show (0 : Int) < (((arcN S.length z.1.1 z.2.1) : Nat) : Int) by omega)]
        rfl
      · have hi2 : i < (arcN S.length z.1.1 z.2.1) := by omega
        refine sd_leave (b := false) (td_is (td_and (td_is (td_test (ed_eqI (ed_var rfl) (ed_ixT (ed_var rfl) ed_int at0))) (decide_eq_false (fun w => arc_ne h1 h2 hi2 (by omega)))) (c := true) fun h => nomatch h) (c := false) rfl) (fun h => nomatch h) (fun _ => ?_)
        refine sd_then (e1 := [.imm (encS S), .imm (encRim z.1), .imm (encRim z.2), .lis (([rp S z.1] ++ cornL S z.1.1 i).map encP), .imm (encN ((z.1.1 + (i + 1)) % S.length)), .imm (encN i), .any]) (sd_set (ed_is (d := encN ((z.1.1 + (i + 1)) % S.length)) (ed_mod (ed_intC (ed_add (ed_var rfl) ed_int)) (ed_lenT (ed_var rfl)) (by rw [List.length_map]; omega)) (by rw [List.length_map, next_at]))) (
          sd_imp (sd_app rfl (ed_ixT (ed_var rfl) (ed_var rfl) (at_here (Nat.mod_lt _ (by omega)))) rfl (by rw [List.length_map, List.length_append, cornL_len]; show 1 + i < 1000; omega)) fun e' he => ⟨hi2, .imm (encN i), ?_⟩)
        rw [he, cornL_succ, cn_mod, ← List.append_assoc, List.map_append (l₂ := [cn S (z.1.1 + i + 1)])]
        rfl
    · exact absurd hI.1 (by omega)
    · obtain ⟨k, rfl⟩ := hz
      refine sd_wk (e1 := [.imm (encS S), .imm (encRim z.1), .imm (encRim z.2), .lis (([rp S z.1] ++ cornL S z.1.1 (arcN S.length z.1.1 z.2.1)).map encP), .imm (encN (z.2.1)), .any, .any]) ?_ ⟨.inr rfl, .inr rfl, .inr rfl, .inr rfl, .inr rfl, .inl rfl, .inr rfl, trivial⟩
      refine sd_then (e1 := [.imm (encS S), .imm (encRim z.1), .imm (encRim z.2), .lis (([rp S z.1] ++ cornL S z.1.1 (arcN S.length z.1.1 z.2.1)).map encP), .imm (encN (z.2.1)), .any, .imm (encP (rp S z.2))]) (sd_set (c__law_on (ed_var rfl) (ed_var rfl) ⟨hsz, h2, hst.s2.mono (by decide)⟩)) ?_
      have hlast : ([rp S z.1] ++ cornL S z.1.1 (arcN S.length z.1.1 z.2.1)).map encP = ([rp S z.1] ++ cornL S z.1.1 ((arcN S.length z.1.1 z.2.1) - 1)).map encP ++ [encP (cn S (z.1.1 + (arcN S.length z.1.1 z.2.1)))] := by
        have e : (arcN S.length z.1.1 z.2.1) = ((arcN S.length z.1.1 z.2.1) - 1) + 1 := by omega
        conv => lhs; rw [e, cornL_succ]
        rw [← List.append_assoc, List.map_append (l₂ := [_])]
        rw [show z.1.1 + ((arcN S.length z.1.1 z.2.1) - 1) + 1 = z.1.1 + (arcN S.length z.1.1 z.2.1) by omega]
        rfl
      have hb := below_law hS.cv hst ⟨P, hS.ins⟩
      refine sd_retD (ed_if (d := .list ((below S z).map encP)) (b := decide (cn S (z.1.1 + (arcN S.length z.1.1 z.2.1)) = rp S z.2)) (td_is (td_test (ed_eqD (ed_ixM rfl (ed_neg ed_int) (by rw [hlast]; exact at_last)) (ed_var rfl) rfl rfl)) (eqvP _ _)) (fun h => ed_is (ed_varM rfl) ?_) (fun h => ed_is (ed_cat (ed_varM rfl) (ed_lst (ad_cons (ed_var rfl) ad_nil)) ?_) ?_))
      · rw [if_pos (of_decide_eq_true h)] at hb
        rw [hb]
      · rw [List.length_map, List.length_append, cornL_len]
        show 1 + _ + 1 ≤ 1000
        omega
      · rw [if_neg (of_decide_eq_false h)] at hb
        rw [← hb, List.map_append (l₂ := [rp S z.2])]
        rfl
def R__law_wet (ds : List PyData) (d : PyData) : Prop := ∃ (S : List P2) (P : P2) (z : Stand), (InS S P ∧ StB S z) ∧ ds = [encS S, encSt z] ∧ d = .list ((below S z).map encP)
theorem c__law_wet {t0 t1 : TE} {e0 e1 e2 : List EK} {S : List P2} {P : P2} {z : Stand} (a0 : ED K t0 e0 (encS S) e1) (a1 : ED K t1 e1 (encSt z) e2) (hp : InS S P ∧ StB S z) : ED K (tCall (spP K R__law_wet) [] E0 (tCons t0 (tCons t1 tNil))) e0 (.list ((below S z).map encP)) e2 := ed_call (ad_cons a0 (ad_cons a1 ad_nil)) ⟨S, P, z, hp, rfl, rfl⟩
abbrev DD__law_wet (P : Program) (w : World) (K : Frag) (mg : Str → Option Value) (base : Heap) : Prop := Def P w K mg base 7 "_law_wet" ["_law_section_here", "_law_stand"] (spP K R__law_wet)
theorem ok__law_wet (T : Top K mg) (D__law_passed : DD__law_passed P w K mg base) : DD__law_wet P w K mg base := by
  obtain ⟨f, fd, F, hm⟩ := T.df "_law_wet" 123 (by decide +kernel)
  have sc : FnScope ["_law_section_here", "_law_stand"] ["_law_section_here", "_law_stand"] (defScope (top 123)) := ⟨rfl, rfl, rfl, by decide +kernel, rfl, by decide +kernel, by decide +kernel⟩
  refine def_of F hm sc (fun ds d h => ?_) (fun _ _ _ _ _ _ us hl => match us, hl with | [_, _], _ => rfl) (fun cdv A outer s H E ds d hr h => ?_)
  · obtain ⟨S, P, z, hp, rfl, rfl⟩ := h
    rfl
  · obtain ⟨S, P, z, hp, rfl, rfl⟩ := h
    have hr6 := hr.mono (j := 6) (by decide)
    refine ⟨_, (pss_one (ps_ret (pe_def D__law_passed hr6 (by rfl) (pa_cons (pv 0) (pa_cons (pe_ix (r := rIx K) ix_seq (pv 1) pe_int (fun _ _ => rfl)) (pa_cons (pe_ix (r := rIx K) ix_seq (pv 1) pe_int (fun _ _ => rfl)) pa_nil)))))), ?_⟩
    show SD K _ [.imm _, .imm _] _ _ _ _
    exact sd_retD (c__law_passed (z := z) (ed_var rfl) (ed_ixT (ed_var rfl) ed_int at0) (ed_ixT (ed_var rfl) ed_int at1) hp)
abbrev encLs (S : List P2) (z : Stand) : PyData := .list [encR (stArea S z), encSt z]
theorem lawPairs_eq (S : List P2) (P : P2) : lawPairs S P = hpL S P S.length ++ (List.range S.length).map fun i => ((i, 0), (exitOf S P i).getD (0, 0)) := rfl
theorem lawPairs_len (S : List P2) (P : P2) (h : S.length ≤ 8) : (lawPairs S P).length ≤ 72 := by
  have := hpL_len S P S.length h
  rw [lawPairs_eq, List.length_append, List.length_map, List.length_range]
  omega
abbrev two (z : Stand) : List Stand := [z, (z.2, z.1)]
theorem two_len (l : List Stand) : (l.flatMap two).length = 2 * l.length := by
  induction l with
  | nil => rfl
  | cons x l ih =>
    have e : (two x).length = 2 := rfl
    rw [List.flatMap_cons, List.length_append, ih, e, List.length_cons]
    omega
def R__law_belows (ds : List PyData) (d : PyData) : Prop := ∃ (S : List P2) (P : P2), (InS S P) ∧ ds = [encS S, encP P] ∧ d = .list ((lawStands S P).map (encLs S))
theorem c__law_belows {t0 t1 : TE} {e0 e1 e2 : List EK} {S : List P2} {P : P2} (a0 : ED K t0 e0 (encS S) e1) (a1 : ED K t1 e1 (encP P) e2) (hp : InS S P) : ED K (tCall (spP K R__law_belows) [] E0 (tCons t0 (tCons t1 tNil))) e0 (.list ((lawStands S P).map (encLs S))) e2 := ed_call (ad_cons a0 (ad_cons a1 ad_nil)) ⟨S, P, hp, rfl, rfl⟩
abbrev DD__law_belows (P : Program) (w : World) (K : Frag) (mg : Str → Option Value) (base : Heap) : Prop := Def P w K mg base 8 "_law_belows" ["_law_section_here", "_law_point_here"] (spP K R__law_belows)
theorem ok__law_belows (T : Top K mg) (D__law_size : DD__law_size P w K mg base) (D__law_wet : DD__law_wet P w K mg base) (D__law_exit : DD__law_exit P w K mg base) (D__law_halved : DD__law_halved P w K mg base) : DD__law_belows P w K mg base := by
  obtain ⟨f, fd, F, hm⟩ := T.df "_law_belows" 128 (by decide +kernel)
  have sc : FnScope ["_law_section_here", "_law_point_here", "_law_pairs", "_law_at", "_law_found", "_law_one", "_law_two", "_law_stand"] ["_law_section_here", "_law_point_here"] (defScope (top 128)) := ⟨rfl, rfl, rfl, by decide +kernel, rfl, by decide +kernel, by decide +kernel⟩
  have m_len := T.fr "len" (by decide +kernel)
  have m_range := T.fr "range" (by decide +kernel)
  refine def_of F hm sc (fun ds d h => ?_) (fun _ _ _ _ _ _ us hl => match us, hl with | [_, _], _ => rfl) (fun cdv A outer s H E ds d hr h => ?_)
  · obtain ⟨S, P, hp, rfl, rfl⟩ := h
    rfl
  · obtain ⟨S, P, hp, rfl, rfl⟩ := h
    have hr5 := hr.mono (j := 5) (by decide)
    have hr6 := hr.mono (j := 6) (by decide)
    have hr7 := hr.mono (j := 7) (by decide)
    refine ⟨_, (pss_cons (ps_set (i := 2) sc.nd rfl (Or.inl rfl) (pe_def D__law_halved hr5 (by rfl) (pa_cons (pv 0) (pa_cons (pv 1) pa_nil))))
      (pss_cons (ps_for PassesOwn.never rfl (pi_range1 (by rfl) m_range (pa_cons (pe_callB call_len_seq (by rfl) m_len bt_len (pa_cons (pv 0) pa_nil)) pa_nil)) (pg_name (i := 3) sc.nd rfl (Or.inl rfl)) (pss_one (ps_expr (pe_bm PySem.F.plainAttrs_list PySem.F.slot_list_append PySem.F.type_list_append mt_append (pv 2) (pa_cons (pe_lst (pa_cons (pe_tup (pa_cons (pv 3) (pa_cons (pe_tup (pa_cons pe_int (pa_cons pe_int pa_nil))) pa_nil))) (pa_cons (pe_def D__law_exit hr6 (by rfl) (pa_cons (pv 0) (pa_cons (pe_ix (r := rIx K) ix_seq (pv 0) (pv 3) (fun _ _ => rfl)) (pa_cons (pv 1) pa_nil)))) pa_nil))) pa_nil)))))
      (pss_cons (ps_set (i := 4) sc.nd rfl (Or.inl rfl) (pe_lst pa_nil))
      (pss_cons (ps_for PassesOwn.never rfl (pi_seq (pv 2)) (pg_unl rfl (pgs_cons (pg_name (i := 5) sc.nd rfl (Or.inl rfl)) (pgs_cons (pg_name (i := 6) sc.nd rfl (Or.inl rfl)) pgs_nil))) (pss_one (ps_for PassesOwn.never rfl (pi_seq (pe_lst (pa_cons (pe_tup (pa_cons (pv 5) (pa_cons (pv 6) pa_nil))) (pa_cons (pe_tup (pa_cons (pv 6) (pa_cons (pv 5) pa_nil))) pa_nil)))) (pg_name (i := 7) sc.nd rfl (Or.inl rfl)) (pss_one (ps_expr (pe_bm PySem.F.plainAttrs_list PySem.F.slot_list_append PySem.F.type_list_append mt_append (pv 4) (pa_cons (pe_lst (pa_cons (pe_def D__law_size hr6 (by rfl) (pa_cons (pe_def D__law_wet hr7 (by rfl) (pa_cons (pv 0) (pa_cons (pv 7) pa_nil))) pa_nil)) (pa_cons (pv 7) pa_nil))) pa_nil)))))))
      (pss_one (ps_ret (pv 4))))))), ?_⟩
    have hS := hp.i55
    have h0 := hS.lo
    have h8 := hS.hi
    have hplen := lawPairs_len S P h8
    show SD K _ [.imm _, .imm _, .any, .any, .any, .any, .any, .any] _ _ _ _
    refine sd_then (e1 := [.imm (encS S), .imm (encP P), .lis ((hpL S P S.length).map encPr), .any, .any, .any, .any, .any]) (sd_setM (edm_callF (ad_cons (ed_var rfl) (ad_cons (ed_var rfl) ad_nil)) ⟨S, P, hS, rfl, rfl⟩)) (
      sd_seq (N := fun e => ∃ k, e = [.imm (encS S), .imm (encP P), .lis ((lawPairs S P).map encPr), k, .any, .any, .any, .any])
        (sd_forR (n := S.length) (f := encN) (fun i e => ∃ k, e = [.imm (encS S), .imm (encP P), .lis ((hpL S P S.length ++ (List.range i).map fun i => ((i, 0), (exitOf S P i).getD (0, 0))).map encPr), k, .any, .any, .any, .any]) (id_rngN (n := S.length) (ad_cons (ed_is (ed_lenT (ed_var rfl)) (by rw [List.length_map])) ad_nil) (by omega)) ⟨.any, by rw [List.range_zero, List.map_nil, List.append_nil]⟩ (fun i e' hi hI => ?_) (fun e' hI => hI)) (fun e hz => ?_))
    · obtain ⟨k, rfl⟩ := hI
      obtain ⟨r, m, er, c⟩ := exit_some hp.cv hp.ins hi
      refine ⟨[.imm (encS S), .imm (encP P), .lis ((hpL S P S.length ++ (List.range i).map fun i => ((i, 0), (exitOf S P i).getD (0, 0))).map encPr), .imm (encN i), .any, .any, .any, .any], _, gd_name, ?_⟩
      refine sd_imp (sd_app rfl (ed_lst (ad_cons (ed_tup (ad_cons (ed_var rfl) (ad_cons (ed_tup (ad_cons ed_int (ad_cons ed_int ad_nil))) ad_nil))) (ad_cons (ed_is (d := encRim r) (c__law_exit (ed_var rfl) (ed_ixT (ed_var rfl) (ed_var rfl) (at_here hi)) (ed_var rfl) hS) (by rw [er]; rfl)) ad_nil))) rfl ?_) fun e' he => ⟨.imm (encN i), ?_⟩
      · rw [List.length_map, List.length_append, List.length_map, List.length_range]
        have := hpL_len S P S.length h8
        omega
      · have ea : (hpL S P S.length ++ (List.range (i + 1)).map fun i => ((i, 0), (exitOf S P i).getD (0, 0))).map encPr = (hpL S P S.length ++ (List.range i).map fun i => ((i, 0), (exitOf S P i).getD (0, 0))).map encPr ++ [encPr ((i, 0), r)] := by
          rw [List.range_succ]
          simp [er]
        rw [he, ea]
        rfl
    · obtain ⟨k, rfl⟩ := hz
      refine sd_wk (e1 := [.imm (encS S), .imm (encP P), .lis ((lawPairs S P).map encPr), .any, .any, .any, .any, .any]) ?_ ⟨.inr rfl, .inr rfl, .inr rfl, .inl rfl, .inr rfl, .inr rfl, .inr rfl, .inr rfl, trivial⟩
      refine sd_freeze (i := 2) rfl ?_
      refine sd_then (e1 := [.imm (encS S), .imm (encP P), .imm (.list ((lawPairs S P).map encPr)), .any, .lis [], .any, .any, .any]) (sd_setM (edm_lst ad_nil)) (
        sd_seq (N := fun e => ∃ k1 k2 k3, e = [.imm (encS S), .imm (encP P), .imm (.list ((lawPairs S P).map encPr)), .any, .lis ((lawStands S P).map (encLs S)), k1, k2, k3])
          (sd_forM (l := lawPairs S P) (f := encPr) (fun pre e => ∃ k1 k2 k3, e = [.imm (encS S), .imm (encP P), .imm (.list ((lawPairs S P).map encPr)), .any, .lis ((pre.flatMap two).map (encLs S)), k1, k2, k3]) (id_seqL (ed_var rfl)) ⟨.any, .any, .any, rfl⟩ (fun pre x post e' hs hI => ?_) (fun e' hI => hI)) (fun e hz => ?_))
      · obtain ⟨k1, k2, k3, rfl⟩ := hI
        have hxm : x ∈ lawPairs S P := by rw [hs]; exact List.mem_append_right _ List.mem_cons_self
        have hpl : pre.length < 72 := by
          have := congrArg List.length hs
          rw [List.length_append, List.length_cons] at this
          omega
        have hF : ∀ z ∈ two x, isF S P z := fun z hz => (mem_law hp.cv hp.ins).mp (List.mem_flatMap.mpr ⟨x, hxm, hz⟩)
        refine ⟨[.imm (encS S), .imm (encP P), .imm (.list ((lawPairs S P).map encPr)), .any, .lis ((pre.flatMap two).map (encLs S)), .imm (encRim x.1), .imm (encRim x.2), k3], _, gd_lst (gds_cons gd_name (gds_cons gd_name gds_nil)), ?_⟩
        refine sd_forM (l := two x) (f := encSt) (fun pr e => ∃ k3, e = [.imm (encS S), .imm (encP P), .imm (.list ((lawPairs S P).map encPr)), .any, .lis ((pre.flatMap two ++ pr).map (encLs S)), .imm (encRim x.1), .imm (encRim x.2), k3]) (id_seqL (ed_lst (ad_cons (ed_tup (ad_cons (ed_var rfl) (ad_cons (ed_var rfl) ad_nil))) (ad_cons (ed_tup (ad_cons (ed_var rfl) (ad_cons (ed_var rfl) ad_nil))) ad_nil)))) ⟨k3, by rw [List.append_nil]⟩ (fun pr z ps e' hs2 hI => ?_) (fun e' hI => ?_)
        · obtain ⟨k3, rfl⟩ := hI
          have hz : z ∈ two x := by rw [hs2]; exact List.mem_append_right _ List.mem_cons_self
          have hst := (hF z hz).stB hS.gs hS.pm hp.ins
          have hpr : pr.length < 2 := by
            have : (pr ++ z :: ps).length = 2 := by rw [← hs2]; rfl
            rw [List.length_append, List.length_cons] at this
            omega
          refine ⟨[.imm (encS S), .imm (encP P), .imm (.list ((lawPairs S P).map encPr)), .any, .lis ((pre.flatMap two ++ pr).map (encLs S)), .imm (encRim x.1), .imm (encRim x.2), .imm (encSt z)], _, gd_name, ?_⟩
          refine sd_imp (sd_app rfl (ed_lst (ad_cons (c__law_size (z := (true, below S z)) (c__law_wet (z := z) (ed_var rfl) (ed_var rfl) ⟨hp, hst⟩) (hst.fan hS.gs h8)) (ad_cons (ed_var rfl) ad_nil))) rfl ?_) fun e' he => ⟨.imm (encSt z), ?_⟩
          · rw [List.length_map, List.length_append, two_len]
            omega
          · rw [he, ← List.append_assoc, List.map_append (l₂ := [z])]
            rfl
        · obtain ⟨k3, rfl⟩ := hI
          rw [List.flatMap_append, List.flatMap_singleton]
          exact ⟨_, _, _, rfl⟩
      · obtain ⟨k1, k2, k3, rfl⟩ := hz
        exact sd_wk (e1 := [.imm (encS S), .imm (encP P), .imm (.list ((lawPairs S P).map encPr)), .any, .lis ((lawStands S P).map (encLs S)), .any, .any, .any]) (sd_retD (ed_varM rfl)) ⟨.inr rfl, .inr rfl, .inr rfl, .inr rfl, .inr rfl, .inl rfl, .inl rfl, .inl rfl, trivial⟩
def encCl (c : Cand) : PyData := .list [encR c.1, encSt c.2]
structure CndB (c : Cand) : Prop where
  a : Sm 4000 c.1
  s : Sm 4000 c.2.1.2
theorem gap_lt (a b : Rat) : (a.num * (b.den : Int) - b.num * (a.den : Int) < 0) ↔ a < b := by
  rw [Rat.lt_iff]; omega
theorem gap_eq (a b : Rat) : (a.num * (b.den : Int) - b.num * (a.den : Int) = 0) ↔ a = b := by
  have h1 := gap_lt a b
  have h2 : (b.num * (a.den : Int) - a.num * (b.den : Int) < 0) ↔ b < a := gap_lt b a
  constructor
  · intro h
    have k1 : ¬ a < b := fun z => by have := h1.mpr z; omega
    have k2 : ¬ b < a := fun z => by have := h2.mpr z; omega
    grind
  · intro h
    subst h
    omega
def sgI (g : Bool) : Int := if g then 1 else -1
theorem better_gap (g : Bool) (c b : Cand) : (decide (sgI g * (c.1.num * (b.1.den : Int) - b.1.num * (c.1.den : Int)) < 0) || (decide (sgI g * (c.1.num * (b.1.den : Int) - b.1.num * (c.1.den : Int)) = 0) && decide (before c.2.1 b.2.1))) = better g c b := by
  have h1 := gap_lt c.1 b.1
  have h2 := gap_eq c.1 b.1
  have h3 : (b.1.num * (c.1.den : Int) - c.1.num * (b.1.den : Int) < 0) ↔ b.1 < c.1 := gap_lt b.1 c.1
  generalize hx : c.1.num * (b.1.den : Int) - b.1.num * (c.1.den : Int) = x at h1 h2 ⊢
  rw [show b.1.num * (c.1.den : Int) - c.1.num * (b.1.den : Int) = -x by omega] at h3
  rw [Bool.eq_iff_iff, better_iff]
  unfold btP
  simp only [Bool.or_eq_true, Bool.and_eq_true, decide_eq_true_eq]
  cases g with
  | true =>
    simp only [if_true, sgI]
    rw [Int.one_mul, h1, h2]
  | false =>
    simp only [Bool.false_eq_true, if_false, sgI]
    rw [Int.neg_one_mul, show (-x < 0 ↔ b.1 < c.1) from h3, show (-x = 0 ↔ c.1 = b.1) by rw [← h2]; omega]
def R__law_best (ds : List PyData) (d : PyData) : Prop := ∃ (l : List Cand) (g : Bool) (b : Cand), ((∀ c ∈ l, CndB c) ∧ l.foldl (best g) none = some b) ∧ ds = [.list (l.map encCl), .int (sgI g)] ∧ d = encC b
theorem c__law_best {t0 t1 : TE} {e0 e1 e2 : List EK} {l : List Cand} {g : Bool} {b : Cand} (a0 : ED K t0 e0 (.list (l.map encCl)) e1) (a1 : ED K t1 e1 (.int (sgI g)) e2) (hp : (∀ c ∈ l, CndB c) ∧ l.foldl (best g) none = some b) : ED K (tCall (spP K R__law_best) [] E0 (tCons t0 (tCons t1 tNil))) e0 (encC b) e2 := ed_call (ad_cons a0 (ad_cons a1 ad_nil)) ⟨l, g, b, hp, rfl, rfl⟩
abbrev DD__law_best (P : Program) (w : World) (K : Frag) (mg : Str → Option Value) (base : Heap) : Prop := Def P w K mg base 3 "_law_best" ["_law_found", "_law_sign_here"] (spP K R__law_best)
theorem ok__law_best (T : Top K mg) (D__law_before : DD__law_before P w K mg base) : DD__law_best P w K mg base := by
  obtain ⟨f, fd, F, hm⟩ := T.df "_law_best" 129 (by decide +kernel)
  have sc : FnScope ["_law_found", "_law_sign_here", "_law_best_here", "_law_area", "_law_stand", "_law_gap"] ["_law_found", "_law_sign_here"] (defScope (top 129)) := ⟨rfl, rfl, rfl, by decide +kernel, rfl, by decide +kernel, by decide +kernel⟩
  refine def_of F hm sc (fun ds d h => ?_) (fun _ _ _ _ _ _ us hl => match us, hl with | [_, _], _ => rfl) (fun cdv A outer s H E ds d hr h => ?_)
  · obtain ⟨l, g, b, hp, rfl, rfl⟩ := h
    rfl
  · obtain ⟨l, g, b, hp, rfl, rfl⟩ := h
    have hr2 := hr.mono (j := 2) (by decide)
    refine ⟨_, (pss_cons (ps_set (i := 2) sc.nd rfl (Or.inl rfl) (pe_ix (r := rIx K) ix_seq (pv 0) pe_int (fun _ _ => rfl)))
      (pss_cons (ps_for PassesOwn.never rfl (pi_seq (pv 0)) (pg_unl rfl (pgs_cons (pg_name (i := 3) sc.nd rfl (Or.inl rfl)) (pgs_cons (pg_name (i := 4) sc.nd rfl (Or.inl rfl)) pgs_nil))) (pss_cons (ps_set (i := 5) sc.nd rfl (Or.inl rfl) (pe_op op_mulW (pv 1) (pe_op op_sub (pe_op op_mulW (pe_ix (r := rIx K) ix_seq (pv 3) pe_int (fun _ _ => rfl)) (pe_ix (r := rIx K) ix_seq (pe_ix (r := rIx K) ix_seq (pv 2) pe_int (fun _ _ => rfl)) pe_int (fun _ _ => rfl))) (pe_op op_mulW (pe_ix (r := rIx K) ix_seq (pe_ix (r := rIx K) ix_seq (pv 2) pe_int (fun _ _ => rfl)) pe_int (fun _ _ => rfl)) (pe_ix (r := rIx K) ix_seq (pv 3) pe_int (fun _ _ => rfl))))))
      (pss_one (ps_if (pw_or (pt_cmpR op_lt (pv 5) pe_int (nomark _)) (pw_or1 (pw_and (pt_cmpR op_eq (pv 5) pe_int (nomark _)) (pw_and1 (pt_val (pe_def D__law_before hr2 (by rfl) (pa_cons (pe_ix (r := rIx K) ix_seq (pv 4) pe_int (fun _ _ => rfl)) (pa_cons (pe_ix (r := rIx K) ix_seq (pe_ix (r := rIx K) ix_seq (pv 2) pe_int (fun _ _ => rfl)) pe_int (fun _ _ => rfl)) pa_nil)))))).pt)).pt (pss_one (ps_set (i := 2) sc.nd rfl (Or.inl rfl) (pe_lst (pa_cons (pv 3) (pa_cons (pv 4) pa_nil))))) pss_nil))))
      (pss_one (ps_ret (pe_tup (pa_cons (pe_ix (r := rIx K) ix_seq (pv 2) pe_int (fun _ _ => rfl)) (pa_cons (pe_ix (r := rIx K) ix_seq (pv 2) pe_int (fun _ _ => rfl)) pa_nil))))))), ?_⟩
    obtain ⟨hB, hfold⟩ := hp
    match l, hfold, hB with
    | [], hfold, _ => cases hfold
    | c0 :: l0, hfold, hB =>
    generalize hl : c0 :: l0 = l at *
    have hc0 : l[0]? = some c0 := by rw [← hl]; rfl
    have hf0 : l.foldl (best g) (some c0) = some b := by
      rw [← hfold, ← hl, List.foldl_cons, List.foldl_cons]
      congr 1
      show best g (some c0) c0 = some c0
      unfold best
      dsimp only
      rw [better_irr]
      rfl
    show SD K _ [.imm _, .imm _, .any, .any, .any, .any] _ _ _ _
    refine sd_then (e1 := [.imm (.list (l.map encCl)), .imm (.int (sgI g)), .imm (encCl (c0)), .any, .any, .any]) (sd_set (ed_ixL (ed_var rfl) ed_int (atN (j := 0) (by rw [List.getElem?_map, hc0]; rfl)))) (
      sd_seq (N := fun e => ∃ k1 k2 k3, e = [.imm (.list (l.map encCl)), .imm (.int (sgI g)), .imm (encCl (b)), k1, k2, k3])
        (sd_forM (l := l) (f := encCl) (fun pre e => ∃ bb, pre.foldl (best g) (some c0) = some bb ∧ CndB bb ∧ ∃ k1 k2 k3, e = [.imm (.list (l.map encCl)), .imm (.int (sgI g)), .imm (encCl (bb)), k1, k2, k3]) (id_seqL (ed_var rfl)) ⟨c0, rfl, hB c0 (List.mem_of_getElem? hc0), .any, .any, .any, rfl⟩ (fun pre x post e' hs hI => ?_) (fun e' hI => ?_)) (fun e hz => ?_))
    · obtain ⟨bb, hbb, hbB, k1, k2, k3, rfl⟩ := hI
      have hxB : CndB x := hB x (by rw [hs]; exact List.mem_append_right _ List.mem_cons_self)
      have ef : (pre ++ [x]).foldl (best g) (some c0) = some (if better g x bb then x else bb) := by
        rw [List.foldl_append, hbb]
        show best g (some bb) x = _
        unfold best
        dsimp only
        split <;> rfl
      have hg1 : B 1 (sgI g) := by
        unfold sgI
        split <;> exact B.lit (by decide)
      refine ⟨[.imm (.list (l.map encCl)), .imm (.int (sgI g)), .imm (encCl (bb)), .imm (encR x.1), .imm (encSt x.2), k3], _, gd_lst (gds_cons gd_name (gds_cons gd_name gds_nil)), ?_⟩
      refine sd_then (e1 := [.imm (.list (l.map encCl)), .imm (.int (sgI g)), .imm (encCl (bb)), .imm (encR x.1), .imm (encSt x.2), .imm (.int (sgI g * (x.1.num * (bb.1.den : Int) - bb.1.num * (x.1.den : Int))))]) (sd_set (ed_mul (ed_var rfl) (ed_sub (ed_mul (ed_ixT (ed_var rfl) ed_int at0) (ed_ixT (ed_ixL (ed_var rfl) ed_int at0) ed_int at1) (cm hxB.a.n hbB.a.d (by decide) (by decide) (by decide))) (ed_mul (ed_ixT (ed_ixL (ed_var rfl) ed_int at0) ed_int at0) (ed_ixT (ed_var rfl) ed_int at1) (cm hbB.a.n hxB.a.d (by decide) (by decide) (by decide)))) (cm hg1 ((hxB.a.n.mul hbB.a.d).sub (hbB.a.n.mul hxB.a.d)) (by decide) (by decide) (by decide)))) (
        sd_if (b := better g x bb) (td_is (td_or (td_test (ed_lt (ed_var rfl) ed_int)) fun _ => td_and (td_test (ed_eqI (ed_var rfl) ed_int)) fun _ => td_B (c__law_before (ra := x.2.1) (rb := bb.2.1) (ed_ixT (ed_var rfl) ed_int at0) (ed_ixT (ed_ixL (ed_var rfl) ed_int at1) ed_int at0) ⟨hxB.s, hbB.s⟩)) (better_gap g x bb)) (fun h => sd_imp (sd_set (ed_lst (ad_cons (ed_var rfl) (ad_cons (ed_var rfl) ad_nil)))) fun e' he => ⟨x, ?_, hxB, ?_⟩) (fun h => sd_next ⟨bb, ?_, hbB, _, _, _, rfl⟩))
      · rw [ef, if_pos h]
      · exact ⟨_, _, _, he⟩
      · rw [ef, if_neg (by rw [h]; decide)]
    · obtain ⟨bb, hbb, _, k1, k2, k3, rfl⟩ := hI
      rw [hf0] at hbb
      cases hbb
      exact ⟨_, _, _, rfl⟩
    · obtain ⟨k1, k2, k3, rfl⟩ := hz
      exact sd_wk (e1 := [.imm (.list (l.map encCl)), .imm (.int (sgI g)), .imm (encCl (b)), .any, .any, .any]) (sd_retD (ed_tup (ad_cons (ed_ixL (ed_var rfl) ed_int at0) (ad_cons (ed_ixL (ed_var rfl) ed_int at1) ad_nil)))) ⟨.inr rfl, .inr rfl, .inr rfl, .inl rfl, .inl rfl, .inl rfl, trivial⟩
end
end Hull
set_option maxHeartbeats 1000000
namespace Hull
open PySem
section
variable {S : List P2} {P : P2} {z : Stand} {m : Rat}
/-! an area's true size -/
theorem tau_gp (hG : Gs 130 S) (h0 : 0 < S.length) (i k : Nat) : ∃ n : Int, tau S (cn S i) k = (n : Rat) / 36 ∧ n.natAbs ≤ 135200 := tri_gp (hG _ (cn_mem h0)) (hG _ (cn_mem h0)) (hG _ (cn_mem h0))
theorem G_gp (hG : Gs 130 S) (h0 : 0 < S.length) (i : Nat) : ∀ k : Nat, ∃ n : Int, G S (cn S i) k = (n : Rat) / 36 ∧ n.natAbs ≤ k * 135200
  | 0 => ⟨0, by show (0 : Rat) = (0 : Rat) / 36; grind, by decide⟩
  | k + 1 => by
    obtain ⟨n, e, hn⟩ := G_gp hG h0 i k
    obtain ⟨t, et, ht⟩ := tau_gp hG h0 i k
    refine ⟨n + t, ?_, by omega⟩
    show G S (cn S i) k + tau S (cn S i) k = _
    rw [e, et, Rat.intCast_add]
    grind
theorem Sm36 {n : Int} {k : Nat} (h : n.natAbs < 2 ^ k) (hk : 6 ≤ k) : Sm k ((n : Rat) / 36) := by
  have := Sm_div (k := k) (n := n) (m := 36) (by decide) h ((B.lit (k := 6) rfl).mono hk)
  exact this
theorem StB.small (hG : Gs 130 S) (h : StB S z) (h8 : S.length ≤ 8) : Sm 1000 (stArea S z) := by
  have h1 := h.okL.i
  have h2 := h.okR.i
  have h0 : 0 < S.length := by omega
  have hd := arc_lt h1 h2
  have e1 := below_path S (cn S 0) h1 h2 h.ne
  have e2 : shoe (below S z) = pathP (cn S 0) (below S z) + tri (cn S 0) (rp S z.2) (rp S z.1) := by
    have e3 : below S z = rp S z.1 :: ((passed S.length z).map (cn S) ++ [rp S z.2]) := by unfold below; simp
    rw [e3, shoe_path (cn S 0)]
    have e4 : rp S z.1 :: ((passed S.length z).map (cn S) ++ [rp S z.2]) ++ [rp S z.1] = (rp S z.1 :: (passed S.length z).map (cn S)) ++ [rp S z.2, rp S z.1] := by simp
    rw [e4, path_app]
    simp
  obtain ⟨a, ea, ha⟩ := tau_gp hG h0 0 z.1.1
  obtain ⟨b, eb, hb⟩ := tau_gp hG h0 0 z.2.1
  obtain ⟨c, ec, hc⟩ := G_gp hG h0 0 (z.1.1 + arcN S.length z.1.1 z.2.1)
  obtain ⟨d, ed, hd2⟩ := G_gp hG h0 0 (z.1.1 + 1)
  have hcd : (c - d).natAbs < 2 ^ 23 := by
    have p1 : (z.1.1 + arcN S.length z.1.1 z.2.1) * 135200 ≤ 15 * 135200 := Nat.mul_le_mul_right _ (by omega)
    have p2 : (z.1.1 + 1) * 135200 ≤ 8 * 135200 := Nat.mul_le_mul_right _ (by omega)
    have : (2 : Nat) ^ 23 = 8388608 := by decide
    omega
  have t1 : Sm 18 (tau S (cn S 0) z.1.1) := by
    rw [ea]
    exact Sm36 (by have : (2 : Nat) ^ 18 = 262144 := by decide
                   omega) (by decide)
  have t2 : Sm 18 (tau S (cn S 0) z.2.1) := by
    rw [eb]
    exact Sm36 (by have : (2 : Nat) ^ 18 = 262144 := by decide
                   omega) (by decide)
  have t3 : Sm 23 (G S (cn S 0) (z.1.1 + arcN S.length z.1.1 z.2.1) - G S (cn S 0) (z.1.1 + 1)) := by
    have e : G S (cn S 0) (z.1.1 + arcN S.length z.1.1 z.2.1) - G S (cn S 0) (z.1.1 + 1) = ((c - d : Int) : Rat) / 36 := by
      rw [ec, ed, Rat.intCast_sub]
      grind
    rw [e]
    exact Sm36 hcd (by decide)
  have one : Sm 1 (1 : Rat) := ⟨by unfold B; decide, by unfold B; decide⟩
  have t4 : Sm 493 (tri (cn S 0) (rp S z.2) (rp S z.1)) := by
    unfold tri
    exact (Sm_cr ((rp_pm hG h0 h.s2).sub (cn_pm hG h0 0)) ((rp_pm hG h0 h.s1).sub (cn_pm hG h0 0))).mono (by decide)
  have t5 : Sm 255 ((1 - z.1.2) * tau S (cn S 0) z.1.1 + (G S (cn S 0) (z.1.1 + arcN S.length z.1.1 z.2.1) - G S (cn S 0) (z.1.1 + 1))) := (((one.sub h.s1).mul t1).add t3).mono (by decide)
  have e5 : shoe (below S z) = ((1 - z.1.2) * tau S (cn S 0) z.1.1 + (G S (cn S 0) (z.1.1 + arcN S.length z.1.1 z.2.1) - G S (cn S 0) (z.1.1 + 1))) + z.2.2 * tau S (cn S 0) z.2.1 + tri (cn S 0) (rp S z.2) (rp S z.1) := by
    rw [e2, e1]
    grind
  have t6 : Sm 990 (shoe (below S z)) := by
    rw [e5]
    exact ((t5.add (h.s2.mul t2)).add t4).mono (by decide)
  have hh : Sm 2 (1 / 2 : Rat) := Sm.lit (by decide +kernel) (by decide +kernel)
  have e6 : stArea S z = shoe (below S z) * (1 / 2) := by
    unfold stArea Hull.area
    grind
  rw [e6]
  exact (t6.mul hh).mono (by decide)
/-! the ends of a chord lie on no edge together -/
theorem Chord.apart (hI : Ins S P) (c : Chord S P z m) : ∀ k ∈ edgesAt S.length z.1, k ∉ edgesAt S.length z.2 := fun k h1 h2 => by
  have h0 : 0 < S.length := by have := c.i1; omega
  have hne := c.ne hI
  have lk := c.lk
  have hl : z.1.2 = 0 → (z.1.1 + S.length - 1) % S.length ≠ z.2.1 := fun q => by
    rw [q] at lk
    exact (Link.left' lk c.i1).ne hI h0
  have hr : z.2.2 = 0 → z.1.1 ≠ (z.2.1 + S.length - 1) % S.length := fun q => by
    rw [q] at lk
    exact (Link.right' lk c.i2).ne hI h0
  have hb : z.1.2 = 0 → z.2.2 = 0 → (z.1.1 + S.length - 1) % S.length ≠ (z.2.1 + S.length - 1) % S.length := fun q q2 => by
    rw [q, q2] at lk
    exact (Link.right' (Link.left' lk c.i1) c.i2).ne hI h0
  unfold edgesAt at h1 h2
  by_cases q : z.1.2 = 0
  · rw [if_pos q] at h1
    by_cases q2 : z.2.2 = 0
    · rw [if_pos q2] at h2
      simp only [List.mem_cons, List.not_mem_nil, or_false] at h1 h2
      rcases h1 with h1 | h1 <;> rcases h2 with h2 | h2
      · exact hne (h1.symm.trans h2)
      · exact hr q2 (h1.symm.trans h2)
      · exact hl q (h1.symm.trans h2)
      · exact hb q q2 (h1.symm.trans h2)
    · rw [if_neg q2] at h2
      simp only [List.mem_cons, List.not_mem_nil, or_false] at h1 h2
      rcases h1 with h1 | h1
      · exact hne (h1.symm.trans h2)
      · exact hl q (h1.symm.trans h2)
  · rw [if_neg q] at h1
    by_cases q2 : z.2.2 = 0
    · rw [if_pos q2] at h2
      simp only [List.mem_cons, List.not_mem_nil, or_false] at h1 h2
      rcases h2 with h2 | h2
      · exact hne (h1.symm.trans h2)
      · exact hr q2 (h1.symm.trans h2)
    · rw [if_neg q2] at h2
      simp only [List.mem_cons, List.not_mem_nil, or_false] at h1 h2
      exact hne (h1.symm.trans h2)
theorem Chord.level (c : Chord S P z m) : sg (tri (rp S z.1) (rp S z.2) P) = 0 := by
  have e : tri (rp S z.1) (rp S z.2) P = 0 := by
    rw [tri_rot, tri_rot, tri_swap, c.line]
    grind
  rw [e]
  exact sg_zero
/-! the water line over the point -/
theorem gcd_nz {u : Int × Int} (h : gcdN [u.1, u.2] = 1) : u.1 ≠ 0 ∨ u.2 ≠ 0 := by
  by_cases q : u.1 = 0
  · refine .inr fun q2 => ?_
    rw [q, q2] at h
    exact absurd h (by decide)
  · exact .inl q
theorem line_is (hC : Conv S) (hI : Ins S P) {u : Int × Int} (hu : u.1 ≠ 0 ∨ u.2 ≠ 0) : ∃ l r m, lineL S u (lev u P) S.length = some l ∧ lineR S u (lev u P) S.length = some r ∧ lineOf S u (lev u P) = some (l, r) ∧ Chord S P (l, r) m := by
  obtain ⟨l, r, m, el, er, ⟨p, hp, hl⟩, c⟩ := line_chord hC hI hu
  refine ⟨l, r, m, el, er, ?_, c⟩
  unfold lineOf
  rw [el, er]
  exact if_pos (List.any_eq_true.mpr ⟨p, hp, decide_eq_true hl⟩)
theorem lv_ok (hG : Gs 130 S) (hP : Pm 55 P) {u : Int × Int} (hu : Bu 20 u) : LvOk S u (lev u P) where
  u1 := hu.1.mono (by decide)
  u2 := hu.2.mono (by decide)
  ra := (lev_sm hu hP).mono (by decide)
  lv := fun p hp => (lev_sm (j := 8) hu ((hG p hp).pm (by decide) (by decide))).mono (by decide)
end
end Hull
set_option maxHeartbeats 4000000
namespace Hull
open PySem PySem.Spec PyProof.Rows L2
section
variable {P : Program} {w : World} {K : Frag} {mg : Str → Option Value} {base : Heap}
/-- the words for a point -/
def TopW (K : Frag) (mg : Str → Option Value) : Prop := ∃ a, mg "WETNESS" = some (.ref a) ∧ WetD K a
def R_wetness (ds : List PyData) (d : PyData) : Prop := ∃ (S : List P2) (z : Rim × Rim) (p : P2), (Plate S ∧ StOk S z ∧ 0 ≤ z.1.2 ∧ z.1.2 < 1 ∧ 0 ≤ z.2.2 ∧ z.2.2 < 1 ∧ (∀ k ∈ edgesAt S.length z.1, k ∉ edgesAt S.length z.2) ∧ Pm 900 p ∧ sg (tri (rp S z.1) (rp S z.2) p) = 0) ∧ ds = [encS S, encSt z, encP p] ∧ d = .str "rim"
theorem c_wetness {t0 t1 t2 : TE} {e0 e1 e2 e3 : List EK} {S : List P2} {z : Rim × Rim} {p : P2} (a0 : ED K t0 e0 (encS S) e1) (a1 : ED K t1 e1 (encSt z) e2) (a2 : ED K t2 e2 (encP p) e3) (hp : Plate S ∧ StOk S z ∧ 0 ≤ z.1.2 ∧ z.1.2 < 1 ∧ 0 ≤ z.2.2 ∧ z.2.2 < 1 ∧ (∀ k ∈ edgesAt S.length z.1, k ∉ edgesAt S.length z.2) ∧ Pm 900 p ∧ sg (tri (rp S z.1) (rp S z.2) p) = 0) :
    ED K (tCall (spP K R_wetness) [] E0 (tCons t0 (tCons t1 (tCons t2 tNil)))) e0 (.str "rim") e3 := ed_call (ad_cons a0 (ad_cons a1 (ad_cons a2 ad_nil))) ⟨S, z, p, hp, rfl, rfl⟩
abbrev DD_wetness (P : Program) (w : World) (K : Frag) (mg : Str → Option Value) (base : Heap) : Prop := Def P w K mg base 8 "wetness" ["section", "stand", "point"] (spP K R_wetness)
theorem ok_wetness (T : Top K mg) (TW : TopW K mg) (D_turn_of : DD_turn_of P w K mg base) (D_chord_ends : DD_chord_ends P w K mg base) (D_check_point : DD_check_point P w K mg base) (D_check_section : DD_check_section P w K mg base) (D_check_stand : DD_check_stand P w K mg base) : DD_wetness P w K mg base := by
  obtain ⟨f, fd, F, hm⟩ := T.df "wetness" 80 (by decide +kernel)
  have sc : FnScope ["section", "stand", "point", "left", "right"] ["section", "stand", "point"] (defScope (top 80)) := ⟨rfl, rfl, rfl, by decide +kernel, rfl, by decide +kernel, by decide +kernel⟩
  refine def_of F hm sc (fun ds d h => ?_) (fun _ _ _ _ _ _ us hl => match us, hl with | [_, _, _], _ => rfl) (fun cdv A outer s H E ds d hr h => ?_)
  · obtain ⟨S, z, p, hp, rfl, rfl⟩ := h
    rfl
  · obtain ⟨S, z, p, hp, rfl, rfl⟩ := h
    have hr2 := hr.mono (j := 2) (by decide)
    have hr4 := hr.mono (j := 4) (by decide)
    have hr6 := hr.mono (j := 6) (by decide)
    have hr7 := hr.mono (j := 7) (by decide)
    obtain ⟨aWETNESS, mWETNESS, wWETNESS⟩ := TW
    have rWETNESS : RelV (.ref aWETNESS) (.ref aWETNESS) := rfl
    refine ⟨_, (pss_cons (ps_expr (pe_def D_check_section hr7 (by rfl) (pa_cons (pv 0) pa_nil)))
      (pss_cons (ps_expr (pe_def D_check_stand hr7 (by rfl) (pa_cons (pv 0) (pa_cons (pv 1) pa_nil))))
      (pss_cons (ps_expr (pe_def D_check_point hr4 (by rfl) (pa_cons (pv 2) pa_nil)))
      (pss_cons (ps_asg (pe_def D_chord_ends hr6 (by rfl) (pa_cons (pv 0) (pa_cons (pv 1) pa_nil))) (pg_tup rfl (pgs_cons (pg_name (i := 3) sc.nd rfl (Or.inl rfl)) (pgs_cons (pg_name (i := 4) sc.nd rfl (Or.inl rfl)) pgs_nil))))
      (pss_one (ps_ret (pe_ix (r := rIxW K) ix_wet (pe_glob (by rfl) mWETNESS rWETNESS) (pe_def D_turn_of hr2 (by rfl) (pa_cons (pv 3) (pa_cons (pv 4) (pa_cons (pv 2) pa_nil)))) (fun _ _ => rfl)))))))), ?_⟩
    obtain ⟨hpl, hz, h1, h2, h3, h4, hno, hpp, h0⟩ := hp
    have h8 := hpl.hi
    have m1 : rp S z.1 ∈ below S z := by unfold below; simp
    have m2 : rp S z.2 ∈ below S z := by unfold below; simp
    show SD K _ [.imm _, .imm _, .imm _, .any, .any] _ _ _ _
    exact sd_then (sd_drop (c_check_section (ed_var rfl) hpl)) (
      sd_then (sd_drop (c_check_stand (ed_var rfl) (ed_var rfl) ⟨by omega, hz.i1, h1, h2, hz.i2, h3, h4, hno⟩)) (
      sd_then (sd_drop (c_check_point (ed_var rfl) trivial)) (
      sd_then (e1 := [.imm (encS S), .imm (encSt z), .imm (encP p), .imm (encP (rp S z.1)), .imm (encP (rp S z.2))]) (sd_asg (c_chord_ends (ed_var rfl) (ed_var rfl) ⟨hpl.sz, hz.i1, hz.i2, hz.s1, hz.s2⟩) (gd_tup (gds_cons gd_name (gds_cons gd_name gds_nil)))) (
      sd_retD (ed_wet wWETNESS (c_turn_of (ed_var rfl) (ed_var rfl) (ed_var rfl) ⟨(hz.ps _ m1).mono (by decide), (hz.ps _ m2).mono (by decide), hpp.mono (by decide)⟩) h0)))))
abbrev DK_greatest_below (P : Program) (w : World) (K : Frag) (mg : Str → Option Value) (base : Heap) : Prop := DefK P w K mg base 10 "greatest_below" ["section", "point"] ["point", "section"] (spP K R_greatest_below)
theorem okK_greatest_below (T : Top K mg) (D_extreme_below : DD_extreme_below P w K mg base) (D_check_inner : DD_check_inner P w K mg base) : DK_greatest_below P w K mg base := by
  obtain ⟨f, fd, F, hm⟩ := T.df "greatest_below" 83 (by decide +kernel)
  have sc : FnScope ["section", "point"] ["section", "point"] (defScope (top 83)) := ⟨rfl, rfl, rfl, by decide +kernel, rfl, by decide +kernel, by decide +kernel⟩
  refine defK_of F hm sc (fun ds d h => ?_) (fun _ _ _ _ _ _ _ _ => rfl) (fun cdv A outer s H E ds d hr h => ?_)
  · obtain ⟨S, p, hp, rfl, rfl⟩ := h
    rfl
  · obtain ⟨S, p, hp, rfl, rfl⟩ := h
    have hr8 := hr.mono (j := 8) (by decide)
    have hr9 := hr.mono (j := 9) (by decide)
    refine ⟨_, (pss_cons (ps_expr (pe_def D_check_inner hr8 (by rfl) (pa_cons (pv 0) (pa_cons (pv 1) pa_nil))))
      (pss_one (ps_ret (pe_def D_extreme_below hr9 (by rfl) (pa_cons (pv 0) (pa_cons (pv 1) (pa_cons pe_bl pa_nil))))))), ?_⟩
    show SD K _ [.imm _, .imm _] _ _ _ _
    refine sd_then (sd_drop (c_check_inner (ed_var rfl) (ed_var rfl) ?r1)) (
    sd_retD (ed_is (c_extreme_below (ed_var rfl) (ed_var rfl) ed_bl ?r2) ?q3))
    case r1 => exact ⟨hp.1, hp.2.1.pm.mono (by decide), hp.2.2⟩
    case r2 => exact hp.2.1
    case q3 => rfl
/-! what the law draws -/
def rS (t : Tb) : List P2 := (sectionT t).1
def r1 (t : Tb) : Tb := (sectionT t).2
def rW (t : Tb) : P2 := (pointT (r1 t) 5).1
def r2 (t : Tb) : Tb := (pointT (r1 t) 5).2
def rP (t : Tb) : P2 := (insideT (r2 t) (rS t)).1
def r3 (t : Tb) : Tb := (insideT (r2 t) (rS t)).2
def rU (t : Tb) : Int × Int := (upT (r3 t) (rS t)).1
def r4 (t : Tb) : Tb := (upT (r3 t) (rS t)).2
def r5 (t : Tb) : Tb := (dip (r4 t) 2).2
def r6 (t : Tb) : Tb := (dip (r5 t) 3).2
theorem Sec.g130 {S : List P2} (h : Sec S) : Gs 130 S := fun p hp => (h.gs p hp).mono (by decide)
theorem Sec.plate {S : List P2} (h : Sec S) : Plate S := by
  obtain ⟨p, hU⟩ := h.un
  exact plate_ok h.cv h.g130 h.hi (hull_id h.cv hU)
theorem Sec.fan {S : List P2} (h : Sec S) : FanOk S where
  lo := by have := h.cv.1; omega
  hi := by have := h.hi; omega
  pm := fun p hp => ((h.gs p hp).pm (k := 8) (by decide) (by decide)).mono (by decide)
  sm := fun k hk => (fan_sm h.gs h.hi hk).mono (by decide)
  tr := fun k hk => by
    have g : ∀ i, i < S.length → Pm 8 (S.getD i pz) := fun i hi => (getD_gs h.gs hi).pm (by decide) (by decide)
    unfold tri
    exact (Sm_cr ((g _ (by omega)).sub (g _ (by omega))) ((g _ (by omega)).sub (g _ (by omega)))).mono (by decide)
theorem Sec.mv {S : List P2} (h : Sec S) {v : P2} (hv : Gp 30 v) : Gs 130 (S.map fun q => q.add v) ∧ Plate (S.map fun q => q.add v) := by
  obtain ⟨p, hU⟩ := h.un
  have hg : Gs 130 (S.map fun q => q.add v) := fun q hq => by
    obtain ⟨r, hr, rfl⟩ := List.mem_map.mp hq
    exact (h.gs r hr).add hv
  exact ⟨hg, plate_ok (h.cv.mv v) hg (by rw [List.length_map]; exact h.hi) (by rw [hull_mv, hull_id h.cv hU])⟩
theorem stands_cl (S : List P2) (p : P2) : (lawStands S p).map (encLs S) = ((lawStands S p).map fun s => (stArea S s, s)).map encCl := by
  rw [List.map_map]
  rfl
/-- the stand that is told, its area: their texts are short -/
structure Shown (c : Cand) : Prop where
  a : Sm 1000 c.1
  s1 : Sm 211 c.2.1.2
  s2 : Sm 211 c.2.2.2
  i1 : c.2.1.1 < 8
  i2 : c.2.2.1 < 8
structure Lf (k : Nat) (d : PyData) : Prop where
  sh : d.showable = true
  nd : d.hasDict = false
  ls : d.leavesShort 1001 = true
  w : d.weight ≤ k
  dp : d.depth ≤ 1
theorem lf_int {k : Nat} {i : Int} (h : B k i) (h0 : 0 < k) (hk : k ≤ 1000) : Lf k (.int i) := by
  have hl := PySem.Flt.log2_lt_of h0 h
  refine ⟨?_, ?_, ?_, ?_, ?_⟩
  · simp only [PyData.showable]
    exact decide_eq_true (by omega)
  · simp only [PyData.hasDict]
  · simp only [PyData.leavesShort]
    refine decide_eq_true ?_
    show (Str.ofString (toString i)).length ≤ 1001
    rw [PySem.ofString_length]
    exact Nat.le_trans (int_text_length_le h0 hl) (by omega)
  · simp only [PyData.weight]
    split <;> omega
  · simp only [PyData.depth]
    omega
def candD (a b c d e f g h : PyData) : PyData := .tuple [.tuple [a, b], .tuple [.tuple [c, .tuple [d, e]], .tuple [f, .tuple [g, h]]]]
theorem candD_ok {a b c d e f g h : PyData} (ha : Lf 1000 a) (hb : Lf 1000 b) (hc : Lf 3 c) (hd : Lf 211 d) (he : Lf 211 e) (hf : Lf 3 f) (hg : Lf 211 g) (hh : Lf 211 h) :
    (candD a b c d e f g h).showable = true ∧ (candD a b c d e f g h).hasDict = false ∧ (candD a b c d e f g h).leavesShort 1001 = true ∧ (candD a b c d e f g h).weight ≤ 2900 ∧ (candD a b c d e f g h).depth ≤ 10 := by
  have w1 := ha.w
  have w2 := hb.w
  have w3 := hc.w
  have w4 := hd.w
  have w5 := he.w
  have w6 := hf.w
  have w7 := hg.w
  have w8 := hh.w
  have p1 := ha.dp
  have p2 := hb.dp
  have p3 := hc.dp
  have p4 := hd.dp
  have p5 := he.dp
  have p6 := hf.dp
  have p7 := hg.dp
  have p8 := hh.dp
  unfold candD
  refine ⟨?_, ?_, ?_, ?_, ?_⟩
  · simp only [PyData.showable, PyData.showableAll, ha.sh, hb.sh, hc.sh, hd.sh, he.sh, hf.sh, hg.sh, hh.sh, Bool.and_true]
  · simp only [PyData.hasDict, PyData.hasDictAll, ha.nd, hb.nd, hc.nd, hd.nd, he.nd, hf.nd, hg.nd, hh.nd, Bool.or_false]
  · simp only [PyData.leavesShort, PyData.leavesShortAll, ha.ls, hb.ls, hc.ls, hd.ls, he.ls, hf.ls, hg.ls, hh.ls, Bool.and_true]
  · simp only [PyData.weight, PyData.weightAll]
    omega
  · simp only [PyData.depth, PyData.depthAll]
    omega
theorem nat_B {k : Nat} (h : k < 8) : B 3 ((k : Nat) : Int) := by
  unfold B
  rw [Int.natAbs_natCast]
  exact h
theorem Shown.ok {c : Cand} (h : Shown c) : (encC c).showable = true ∧ (encC c).hasDict = false ∧ (encC c).leavesShort 1001 = true ∧ (encC c).weight ≤ 2900 ∧ (encC c).depth ≤ 10 :=
  candD_ok (a := .int c.1.num) (b := .int (c.1.den : Int)) (c := .int (c.2.1.1 : Int)) (d := .int c.2.1.2.num) (e := .int (c.2.1.2.den : Int)) (f := .int (c.2.2.1 : Int)) (g := .int c.2.2.2.num) (h := .int (c.2.2.2.den : Int))
    (lf_int h.a.n (by decide) (by decide)) (lf_int h.a.d (by decide) (by decide)) (lf_int (nat_B h.i1) (by decide) (by decide)) (lf_int h.s1.n (by decide) (by decide)) (lf_int h.s1.d (by decide) (by decide)) (lf_int (nat_B h.i2) (by decide) (by decide)) (lf_int h.s2.n (by decide) (by decide)) (lf_int h.s2.d (by decide) (by decide))
theorem two_shown {c1 c2 : Cand} (h1 : Shown c1) (h2 : Shown c2) : (PyData.list [encC c1, encC c2]).showable = true ∧ (PyData.list [encC c1, encC c2]).hasDict = false ∧ (PyData.list [encC c1, encC c2]).depth ≤ 60 ∧ (PyData.list [encC c1, encC c2]).shown.length ≤ sizeLine := by
  obtain ⟨a1, a2, a3, a4, a5⟩ := h1.ok
  obtain ⟨b1, b2, b3, b4, b5⟩ := h2.ok
  generalize encC c1 = d1 at *
  generalize encC c2 = d2 at *
  refine ⟨?_, ?_, ?_, ?_⟩
  · simp only [PyData.showable, PyData.showableAll, a1, b1, Bool.and_true]
  · simp only [PyData.hasDict, PyData.hasDictAll, a2, b2, Bool.or_false]
  · simp only [PyData.depth, PyData.depthAll]
    omega
  · have hs : (PyData.list [d1, d2]).leavesShort 1001 = true := by simp only [PyData.leavesShort, PyData.leavesShortAll, a3, b3, Bool.and_true]
    have hw : (PyData.list [d1, d2]).weight ≤ 5802 := by
      simp only [PyData.weight, PyData.weightAll]
      omega
    have h := PyData.shown_le 1001 (by decide) _ hs
    have hz : (1001 + 2) * 5802 + 1001 ≤ sizeLine := by decide
    have h3 := Nat.mul_le_mul_left (1001 + 2) hw
    omega
theorem StB.shown {S : List P2} {z : Stand} (hG : Gs 130 S) (h : StB S z) (h8 : S.length ≤ 8) : Shown (stArea S z, z) := ⟨h.small hG h8, h.s1, h.s2, by have := h.okL.i; show z.1.1 < 8; omega, by have := h.okR.i; show z.2.1 < 8; omega⟩
theorem pick2 {t : Tb} {c1 c2 : Cand} : (ofT t [encC c1, encC c2]).1 = encC c1 ∨ (ofT t [encC c1, encC c2]).1 = encC c2 := by
  have h := dip_lt t (k := 2) (by decide)
  unfold ofT
  show ([encC c1, encC c2].getD (dip t 2).1 .none) = _ ∨ _
  generalize (dip t 2).1 = i at h
  match i, h with
  | 0, _ => exact .inl rfl
  | 1, _ => exact .inr rfl
def R__law_right (t : Tb) (ds : List PyData) (d : PyData) (t2 : Tb) : Prop := TubOk 0 t ∧ ds = [] ∧ d = .bool true ∧ t2 = r6 t
abbrev DG__law_right (P : Program) (w : World) (K : Frag) (mg : Str → Option Value) (base : Heap) : Prop := DefG P w K mg base 11 "_law_right" ["_law_tub_here"] (spT K R__law_right)
theorem ok__law_right (T : Top K mg) (D_wetness : DD_wetness P w K mg base) (D_least_below : DD_least_below P w K mg base) (D_greatest_below : DK_greatest_below P w K mg base) (D_height_of : DD_height_of P w K mg base) (D_area_below : DD_area_below P w K mg base) (D_area_of_stand : DD_area_of_stand P w K mg base) (D_moved : DD_moved P w K mg base) (D__law_dip : DD__law_dip P w K mg base) (D__law_of : DD__law_of P w K mg base) (D__law_plus : DD__law_plus P w K mg base) (D__law_under : DD__law_under P w K mg base) (D__law_joined : DD__law_joined P w K mg base) (D__law_point : DD__law_point P w K mg base) (D__law_section : DD__law_section P w K mg base) (D__law_size : DD__law_size P w K mg base) (D__law_up : DD__law_up P w K mg base) (D__law_belows : DD__law_belows P w K mg base) (D__law_best : DD__law_best P w K mg base) (D__law_inside : DD__law_inside P w K mg base) : DG__law_right P w K mg base := by
  obtain ⟨f, fd, F, hm⟩ := T.df "_law_right" 131 (by decide +kernel)
  have sc : FnScope ["_law_tub_here", "_law_section_here", "_law_full", "_law_shift", "_law_point_here", "_law_up_here", "_law_some", "_law_least", "_law_most", "_law_told_here", "_law_area", "_law_stand", "_law_away", "_law_each"] ["_law_tub_here"] (defScope (top 131)) := ⟨rfl, rfl, rfl, by decide +kernel, rfl, by decide +kernel, by decide +kernel⟩
  have m_repr := T.fr "repr" (by decide +kernel)
  refine defG_ofT F hm sc (fun t ds d t2 h => ?_) (fun _ _ _ _ _ _ us hl => match us, hl with | [_], _ => rfl) (fun cdv A outer s H t ds d t2 hr hqd h => ?_)
  · obtain ⟨hp, rfl, rfl, rfl⟩ := h
    rfl
  · obtain ⟨hp, rfl, rfl, rfl⟩ := h
    have hr1 := hr.mono (j := 1) (by decide)
    have hr2 := hr.mono (j := 2) (by decide)
    have hr3 := hr.mono (j := 3) (by decide)
    have hr4 := hr.mono (j := 4) (by decide)
    have hr5 := hr.mono (j := 5) (by decide)
    have hr6 := hr.mono (j := 6) (by decide)
    have hr7 := hr.mono (j := 7) (by decide)
    have hr8 := hr.mono (j := 8) (by decide)
    have hr9 := hr.mono (j := 9) (by decide)
    have hr10 := hr.mono (j := 10) (by decide)
    refine ⟨_, (pss_cons (ps_set (i := 1) sc.nd rfl (Or.inl rfl) (pe_def D__law_section hr7 (by rfl) (pa_cons (pv 0) pa_nil)))
      (pss_cons (ps_par (i := 2) (j := 3) rfl sc.nd rfl rfl (by decide) rfl rfl (pa_cons (pe_def D__law_size hr6 (by rfl) (pa_cons (pv 1) pa_nil)) (pa_cons (pe_def D__law_point hr3 (by rfl) (pa_cons (pv 0) (pa_cons pe_int pa_nil))) pa_nil)) rfl)
      (pss_cons (ps_par (i := 4) (j := 5) rfl sc.nd rfl rfl (by decide) rfl rfl (pa_cons (pe_def D__law_inside hr7 (by rfl) (pa_cons (pv 0) (pa_cons (pv 1) pa_nil))) (pa_cons (pe_def D__law_up hr4 (by rfl) (pa_cons (pv 0) (pa_cons (pv 1) pa_nil))) pa_nil)) rfl)
      (pss_cons (ps_set (i := 6) sc.nd rfl (Or.inl rfl) (pe_def D__law_belows hr8 (by rfl) (pa_cons (pv 1) (pa_cons (pv 4) pa_nil))))
      (pss_cons (ps_par (i := 7) (j := 8) rfl sc.nd rfl rfl (by decide) rfl rfl (pa_cons (pe_def D__law_best hr3 (by rfl) (pa_cons (pv 6) (pa_cons pe_int pa_nil))) (pa_cons (pe_def D__law_best hr3 (by rfl) (pa_cons (pv 6) (pa_cons (pe_un un_neg pe_int) pa_nil))) pa_nil)) rfl)
      (pss_cons (ps_set (i := 9) sc.nd rfl (Or.inl rfl) (pe_lst (pa_cons (pe_def D_least_below hr10 (by rfl) (pa_cons (pv 1) (pa_cons (pv 4) pa_nil))) (pa_cons (pe_defK D_greatest_below hr10 (by rfl) (pk_cons (pv 4) (pk_cons (pv 1) pk_nil))) pa_nil))))
      (pss_cons (ps_if (pw_or (pt_cmpR op_ne (pe_callB (cr_repr hqd hr.units) (by rfl) m_repr bt_repr (pa_cons (pv 9) pa_nil)) (pe_callB (cr_repr hqd hr.units) (by rfl) m_repr bt_repr (pa_cons (pe_lst (pa_cons (pv 7) (pa_cons (pv 8) pa_nil))) pa_nil)) (nomark _)) (pw_or1 (pt_cmpR (r := rNeD K) (op_neD hr.units) (pe_def D__law_plus hr4 (by rfl) (pa_cons (pe_ix (r := rIx K) ix_seq (pe_ix (r := rIx K) ix_seq (pv 9) pe_int (fun _ _ => rfl)) pe_int (fun _ _ => rfl)) (pa_cons (pe_ix (r := rIx K) ix_seq (pe_ix (r := rIx K) ix_seq (pv 9) pe_int (fun _ _ => rfl)) pe_int (fun _ _ => rfl)) pa_nil))) (pv 2) (nomark _)))).pt (pss_one (ps_ret pe_bl)) pss_nil)
      (pss_cons (ps_asg (pe_def D__law_of hr2 (by rfl) (pa_cons (pv 0) (pa_cons (pv 9) pa_nil))) (pg_tup rfl (pgs_cons (pg_name (i := 10) sc.nd rfl (Or.inl rfl)) (pgs_cons (pg_name (i := 11) sc.nd rfl (Or.inl rfl)) pgs_nil))))
      (pss_cons (ps_if (pw_or (pt_cmpR (r := rNeD K) (op_neD hr.units) (pe_def D_area_of_stand hr9 (by rfl) (pa_cons (pv 1) (pa_cons (pv 11) pa_nil))) (pv 10) (nomark _)) (pw_or1 (pt_cmpR op_ne (pe_def D_wetness hr8 (by rfl) (pa_cons (pv 1) (pa_cons (pv 11) (pa_cons (pv 4) pa_nil)))) pe_str (nomark _)))).pt (pss_one (ps_ret pe_bl)) pss_nil)
      (pss_cons (ps_set (i := 10) sc.nd rfl (Or.inl rfl) (pe_def D_area_below hr10 (by rfl) (pa_cons (pv 1) (pa_cons (pv 5) (pa_cons (pe_def D_height_of hr5 (by rfl) (pa_cons (pv 5) (pa_cons (pv 4) pa_nil))) pa_nil)))))
      (pss_cons (ps_if (pw_or (pt_val (pe_def D__law_under hr1 (by rfl) (pa_cons (pv 10) (pa_cons (pe_ix (r := rIx K) ix_seq (pv 7) pe_int (fun _ _ => rfl)) pa_nil)))) (pw_or1 (pt_val (pe_def D__law_under hr1 (by rfl) (pa_cons (pe_ix (r := rIx K) ix_seq (pv 8) pe_int (fun _ _ => rfl)) (pa_cons (pv 10) pa_nil)))))).pt (pss_one (ps_ret pe_bl)) pss_nil)
      (pss_cons (ps_if (pt_cmpR op_gt (pe_def D__law_dip hr1 (by rfl) (pa_cons (pv 0) (pa_cons pe_int pa_nil))) pe_int (nomark _)) (pss_one (ps_ret pe_bl)) pss_nil)
      (pss_cons (ps_set (i := 12) sc.nd rfl (Or.inl rfl) (pe_def D_least_below hr10 (by rfl) (pa_cons (pe_def D_moved hr8 (by rfl) (pa_cons (pv 1) (pa_cons (pv 3) pa_nil))) (pa_cons (pe_def D__law_joined hr3 (by rfl) (pa_cons (pv 4) (pa_cons (pv 3) pa_nil))) pa_nil))))
      (pss_one (ps_ret (pe_and (pe_cmpR (r := rEqD K) (op_eqD hr.units) (pe_ix (r := rIx K) ix_seq (pv 12) pe_int (fun _ _ => rfl)) (pe_ix (r := rIx K) ix_seq (pv 7) pe_int (fun _ _ => rfl)) (nomark _)) (pe_one (pe_cmpR (r := rEqD K) (op_eqD hr.units) (pe_lc (own := [("_law_each", 13)]) rfl sc.nd (pi_seq (pe_ix (r := rIx K) ix_seq (pv 12) pe_int (fun _ _ => rfl))) (blkOk_by (own := [("_law_each", 13)]) (N := ["_law_tub_here", "_law_section_here", "_law_full", "_law_shift", "_law_point_here", "_law_up_here", "_law_some", "_law_least", "_law_most", "_law_told_here", "_law_area", "_law_stand", "_law_away", "_law_each"]) (sc := defScope (top 131)) (by decide +kernel)) (fun _ _ _ _ _ => (pg_name (i := 13) sc.nd rfl (Or.inl rfl))) (fun _ _ _ _ _ => pts_nil) (fun _ _ _ _ _ => (pe_ix (r := rIx K) ix_seq (pv 13) pe_int (fun _ _ => rfl)))) (pe_lc (own := [("_law_each", 13)]) rfl sc.nd (pi_seq (pe_ix (r := rIx K) ix_seq (pv 7) pe_int (fun _ _ => rfl))) (blkOk_by (own := [("_law_each", 13)]) (N := ["_law_tub_here", "_law_section_here", "_law_full", "_law_shift", "_law_point_here", "_law_up_here", "_law_some", "_law_least", "_law_most", "_law_told_here", "_law_area", "_law_stand", "_law_away", "_law_each"]) (sc := defScope (top 131)) (by decide +kernel)) (fun _ _ _ _ _ => (pg_name (i := 13) sc.nd rfl (Or.inl rfl))) (fun _ _ _ _ _ => pts_nil) (fun _ _ _ _ _ => (pe_ix (r := rIx K) ix_seq (pv 13) pe_int (fun _ _ => rfl)))) (nomark _))))))))))))))))))), ?_⟩
    have hsec : Sec (rS t) := sectionT_sec hp
    have o1 : TubOk 33 (r1 t) := (sectionT_ok hp).mono (by decide)
    have o2 : TubOk 36 (r2 t) := (pointT_ok o1 5).mono (by decide)
    have o3 : TubOk 41 (r3 t) := (insideT_ok o2 _).mono (by decide)
    have o4 : TubOk 47 (r4 t) := (upC_ok o3 _).mono (by decide)
    have o5 : TubOk 48 (r5 t) := (dip_ok o4 2).mono (by decide)
    have h8 := hsec.hi
    have hcv := hsec.cv
    have h0 : 0 < (rS t).length := by have := hcv.1; omega
    have hg := hsec.g130
    have hin : Ins (rS t) (rP t) := insideT_in hsec
    have hpm : Pm 48 (rP t) := insideT_pm hsec
    have hpm5 : Pm 55 (rP t) := hpm.mono (by decide)
    have hpl := hsec.plate
    have hv30 : Gp 30 (rW t) := pointT_gp (r1 t) 5
    have hvp : Pm 5 (rW t) := hv30.pm (by decide) (by decide)
    have hhv := hv_ok hcv hin hg hpm5 h8
    have hS : InS (rS t) (rP t) := ⟨hcv, hin, hg, hpm5, h0, h8⟩
    have hu := redU_ok (upC_B (t := r3 t) hsec)
    have hu20 : Bu 20 (rU t) := hu.1
    have hu1 : gcdN [(rU t).1, (rU t).2] = 1 := hu.2
    obtain ⟨z1, hz1, x1, y1, m1⟩ := extreme_law hcv hin true
    obtain ⟨z2, hz2, x2, y2, m2⟩ := extreme_law hcv hin false
    have s1 := hz1.isF.stB hg hpm5 hin
    have s2 := hz2.isF.stB hg hpm5 hin
    obtain ⟨w1, w2, w3, w4⟩ := two_shown (s1.shown hg h8) (s2.shown hg h8)
    have hcand : ∀ c ∈ ((lawStands (rS t) (rP t)).map fun s => (stArea (rS t) s, s)), CndB c := fun c hc => by
      obtain ⟨z, hz, rfl⟩ := List.mem_map.mp hc
      have sz := ((mem_law hcv hin).mp hz).stB hg hpm5 hin
      exact ⟨sz.area hg h8, sz.s1.mono (by decide)⟩
    have hboth : stArea (rS t) z1 + stArea (rS t) z2 = area (rS t) := by
      rw [area_G (rS t) (rP t) h0]
      exact both hcv hin hz1.isF hz2.isF m1 m2
    have hpick : ∃ z3, isH (rS t) (rP t) z3 ∧ (ofT (r4 t) [encC (stArea (rS t) z1, z1), encC (stArea (rS t) z2, z2)]).1 = encC (stArea (rS t) z3, z3) := by
      rcases pick2 (t := r4 t) (c1 := (stArea (rS t) z1, z1)) (c2 := (stArea (rS t) z2, z2)) with q | q
      · exact ⟨z1, hz1, q⟩
      · exact ⟨z2, hz2, q⟩
    obtain ⟨z3, hz3, ez3⟩ := hpick
    have s3 := hz3.isF.stB hg hpm5 hin
    have c3 := hz3.1
    obtain ⟨l, r, m, el, er, eL, cL⟩ := line_is hcv hin (gcd_nz hu1)
    have sL := line_stB hg hpm5 hin hu20 el er cL
    have eA : areaUp (rS t) (rU t) (lev (rU t) (rP t)) = stArea (rS t) (l, r) := by
      unfold areaUp
      rw [eL]
    have le1 := least_le hcv hin m1 cL
    have le2 := le_most hcv hin m2 cL
    have sz1 : Sm 4000 (stArea (rS t) z1) := s1.area hg h8
    have sz2 : Sm 4000 (stArea (rS t) z2) := s2.area hg h8
    have szL : Sm 4000 (areaUp (rS t) (rU t) (lev (rU t) (rP t))) := by rw [eA]; exact sL.area hg h8
    obtain ⟨gm, pm⟩ := hsec.mv hv30
    have hinm := hin.mv h0 (rW t)
    have hpmm : Pm 55 ((rP t).add (rW t)) := (hpm.add hvp).mono (by decide)
    have hhm := hv_ok (hcv.mv (rW t)) hinm gm hpmm (by rw [List.length_map]; exact h8)
    have xm := extreme_mv hcv hin (rW t) true
    rw [x1] at xm
    show SD K _ [.tub (t).1 (t).2.1 (t).2.2, .any, .any, .any, .any, .any, .any, .any, .any, .any, .any, .any, .any, .any] _ _ _ _
    refine sd_then (e1 := [.tub (r1 t).1 (r1 t).2.1 (r1 t).2.2, .imm (encS (rS t)), .any, .any, .any, .any, .any, .any, .any, .any, .any, .any, .any, .any]) (sd_set (c__law_section (t := t) (u := t) (i := 0) rfl rfl (hp.mono (by decide)))) (
      sd_then (e1 := [.tub (r2 t).1 (r2 t).2.1 (r2 t).2.2, .imm (encS (rS t)), .imm (encR (area (rS t))), .imm (encP (rW t)), .any, .any, .any, .any, .any, .any, .any, .any, .any, .any]) (sd_par (ad_cons (c__law_size (z := (false, rS t)) (ed_var rfl) hsec.fan) (ad_cons (c__law_point (t := r1 t) (u := r1 t) (k := 5) (i := 0) rfl ed_int rfl ⟨o1.mono (by decide), by decide⟩) ad_nil))) (
      sd_then (e1 := [.tub (r4 t).1 (r4 t).2.1 (r4 t).2.2, .imm (encS (rS t)), .imm (encR (area (rS t))), .imm (encP (rW t)), .imm (encP (rP t)), .imm (encU (rU t)), .any, .any, .any, .any, .any, .any, .any, .any]) (sd_par (ad_cons (c__law_inside (t := r2 t) (u := r2 t) (i := 0) rfl (ed_var rfl) rfl ⟨o2.mono (by decide), hsec⟩) (ad_cons (c__law_up (t := r3 t) (u := r3 t) (i := 0) rfl (ed_var rfl) rfl ⟨o3.mono (by decide), hsec⟩) ad_nil))) (
      sd_then (e1 := [.tub (r4 t).1 (r4 t).2.1 (r4 t).2.2, .imm (encS (rS t)), .imm (encR (area (rS t))), .imm (encP (rW t)), .imm (encP (rP t)), .imm (encU (rU t)), .imm (.list (((lawStands (rS t) (rP t)).map fun s => (stArea (rS t) s, s)).map encCl)), .any, .any, .any, .any, .any, .any, .any]) (sd_set (ed_is (c__law_belows (ed_var rfl) (ed_var rfl) hS) (congrArg PyData.list (stands_cl _ _)))) (
      sd_then (e1 := [.tub (r4 t).1 (r4 t).2.1 (r4 t).2.2, .imm (encS (rS t)), .imm (encR (area (rS t))), .imm (encP (rW t)), .imm (encP (rP t)), .imm (encU (rU t)), .imm (.list (((lawStands (rS t) (rP t)).map fun s => (stArea (rS t) s, s)).map encCl)), .imm (encC (stArea (rS t) z1, z1)), .imm (encC (stArea (rS t) z2, z2)), .any, .any, .any, .any, .any]) (sd_par (ad_cons (c__law_best (g := true) (b := (stArea (rS t) z1, z1)) (ed_var rfl) ed_int ⟨hcand, y1⟩) (ad_cons (c__law_best (g := false) (b := (stArea (rS t) z2, z2)) (ed_var rfl) (ed_neg ed_int) ⟨hcand, y2⟩) ad_nil))) (
      sd_then (e1 := [.tub (r4 t).1 (r4 t).2.1 (r4 t).2.2, .imm (encS (rS t)), .imm (encR (area (rS t))), .imm (encP (rW t)), .imm (encP (rP t)), .imm (encU (rU t)), .imm (.list (((lawStands (rS t) (rP t)).map fun s => (stArea (rS t) s, s)).map encCl)), .imm (encC (stArea (rS t) z1, z1)), .imm (encC (stArea (rS t) z2, z2)), .imm (.list [encC (stArea (rS t) z1, z1), encC (stArea (rS t) z2, z2)]), .any, .any, .any, .any]) (sd_set (ed_lst (ad_cons (ed_is (c_least_below (ed_var rfl) (ed_var rfl) ⟨hpl, hhv, hin⟩) (congrArg encB x1)) (ad_cons (ed_is (ed_callK (ed_var rfl) (ed_var rfl) ⟨rS t, rP t, ⟨hpl, hhv, hin⟩, rfl, rfl⟩) (congrArg encB x2)) ad_nil)))) (
      sd_then (e1 := [.tub (r4 t).1 (r4 t).2.1 (r4 t).2.2, .imm (encS (rS t)), .imm (encR (area (rS t))), .imm (encP (rW t)), .imm (encP (rP t)), .imm (encU (rU t)), .imm (.list (((lawStands (rS t) (rP t)).map fun s => (stArea (rS t) s, s)).map encCl)), .imm (encC (stArea (rS t) z1, z1)), .imm (encC (stArea (rS t) z2, z2)), .imm (.list [encC (stArea (rS t) z1, z1), encC (stArea (rS t) z2, z2)]), .any, .any, .any, .any]) (sd_skip (td_is (td_or (b := false) (c := false) (td_is (td_test (ed_neS (ed_repr (ed_var rfl) w1 w2 w3 w4) (ed_repr (ed_lst (ad_cons (ed_var rfl) (ad_cons (ed_var rfl) ad_nil))) w1 w2 w3 w4))) ?q1) fun _ => td_is (td_test (ed_neD (c__law_plus (ed_ixT (ed_ixL (ed_var rfl) ed_int at0) ed_int at0) (ed_ixT (ed_ixL (ed_var rfl) ed_int at1) ed_int at0) ⟨sz1, sz2⟩) (ed_var rfl) rfl rfl)) ?q2) rfl)) (
      sd_then (e1 := [.tub (r5 t).1 (r5 t).2.1 (r5 t).2.2, .imm (encS (rS t)), .imm (encR (area (rS t))), .imm (encP (rW t)), .imm (encP (rP t)), .imm (encU (rU t)), .imm (.list (((lawStands (rS t) (rP t)).map fun s => (stArea (rS t) s, s)).map encCl)), .imm (encC (stArea (rS t) z1, z1)), .imm (encC (stArea (rS t) z2, z2)), .imm (.list [encC (stArea (rS t) z1, z1), encC (stArea (rS t) z2, z2)]), .imm (encR (stArea (rS t) z3)), .imm (encSt z3), .any, .any]) (sd_asg (ed_is (c__law_of (z := (true, [encC (stArea (rS t) z1, z1), encC (stArea (rS t) z2, z2)])) (t := r4 t) (u := r4 t) (i := 0) rfl (ed_var rfl) rfl ⟨o4.mono (by decide), by show 0 < 2; decide, by show 2 < 1000; decide⟩) ez3) (gd_tup (gds_cons gd_name (gds_cons gd_name gds_nil)))) (
      sd_then (e1 := [.tub (r5 t).1 (r5 t).2.1 (r5 t).2.2, .imm (encS (rS t)), .imm (encR (area (rS t))), .imm (encP (rW t)), .imm (encP (rP t)), .imm (encU (rU t)), .imm (.list (((lawStands (rS t) (rP t)).map fun s => (stArea (rS t) s, s)).map encCl)), .imm (encC (stArea (rS t) z1, z1)), .imm (encC (stArea (rS t) z2, z2)), .imm (.list [encC (stArea (rS t) z1, z1), encC (stArea (rS t) z2, z2)]), .imm (encR (stArea (rS t) z3)), .imm (encSt z3), .any, .any]) (sd_skip (td_is (td_or (b := false) (c := false) (td_is (td_test (ed_neD (c_area_of_stand (ed_var rfl) (ed_var rfl) ⟨hpl, s3.ok hg h8, c3.a0, c3.a1, c3.b0, c3.b1, c3.apart hin⟩) (ed_var rfl) rfl rfl)) ?q3) fun _ => td_is (td_test (ed_neS (c_wetness (ed_var rfl) (ed_var rfl) (ed_var rfl) ⟨hpl, s3.ok hg h8, c3.a0, c3.a1, c3.b0, c3.b1, c3.apart hin, hpm.mono (by decide), c3.level⟩) ed_str)) ?q4) rfl)) (
      sd_then (e1 := [.tub (r5 t).1 (r5 t).2.1 (r5 t).2.2, .imm (encS (rS t)), .imm (encR (area (rS t))), .imm (encP (rW t)), .imm (encP (rP t)), .imm (encU (rU t)), .imm (.list (((lawStands (rS t) (rP t)).map fun s => (stArea (rS t) s, s)).map encCl)), .imm (encC (stArea (rS t) z1, z1)), .imm (encC (stArea (rS t) z2, z2)), .imm (.list [encC (stArea (rS t) z1, z1), encC (stArea (rS t) z2, z2)]), .imm (encR (areaUp (rS t) (rU t) (lev (rU t) (rP t)))), .imm (encSt z3), .any, .any]) (sd_set (c_area_below (ed_var rfl) (ed_var rfl) (c_height_of (u := rU t) (p := rP t) (ed_var rfl) (ed_var rfl) ⟨hu20.1.mono (by decide), hu20.2.mono (by decide), hu1, hpm.mono (by decide)⟩) ⟨hpl, hu1, lv_ok hg hpm5 hu20, ?q5⟩)) (
      sd_then (e1 := [.tub (r5 t).1 (r5 t).2.1 (r5 t).2.2, .imm (encS (rS t)), .imm (encR (area (rS t))), .imm (encP (rW t)), .imm (encP (rP t)), .imm (encU (rU t)), .imm (.list (((lawStands (rS t) (rP t)).map fun s => (stArea (rS t) s, s)).map encCl)), .imm (encC (stArea (rS t) z1, z1)), .imm (encC (stArea (rS t) z2, z2)), .imm (.list [encC (stArea (rS t) z1, z1), encC (stArea (rS t) z2, z2)]), .imm (encR (areaUp (rS t) (rU t) (lev (rU t) (rP t)))), .imm (encSt z3), .any, .any]) (sd_skip (td_is (td_or (b := false) (c := false) (td_is (td_B (c__law_under (ed_var rfl) (ed_ixT (ed_var rfl) ed_int at0) ⟨szL, sz1⟩)) ?q6) fun _ => td_is (td_B (c__law_under (ed_ixT (ed_var rfl) ed_int at0) (ed_var rfl) ⟨sz2, szL⟩)) ?q7) rfl)) (
      sd_leave (e1 := [.tub (r6 t).1 (r6 t).2.1 (r6 t).2.2, .imm (encS (rS t)), .imm (encR (area (rS t))), .imm (encP (rW t)), .imm (encP (rP t)), .imm (encU (rU t)), .imm (.list (((lawStands (rS t) (rP t)).map fun s => (stArea (rS t) s, s)).map encCl)), .imm (encC (stArea (rS t) z1, z1)), .imm (encC (stArea (rS t) z2, z2)), .imm (.list [encC (stArea (rS t) z1, z1), encC (stArea (rS t) z2, z2)]), .imm (encR (areaUp (rS t) (rU t) (lev (rU t) (rP t)))), .imm (encSt z3), .any, .any]) (td_test (ed_gt (c__law_dip (t := r5 t) (u := r5 t) (k := 3) (i := 0) rfl ed_int rfl ⟨o5.mono (by decide), by decide, by decide⟩) ed_int)) (fun _ => sd_ret ed_bl ⟨rfl, rfl⟩) (fun _ =>
      sd_then (e1 := [.tub (r6 t).1 (r6 t).2.1 (r6 t).2.2, .imm (encS (rS t)), .imm (encR (area (rS t))), .imm (encP (rW t)), .imm (encP (rP t)), .imm (encU (rU t)), .imm (.list (((lawStands (rS t) (rP t)).map fun s => (stArea (rS t) s, s)).map encCl)), .imm (encC (stArea (rS t) z1, z1)), .imm (encC (stArea (rS t) z2, z2)), .imm (.list [encC (stArea (rS t) z1, z1), encC (stArea (rS t) z2, z2)]), .imm (encR (areaUp (rS t) (rU t) (lev (rU t) (rP t)))), .imm (encSt z3), .imm (encC (stArea (rS t) z1, z1)), .any]) (sd_set (ed_is (c_least_below (c_moved (ed_var rfl) (ed_var rfl) ⟨hpl, hvp.mono (by decide)⟩) (c__law_joined (ed_var rfl) (ed_var rfl) ⟨hpm.mono (by decide), hvp.mono (by decide)⟩) ⟨pm, hhm, hinm⟩) (congrArg encB xm))) (
      sd_ret (ed_is (ed_and (ed_eqD (ed_ixT (ed_var rfl) ed_int at0) (ed_ixT (ed_var rfl) ed_int at0) rfl rfl) fun _ => ed_eqD (ed_lcM (l := [z1.1, z1.2]) (f := encRim) (fun r : Rim => encR r.2) (id_seqT (ed_ixT (ed_var rfl) ed_int at1)) (by rfl) (by show 2 ≤ 1000; decide) (fun r hr => ⟨_, [13], fun j h => h, gd_name, ed_ixT (ed_var rfl) ed_int at1⟩)) (ed_lcM (l := [z1.1, z1.2]) (f := encRim) (fun r : Rim => encR r.2) (id_seqT (ed_ixT (ed_var rfl) ed_int at1)) (by rfl) (by show 2 ≤ 1000; decide) (fun r hr => ⟨_, [13], fun j h => h, gd_name, ed_ixT (ed_var rfl) ed_int at1⟩)) rfl rfl) ?q8) ⟨rfl, rfl⟩)))))))))))))
    case q1 => rw [beq_self_eq_true]; rfl
    case q2 => rw [eqvR, hboth, decide_eq_true rfl]; rfl
    case q3 => rw [eqvR, decide_eq_true rfl]; rfl
    case q4 => rfl
    case q5 =>
      intro z hz
      rw [eL] at hz
      cases hz
      exact sL.ok hg h8
    case q6 => exact decide_eq_false (by rw [eA]; show ¬ stArea (rS t) (l, r) < stArea (rS t) z1; grind)
    case q7 => exact decide_eq_false (by rw [eA]; show ¬ stArea (rS t) z2 < stArea (rS t) (l, r); grind)
    case q8 =>
      have e0 : PyData.eqv (encR (stArea (rS t) z1)) (encR (stArea (rS t) z1)) = true := by rw [eqvR, decide_eq_true rfl]
      have e1 : ∀ a b : Rat, PyData.eqv (.list [encR a, encR b]) (.list [encR a, encR b]) = true := fun a b => by
        have ea : PyData.eqv (encR a) (encR a) = true := by rw [eqvR, decide_eq_true rfl]
        have eb : PyData.eqv (encR b) (encR b) = true := by rw [eqvR, decide_eq_true rfl]
        simp only [PyData.eqv, PyData.eqvAll] at ea eb ⊢
        simp [ea, eb]
      show PyData.bool (PyData.eqv (encR (stArea (rS t) z1)) (encR (stArea (rS t) z1)) && PyData.eqv (.list [encR z1.1.2, encR z1.2.2]) (.list [encR z1.1.2, encR z1.2.2])) = _
      rw [e0, e1]
      rfl
end
end Hull
namespace Hull
open PySem PySem.Spec PyProof.Rows L2
/-! what the top leaves -/
def prL0 : List (Str × Nat) := [("is_whole", 2), ("are_wholes", 3), ("is_between", 4), ("divisor_of", 5), ("is_reduced", 6), ("multiple_of", 7), ("sign_of", 8), ("is_ratio", 12), ("ratio", 13), ("ratio_less", 14), ("ratio_over", 15), ("is_lower", 16), ("is_share", 17), ("is_vector", 19), ("is_pointing", 20), ("vector", 21), ("vector_sum", 22), ("vector_less", 23), ("vector_times", 24), ("vector_between", 25)]
def prL1 : List (Str × Nat) := [("cross_of", 26), ("level_of", 27), ("turn_of", 28), ("edge_way", 30), ("is_rim", 31), ("rim_point", 32), ("rim_to", 33), ("share_between", 34), ("rim_at", 35), ("edges_at", 36), ("is_line", 37), ("comes_first", 38), ("on_grid", 41), ("bends_left", 42), ("bend_chain", 43), ("hull", 44), ("is_shape", 45), ("is_plate", 46), ("next_corner", 47), ("has_inside", 48)]
def prL2 : List (Str × Nat) := [("crosses", 49), ("plate_area", 50), ("chord_ends", 52), ("passed_corners", 53), ("points_below", 54), ("stand_area", 55), ("crossing", 56), ("line_of", 57), ("area_up_to", 58), ("check_point", 68), ("check_fraction", 69), ("check_up", 70), ("check_section", 71), ("check_stand", 72), ("across_point", 74), ("halved_stands", 75), ("is_better", 76), ("extreme_below", 77), ("wetness", 80), ("check_inner", 81)]
def prL3 : List (Str × Nat) := [("least_below", 82), ("greatest_below", 83), ("height_of", 85), ("area_below", 86), ("area_of_stand", 87), ("moved", 89), ("_law_tub", 91), ("_law_dip", 92), ("_law_of", 93), ("_law_about", 94), ("_law_gcd", 95), ("_law_cut", 96), ("_law_part", 97), ("_law_plus", 98), ("_law_less", 99), ("_law_mul", 100), ("_law_over", 101), ("_law_sign", 102), ("_law_under", 103), ("_law_spot", 104)]
def prL4 : List (Str × Nat) := [("_law_xy", 105), ("_law_way", 106), ("_law_joined", 107), ("_law_long", 108), ("_law_along", 109), ("_law_cross", 110), ("_law_quarter", 111), ("_law_sense", 112), ("_law_ordered", 113), ("_law_hull", 114), ("_law_point", 115), ("_law_section", 116), ("_law_tri", 117), ("_law_size", 118), ("_law_middle", 119), ("_law_on", 120), ("_law_told", 121), ("_law_passed", 122), ("_law_wet", 123), ("_law_before", 124)]
def prL5 : List (Str × Nat) := [("_law_up", 125), ("_law_exit", 126), ("_law_halved", 127), ("_law_belows", 128), ("_law_best", 129), ("_law_inside", 130), ("_law_right", 131), ("law", 132)]
def prL : List (Str × Nat) := prL0 ++ prL1 ++ prL2 ++ prL3 ++ prL4 ++ prL5
theorem fn_pr : fnL = prL.map fun p => mkD p.1 p.2 := rfl
def topName (i : Nat) : Option Str := match top i with
  | .FunctionDef n _ _ _ _ _ _ _ _ _ => some n
  | _ => none
def inPr (i : Nat) : Bool := match topName i with
  | some n => prL.any fun p => decide (p.1 = n) && decide (p.2 = i)
  | none => true
theorem all_pr : (List.range 133).all inPr = true := by decide +kernel
theorem top_len : PySem.Challenge.pw_hullrests_k81_whole_least_and_greatest_b.main.body.length = 133 := by decide +kernel
theorem topName_lt {i : Nat} {n : Str} (h : topName i = some n) : i < 133 := by
  rcases Nat.lt_or_ge i 133 with q | q
  · exact q
  · unfold topName top at h
    rw [List.getD_eq_getElem?_getD, List.getElem?_eq_none (by rw [top_len]; exact q)] at h
    cases h
theorem pr_mem {x : Str} {i : Nat} (h : topName i = some x) : (x, i) ∈ prL := by
  have h2 := List.all_eq_true.mp all_pr i (List.mem_range.mpr (topName_lt h))
  unfold inPr at h2
  rw [h] at h2
  obtain ⟨p, hp, hq⟩ := List.any_eq_true.mp h2
  obtain ⟨q1, q2⟩ := Bool.and_eq_true_iff.mp hq
  have e : p = (x, i) := Prod.ext (of_decide_eq_true q1) (of_decide_eq_true q2)
  exact e ▸ hp
theorem pr_of {x : Str} {i : Nat} (h : topName i = some x) : mkD x i ∈ fnL := by
  rw [fn_pr]
  exact List.mem_map.mpr ⟨(x, i), pr_mem h, rfl⟩
theorem top_df {x : Str} {i : Nat} (h : (match top i with | .FunctionDef n _ _ _ _ _ _ _ _ _ => decide (n = x) | _ => false) = true) : topName i = some x := by
  unfold topName
  split at h
  · exact congrArg some (of_decide_eq_true h)
  · cases h
def inFa (x : Str) : Bool := (List.range 131).any fun k => match faL[k]? with
  | some (.glo y) => decide (y = x)
  | _ => false
theorem all_fa : prL.all (fun p => inFa p.1) = true := by decide +kernel
theorem fa_of {K : Frag} {h : Heap} {mg : Str → Option Value} {x : Str} (X : K.In h) (G : h.Ns mainGlobals mg) (c : He.SaysD faL fnL K) (hg : inFa x = true) : mg x = some (.ref (He.ga K x)) := by
  obtain ⟨k, _, hk⟩ := List.any_eq_true.mp hg
  split at hk
  · rename_i y e
    have ey := of_decide_eq_true hk
    subst ey
    exact He.glo_ok X G (c.fact k (f := .glo y) e)
  · cases hk
theorem top_of {w : World} {K : Frag} {h : Heap} {mg : Str → Option Value} (X : K.In h) (G : h.Ns mainGlobals mg) (s : He.SaysX faL fnL [] [] exB w h K) : Top K mg ∧ TopW K mg := by
  have c : He.SaysD faL fnL K := congrArg (fun z : He.AlT => z.1) s.t
  obtain ⟨x0, x1⟩ := Bool.and_eq_true_iff.mp s.more
  obtain ⟨x1, x2⟩ := Bool.and_eq_true_iff.mp x1
  obtain ⟨x2, x3⟩ := Bool.and_eq_true_iff.mp x2
  have glo : ∀ (i : Nat) (x : Str), faL[i]? = some (.glo x) → mg x = some (.ref (He.ga K x)) := fun i x q => He.glo_ok X G (c.fact i (f := .glo x) q)
  refine ⟨⟨fun x i q => ?_, fun x hx => ?_, ?_, ⟨_, glo 125 "ZERO" rfl, fun H => He.tupB_ok x0 H⟩, ⟨_, glo 126 "ONE" rfl, fun H => He.tupB_ok x1 H⟩, ?_⟩, ?_⟩
  · have hn := top_df q
    obtain ⟨fd, F⟩ := c.defs (pr_of hn)
    exact ⟨_, fd, F, fa_of X G c (List.all_eq_true.mp all_fa (x, i) (pr_mem hn))⟩
  · simp only [List.mem_cons, List.not_mem_nil, or_false] at hx
    rcases hx with rfl | rfl | rfl | rfl | rfl | rfl | rfl | rfl | rfl | rfl | rfl | rfl | rfl | rfl | rfl | rfl
    · exact He.free_ok X G (c.fact 116 (f := .free "isinstance") rfl)
    · exact He.free_ok X G (c.fact 123 (f := .free "tuple") rfl)
    · exact He.free_ok X G (c.fact 115 (f := .free "int") rfl)
    · exact He.free_ok X G (c.fact 112 (f := .free "bool") rfl)
    · exact He.free_ok X G (c.fact 117 (f := .free "len") rfl)
    · exact He.free_ok X G (c.fact 110 (f := .free "all") rfl)
    · exact He.free_ok X G (c.fact 111 (f := .free "any") rfl)
    · exact He.free_ok X G (c.fact 109 (f := .free "abs") rfl)
    · exact He.free_ok X G (c.fact 122 (f := .free "sum") rfl)
    · exact He.free_ok X G (c.fact 121 (f := .free "sorted") rfl)
    · exact He.free_ok X G (c.fact 120 (f := .free "set") rfl)
    · exact He.free_ok X G (c.fact 118 (f := .free "range") rfl)
    · exact He.free_ok X G (c.fact 114 (f := .free "enumerate") rfl)
    · exact He.free_ok X G (c.fact 124 (f := .free "zip") rfl)
    · exact He.free_ok X G (c.fact 119 (f := .free "repr") rfl)
    · exact He.free_ok X G (c.fact 113 (f := .free "divmod") rfl)
  · unfold gcdB at x2
    split at x2
    · rename_i n e
      have := PySem.W.mg_of X G e
      rw [of_decide_eq_true x2] at this
      exact this
    · cases x2
  · exact He.int_ok X G (c.fact 127 (f := .int "MOST_EDGES" 8) rfl)
  · unfold wetB at x3
    split at x3
    · rename_i o e
      exact ⟨_, glo 128 "WETNESS" rfl, wetO_ok e x3⟩
    · cases x3
section
variable {P : Program} {w : World} {K : Frag} {mg : Str → Option Value} {base : Heap}
theorem ok_law {f : Addr} {fd : FuncData} (D__law_tub : DD__law_tub P w K mg base) (D__law_right : DG__law_right P w K mg base) (F : FnP K "law" (top 132) f fd) (hm : mg "law" = some (.ref f)) : FnG P w K mg base 12 f fd ["_law_script"] (spL K 63) := by
  have sc : FnScope ["_law_script"] ["_law_script"] (defScope (top 132)) := ⟨rfl, rfl, rfl, by decide +kernel, rfl, by decide +kernel, by decide +kernel⟩
  refine defG_ofL F hm sc (fun _ _ _ _ _ _ us hl => match us, hl with | [_], _ => rfl) (fun cdv A outer s H ns hr hqd hn => ?_)
  have hr1 := hr.mono (j := 1) (by decide)
  have hr11 := hr.mono (j := 11) (by decide)
  refine ⟨_, (pss_one (ps_ret (pe_defG D__law_right hr11 hqd (by rfl) (pa_cons (pe_def D__law_tub hr1 (by rfl) (pa_cons (pv 0) (pa_cons pe_int pa_nil))) pa_nil)))), ?_⟩
  show SD K _ [.scr ns] _ _ _ _
  exact sd_retD (ed_callTF (a := (tubOf ns).1) (b := (tubOf ns).2.1) (c := (tubOf ns).2.2) (edm_callX rfl (ad_cons ed_int ad_nil) ⟨by omega, rfl, rfl⟩) ⟨tubOf_ok ns, rfl, rfl, rfl⟩)
theorem law_all {f : Addr} {fd : FuncData} (T : Top K mg) (TW : TopW K mg) (F : FnP K "law" (top 132) f fd) (hm : mg "law" = some (.ref f)) : FnG P w K mg base 12 f fd ["_law_script"] (spL K 63) := by
  have hDD__law_tub : DD__law_tub P w K mg base := ok__law_tub T 
  have hDD_sign_of : DD_sign_of P w K mg base := ok_sign_of T 
  have hDD_turn_of : DD_turn_of P w K mg base := ok_turn_of T hDD_sign_of
  have hDD_divisor_of : DD_divisor_of P w K mg base := ok_divisor_of T 
  have hDD_vector : DD_vector P w K mg base := ok_vector T hDD_divisor_of
  have hDD_vector_sum : DD_vector_sum P w K mg base := ok_vector_sum T hDD_vector
  have hDD_vector_less : DD_vector_less P w K mg base := ok_vector_less T hDD_vector
  have hDD_vector_times : DD_vector_times P w K mg base := ok_vector_times T hDD_vector
  have hDD_vector_between : DD_vector_between P w K mg base := ok_vector_between T hDD_vector_sum hDD_vector_less hDD_vector_times
  have hDD_rim_point : DD_rim_point P w K mg base := ok_rim_point T hDD_vector_between
  have hDD_chord_ends : DD_chord_ends P w K mg base := ok_chord_ends T hDD_rim_point
  have hDD_is_whole : DD_is_whole P w K mg base := ok_is_whole T 
  have hDD_are_wholes : DD_are_wholes P w K mg base := ok_are_wholes T hDD_is_whole
  have hDD_is_reduced : DD_is_reduced P w K mg base := ok_is_reduced T hDD_divisor_of
  have hDD_is_vector : DD_is_vector P w K mg base := ok_is_vector T hDD_are_wholes hDD_is_reduced
  have hDD_check_point : DD_check_point P w K mg base := ok_check_point T hDD_is_vector
  have hDD_multiple_of : DD_multiple_of P w K mg base := ok_multiple_of T hDD_divisor_of
  have hDD_on_grid : DD_on_grid P w K mg base := ok_on_grid T hDD_multiple_of
  have hDD_bends_left : DD_bends_left P w K mg base := ok_bends_left T 
  have hDD_bend_chain : DD_bend_chain P w K mg base := ok_bend_chain T hDD_bends_left
  have hDD_hull : DD_hull P w K mg base := ok_hull T hDD_vector hDD_on_grid hDD_bend_chain
  have hDD_is_shape : DD_is_shape P w K mg base := ok_is_shape T hDD_is_vector hDD_hull
  have hDD_is_plate : DD_is_plate P w K mg base := ok_is_plate T hDD_is_shape
  have hDD_check_section : DD_check_section P w K mg base := ok_check_section T hDD_is_plate
  have hDD_is_between : DD_is_between P w K mg base := ok_is_between T hDD_is_whole
  have hDD_is_ratio : DD_is_ratio P w K mg base := ok_is_ratio T hDD_are_wholes hDD_is_reduced
  have hDD_is_share : DD_is_share P w K mg base := ok_is_share T hDD_is_ratio
  have hDD_is_rim : DD_is_rim P w K mg base := ok_is_rim T hDD_is_between hDD_is_share
  have hDD_edges_at : DD_edges_at P w K mg base := ok_edges_at T 
  have hDD_is_line : DD_is_line P w K mg base := ok_is_line T hDD_is_rim hDD_edges_at
  have hDD_check_stand : DD_check_stand P w K mg base := ok_check_stand T hDD_is_line
  have hDD_wetness : DD_wetness P w K mg base := ok_wetness T TW hDD_turn_of hDD_chord_ends hDD_check_point hDD_check_section hDD_check_stand
  have hDD_ratio : DD_ratio P w K mg base := ok_ratio T hDD_divisor_of
  have hDD_crosses : DD_crosses P w K mg base := ok_crosses T 
  have hDD_plate_area : DD_plate_area P w K mg base := ok_plate_area T hDD_ratio hDD_on_grid hDD_crosses
  have hDD_passed_corners : DD_passed_corners P w K mg base := ok_passed_corners T 
  have hDD_points_below : DD_points_below P w K mg base := ok_points_below T hDD_chord_ends hDD_passed_corners
  have hDD_stand_area : DD_stand_area P w K mg base := ok_stand_area T hDD_plate_area hDD_points_below
  have hDD_share_between : DD_share_between P w K mg base := ok_share_between T hDD_ratio
  have hDD_rim_at : DD_rim_at P w K mg base := ok_rim_at T hDD_is_share hDD_turn_of hDD_share_between
  have hDD_ratio_over : DD_ratio_over P w K mg base := ok_ratio_over T hDD_ratio
  have hDD_is_lower : DD_is_lower P w K mg base := ok_is_lower T 
  have hDD_cross_of : DD_cross_of P w K mg base := ok_cross_of T hDD_ratio
  have hDD_edge_way : DD_edge_way P w K mg base := ok_edge_way T hDD_vector_less
  have hDD_rim_to : DD_rim_to P w K mg base := ok_rim_to T 
  have hDD_across_point : DD_across_point P w K mg base := ok_across_point T hDD_ratio_over hDD_is_lower hDD_vector_less hDD_vector_times hDD_cross_of hDD_edge_way hDD_rim_to
  have hDD_halved_stands : DD_halved_stands P w K mg base := ok_halved_stands T hDD_vector_less hDD_vector_times hDD_rim_at hDD_across_point
  have hDD_comes_first : DD_comes_first P w K mg base := ok_comes_first T hDD_is_lower
  have hDD_is_better : DD_is_better P w K mg base := ok_is_better T hDD_is_lower hDD_comes_first
  have hDD_extreme_below : DD_extreme_below P w K mg base := ok_extreme_below T hDD_stand_area hDD_halved_stands hDD_is_better
  have hDD_next_corner : DD_next_corner P w K mg base := ok_next_corner T 
  have hDD_has_inside : DD_has_inside P w K mg base := ok_has_inside T hDD_turn_of hDD_next_corner
  have hDD_check_inner : DD_check_inner P w K mg base := ok_check_inner T hDD_has_inside hDD_check_point hDD_check_section
  have hDD_least_below : DD_least_below P w K mg base := ok_least_below T hDD_extreme_below hDD_check_inner
  have hDK_greatest_below : DK_greatest_below P w K mg base := okK_greatest_below T hDD_extreme_below hDD_check_inner
  have hDD_level_of : DD_level_of P w K mg base := ok_level_of T hDD_ratio
  have hDD_is_pointing : DD_is_pointing P w K mg base := ok_is_pointing T hDD_are_wholes hDD_is_reduced
  have hDD_check_up : DD_check_up P w K mg base := ok_check_up T hDD_is_pointing
  have hDD_height_of : DD_height_of P w K mg base := ok_height_of T hDD_level_of hDD_check_point hDD_check_up
  have hDD_ratio_less : DD_ratio_less P w K mg base := ok_ratio_less T hDD_ratio
  have hDD_crossing : DD_crossing P w K mg base := ok_crossing T hDD_ratio hDD_ratio_less hDD_rim_to
  have hDD_line_of : DD_line_of P w K mg base := ok_line_of T hDD_is_lower hDD_level_of hDD_crossing
  have hDD_area_up_to : DD_area_up_to P w K mg base := ok_area_up_to T hDD_is_lower hDD_level_of hDD_plate_area hDD_stand_area hDD_line_of
  have hDD_check_fraction : DD_check_fraction P w K mg base := ok_check_fraction T hDD_is_ratio
  have hDD_area_below : DD_area_below P w K mg base := ok_area_below T hDD_area_up_to hDD_check_fraction hDD_check_up hDD_check_section
  have hDD_area_of_stand : DD_area_of_stand P w K mg base := ok_area_of_stand T hDD_stand_area hDD_check_section hDD_check_stand
  have hDD_moved : DD_moved P w K mg base := ok_moved T hDD_vector_sum hDD_check_point hDD_check_section
  have hDD__law_dip : DD__law_dip P w K mg base := ok__law_dip T 
  have hDD__law_of : DD__law_of P w K mg base := ok__law_of T hDD__law_dip
  have hDD__law_gcd : DD__law_gcd P w K mg base := ok__law_gcd T 
  have hDD__law_cut : DD__law_cut P w K mg base := ok__law_cut T hDD__law_gcd
  have hDD__law_part : DD__law_part P w K mg base := ok__law_part T hDD__law_cut
  have hDD__law_plus : DD__law_plus P w K mg base := ok__law_plus T hDD__law_part
  have hDD__law_under : DD__law_under P w K mg base := ok__law_under T 
  have hDD__law_joined : DD__law_joined P w K mg base := ok__law_joined T hDD__law_cut
  have hDD__law_about : DD__law_about P w K mg base := ok__law_about T hDD__law_dip
  have hDD__law_point : DD__law_point P w K mg base := ok__law_point T hDD__law_of hDD__law_about hDD__law_cut
  have hDD__law_sign : DD__law_sign P w K mg base := ok__law_sign T 
  have hDD__law_way : DD__law_way P w K mg base := ok__law_way T hDD__law_cut
  have hDD__law_cross : DD__law_cross P w K mg base := ok__law_cross T hDD__law_part
  have hDD__law_sense : DD__law_sense P w K mg base := ok__law_sense T hDD__law_sign hDD__law_way hDD__law_cross
  have hDD__law_ordered : DD__law_ordered P w K mg base := ok__law_ordered T hDD__law_gcd hDD__law_cut
  have hDD__law_hull : DD__law_hull P w K mg base := ok__law_hull T hDD__law_sense hDD__law_ordered
  have hDD__law_section : DD__law_section P w K mg base := ok__law_section T hDD__law_dip hDD__law_of hDD__law_about hDD__law_cut hDD__law_joined hDD__law_hull hDD__law_point
  have hDD__law_mul : DD__law_mul P w K mg base := ok__law_mul T hDD__law_part
  have hDD__law_tri : DD__law_tri P w K mg base := ok__law_tri T hDD__law_way hDD__law_cross
  have hDD__law_size : DD__law_size P w K mg base := ok__law_size T hDD__law_plus hDD__law_mul hDD__law_tri
  have hDD__law_quarter : DD__law_quarter P w K mg base := ok__law_quarter T 
  have hDD__law_up : DD__law_up P w K mg base := ok__law_up T hDD__law_dip hDD__law_of hDD__law_about hDD__law_cut hDD__law_way hDD__law_quarter
  have hDD__law_long : DD__law_long P w K mg base := ok__law_long T hDD__law_cut
  have hDD__law_along : DD__law_along P w K mg base := ok__law_along T hDD__law_way hDD__law_joined hDD__law_long
  have hDD__law_on : DD__law_on P w K mg base := ok__law_on T hDD__law_along
  have hDD__law_passed : DD__law_passed P w K mg base := ok__law_passed T hDD__law_under hDD__law_on
  have hDD__law_wet : DD__law_wet P w K mg base := ok__law_wet T hDD__law_passed
  have hDD__law_less : DD__law_less P w K mg base := ok__law_less T hDD__law_part
  have hDD__law_over : DD__law_over P w K mg base := ok__law_over T hDD__law_part
  have hDD__law_exit : DD__law_exit P w K mg base := ok__law_exit T hDD__law_less hDD__law_over hDD__law_tri
  have hDD__law_told : DD__law_told P w K mg base := ok__law_told T 
  have hDD__law_halved : DD__law_halved P w K mg base := ok__law_halved T hDD__law_over hDD__law_under hDD__law_way hDD__law_joined hDD__law_cross hDD__law_told
  have hDD__law_belows : DD__law_belows P w K mg base := ok__law_belows T hDD__law_size hDD__law_wet hDD__law_exit hDD__law_halved
  have hDD__law_before : DD__law_before P w K mg base := ok__law_before T hDD__law_under
  have hDD__law_best : DD__law_best P w K mg base := ok__law_best T hDD__law_before
  have hDD__law_spot : DD__law_spot P w K mg base := ok__law_spot T hDD__law_cut
  have hDD__law_xy : DD__law_xy P w K mg base := ok__law_xy T hDD__law_part
  have hDD__law_middle : DD__law_middle P w K mg base := ok__law_middle T hDD__law_plus hDD__law_mul hDD__law_over hDD__law_spot hDD__law_xy hDD__law_joined hDD__law_tri
  have hDD__law_inside : DD__law_inside P w K mg base := ok__law_inside T hDD__law_dip hDD__law_of hDD__law_part hDD__law_along hDD__law_middle
  have hDG__law_right : DG__law_right P w K mg base := ok__law_right T hDD_wetness hDD_least_below hDK_greatest_below hDD_height_of hDD_area_below hDD_area_of_stand hDD_moved hDD__law_dip hDD__law_of hDD__law_plus hDD__law_under hDD__law_joined hDD__law_point hDD__law_section hDD__law_size hDD__law_up hDD__law_belows hDD__law_best hDD__law_inside
  exact ok_law hDD__law_tub hDG__law_right F hm
/-- the call of the law, at what the top left -/
theorem law_call2 {mb : Str → Option Value} {k n : Nat} {fa a : Addr} {fd : FuncData} {x : Str} {s₁ : Shared} {vs : List Value} {ns : List Int} (KX : K.In s₁.heap) (hns : s₁.heap.Ns mainGlobals mg) (hb : s₁.heap.Ns builtinsNs mb)
    (hbb : ∀ x : Str, x ≠ "__name__" → mb x = bootBuiltins x) (hlim : s₁.heap.NoLimit) (hg : s₁.gens = #[]) (ha : s₁.heap.get? a = some { cls := .type "list", data := .seq vs.toArray }) (hi : IntsAre vs ns) (hl : ns.length ≤ sizeLine) (hn : ns.length ≤ n) (hr : Room k callerA)
    (F : ∀ base : Heap, FnG P w K mg base k fa fd [x] (spL K n)) (hbind : ∀ (s : Shared) (u : Value), BindsTo s fd ⟨[u], []⟩ [(x, u)]) :
    codeAny (model P w) callerA (.call (.ref fa) ⟨[.ref a], []⟩) (fun r s' => r = .ok (.ret (.bool true)) ∧ OldK s₁.heap s'.heap ∧ s'.os = s₁.os ∧ AllBare s'.gens) s₁ := by
  obtain ⟨H, hH, hS, hok⟩ : ∃ H : Hp, (∀ b u, H b = some u → b = a ∧ K.lookup a = none ∧ u = .frz { cls := .type "list", data := .seq vs.toArray } (.lst (ns.map V.int))) ∧ SqL K H a (ns.map V.int) ∧ HOk P w H s₁.heap := by
    have rv := vals_ints hi
    cases hk : K.lookup a with
    | some o =>
      have e := KX a o hk
      rw [ha] at e
      cases e
      exact ⟨fun _ => none, (fun b u z => nomatch z), .inr ⟨_, vs.toArray, _, hk, rfl, rfl, rfl, by rw [List.size_toArray, hi.length]; exact hl, by simpa using rv⟩, fun b u z => nomatch z⟩
    | none =>
      refine ⟨fun b => if b = a then some (.frz { cls := .type "list", data := .seq vs.toArray } (.lst (ns.map V.int))) else none, fun b u z => ?_, .inl (.inr ⟨_, if_pos rfl⟩), fun b u z => ?_⟩
      · by_cases q : b = a
        · exact ⟨q, rfl, (Option.some.inj ((if_pos q).symm.trans z)).symm⟩
        · cases (if_neg q).symm.trans z
      · by_cases q : b = a
        · have z2 := Option.some.inj ((if_pos q).symm.trans z)
          subst q z2
          exact ⟨ha, by rw [List.length_map]; exact hl, vs, _, rv, ha⟩
        · cases (if_neg q).symm.trans z
  have free : ∀ {b : Addr} {o : Obj}, s₁.heap.get? b = some o → (b = a → K.lookup a = none → False) → H b = none := fun {b o} e q => by
    cases z : H b with
    | none => rfl
    | some u => exact (q (hH b u z).1 (hH b u z).2.1).elim
  have ns2 : ∀ {b : Addr} {m : Str → Option Value}, s₁.heap.Ns b m → (hidT s₁.heap H).Ns b m := fun {b m} ⟨o, es, ep, e, d, r⟩ => ⟨o, es, ep, hidT_get e (free e fun q _ => by
    rw [q, ha] at e
    cases e
    cases d), d, r⟩
  have hkb : K.In (hidT s₁.heap H) := fun b o e => hidT_get (KX b o e) (free (KX b o e) fun q z => by rw [q, z] at e; cases e)
  obtain ⟨mc, l1, l2⟩ := hlim
  have e0 : Env0 P w K mg (hidT s₁.heap H) callerA [] s₁ H := ⟨rfl, ⟨hkb, ns2 hns, ⟨mb, ns2 hb, hbb⟩, ⟨mc, ns2 l1, l2⟩⟩, fun b o e => of_hidT e, Nat.le_of_eq (hidT_size _ _), trivial, (fun b z => nomatch z), hok, .of_eq hg⟩
  refine codeAny_mono ((F _).run callerA [] s₁ H ⟨[.ref a], []⟩ [.ref a] [.ref a] (fun v _ => v = .bl true) hr rfl e0 (hbind s₁ (.ref a)) (.cons rfl .nil) ⟨a, ns, rfl, hS, hn, fun _ => rfl⟩) fun r s' z => ?_
  match r, z with
  | .ok (.ret u), ⟨v, H', os, bare, un, hok', rv, q⟩ =>
    subst q
    have eu : u = Value.bool true := rv
    subst eu
    refine ⟨rfl, OldK.of_keep fun b o e => ?_, os, bare⟩
    cases q : H b with
    | none => exact un.keep b o e q (fun z => nomatch z) (fun z => nomatch z)
    | some u =>
      obtain ⟨_, _, eu⟩ := hH b u q
      subst eu
      have k1 := (hok b _ q).1
      rw [e] at k1
      cases k1
      exact (hok' b _ (un.frzs b _ _ q)).1
  | .ok .next, z => exact False.elim z
  | .ok .brk, z => exact False.elim z
  | .ok .cont, z => exact False.elim z
  | .error e, z => exact False.elim z
end
end Hull
set_option maxHeartbeats 0
open PySem PySem.W PySem.Calls PyProof.Rows
theorem PySem.Challenge.cw_hullrests_k81_whole_least_and_greatest_b_holds : PySem.Challenge.rw_hullrests_k81_whole_least_and_greatest_b.Holds := by
  refine Hull.holds_if (Att.attach_call (l := PySem.Challenge.rw_hullrests_k81_whole_least_and_greatest_b) (n := 63) rfl Hull.lawD_dfl fun w s₀ s₁ mg mb fa o pm cd doc a vs ns G Y ho hd hcd hmg hobj hints hlen hg => ?_)
  obtain ⟨K, KX, c⟩ := Y
  rw [Hull.lawD_name] at hmg
  obtain ⟨T, TW⟩ := Hull.top_of KX G.T.g c
  obtain ⟨f, fd, F, hm⟩ := T.df "law" 132 (by decide +kernel)
  have e := hm.symm.trans hmg
  cases e
  have b := L2.FunD.bindsA (ps := ["_law_script"]) F fun _ _ _ _ _ _ us hl => match us, hl with | [_], _ => rfl
  exact Hull.law_call2 (k := 12) (n := 63) (x := "_law_script") KX G.T.g G.T.b G.T.builtins G.T.nolimit hg hobj hints (Nat.le_trans hlen (by decide)) hlen ⟨rfl, by decide, by decide⟩ (fun base => Hull.law_all T TW F hmg) (fun s u => b s [u] rfl)
