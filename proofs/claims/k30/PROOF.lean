import PyProof.Rows.All
import Wide.All
import OpenK.AllK
import Wide.FinOn
import HandS.ForMost
import HandS.Flow
import HandS.Style
import HandS.Wide
import HandS.Deep
import HandS.IsInst
import PySem.Challenge.RW_ullage_k30_whole_search_that_mends_page
set_option Elab.async false
set_option linter.all false
set_option maxRecDepth 100000
set_option maxHeartbeats 4000000
/-! DD, part 1: data, who owns what, the readings in data terms -/
namespace DD
open PySem PySem.Spec PyProof.Rows L2

abbrev D := PyData
abbrev US := Addr → Prop
abbrev Rho := List (Option D)
abbrev Own := Addr → Option Nat

/-! ### data in a heap whose cells U are somebody's own -/
mutual
inductive RD (K : PySem.W.Frag) (H : Hp) (U : US) : V → D → Prop
  | non : RD K H U .non .none
  | bl (b : Bool) : RD K H U (.bl b) (.bool b)
  | int (i : Int) : RD K H U (.int i) (.int i)
  | str (x : Str) : RD K H U (.str x) (.str x)
  | lst {a : Addr} {xs : List V} {ds : List D} : H a = some (.lst xs) → ¬ U a → RDs K H U xs ds → RD K H U (.ref a) (.list ds)
  | tup {a : Addr} {xs : List V} {ds : List D} : H a = some (.tup xs) → RDs K H U xs ds → RD K H U (.ref a) (.tuple ds)
inductive RDs (K : PySem.W.Frag) (H : Hp) (U : US) : List V → List D → Prop
  | nil : RDs K H U [] []
  | cons {v : V} {vs : List V} {d : D} {ds : List D} : RD K H U v d → RDs K H U vs ds → RDs K H U (v :: vs) (d :: ds)
end

structure Lat (H : Hp) (U : US) (H' : Hp) (U' : US) : Prop where
  fz : ∀ a o, H a = some o → ¬ U a → H' a = some o ∧ ¬ U' a
  im : ∀ a o, H a = some o → ¬ Mut (some o) → H' a = some o
theorem Lat.refl {H : Hp} {U : US} : Lat H U H U := ⟨fun _ _ h n => ⟨h, n⟩, fun _ _ h _ => h⟩
theorem Lat.trans {H H1 H2 : Hp} {U U1 U2 : US} (a : Lat H U H1 U1) (b : Lat H1 U1 H2 U2) : Lat H U H2 U2 :=
  ⟨fun x o h n => let ⟨h1, n1⟩ := a.fz x o h n; b.fz x o h1 n1, fun x o h n => b.im x o (a.im x o h n) n⟩
theorem Lat.weak {H : Hp} {U U' : US} (h : ∀ a, U' a → U a) : Lat H U H U' := ⟨fun _ _ e n => ⟨e, fun z => n (h _ z)⟩, fun _ _ e _ => e⟩
theorem Lat.same {H H' : Hp} {U U' : US} (s : Same H H') (h : ∀ a, U' a → U a) : Lat H U H' U' := ⟨fun _ _ e n => ⟨s _ _ e, fun z => n (h _ z)⟩, fun _ _ e _ => s _ _ e⟩

section
variable {K : PySem.W.Frag} {H H' : Hp} {U U' : US}
theorem SqT.lat {a : Addr} {xs : List V} (L : Lat H U H' U') (h : SqT K H a xs) : SqT K H' a xs := by
  rcases h with (h | ⟨o, h⟩) | h
  · exact .inl (.inl (L.im _ _ h fun z => z))
  · exact .inl (.inr ⟨o, L.im _ _ h fun z => z⟩)
  · exact .inr h
mutual
theorem RD.lat (L : Lat H U H' U') : ∀ (d : D) (v : V), RD K H U v d → RD K H' U' v d
  | .none, _, h => by cases h; exact .non
  | .bool _, _, h => by cases h; exact .bl _
  | .int _, _, h => by cases h; exact .int _
  | .str _, _, h => by cases h; exact .str _
  | .list ds, _, h => by
    cases h with
    | lst e n r => exact .lst (L.fz _ _ e n).1 (L.fz _ _ e n).2 (RDs.lat L ds _ r)
  | .tuple ds, _, h => by
    cases h with
    | tup e r => exact .tup (L.im _ _ e fun z => z) (RDs.lat L ds _ r)
  | .dict _, _, h => by cases h
theorem RDs.lat (L : Lat H U H' U') : ∀ (ds : List D) (vs : List V), RDs K H U vs ds → RDs K H' U' vs ds
  | [], _, h => by cases h; exact .nil
  | d :: ds, _, h => by
    cases h with
    | cons r rs => exact .cons (RD.lat L d _ r) (RDs.lat L ds _ rs)
end
mutual
theorem RD.dp : ∀ (d : D) (v : V), RD K H U v d → Dp K H v d
  | .none, _, h => by cases h; exact .non
  | .bool _, _, h => by cases h; exact .bl _
  | .int _, _, h => by cases h; exact .int _
  | .str _, _, h => by cases h; exact .str _
  | .list ds, _, h => by
    cases h with
    | lst e n r => exact .lst (.inl (.inl e)) (RDs.dp ds _ r)
  | .tuple ds, _, h => by
    cases h with
    | tup e r => exact .tup (.inl (.inl e)) (RDs.dp ds _ r)
  | .dict _, _, h => by cases h
theorem RDs.dp : ∀ (ds : List D) (vs : List V), RDs K H U vs ds → DpAll K H vs ds
  | [], _, h => by cases h; exact .nil
  | d :: ds, _, h => by
    cases h with
    | cons r rs => exact .cons (RD.dp d _ r) (RDs.dp ds _ rs)
end
mutual
def flat : D → Bool
  | .list _ => false
  | .dict _ => false
  | .tuple ds => flats ds
  | .none => true
  | .bool _ => true
  | .int _ => true
  | .str _ => true
def flats : List D → Bool
  | [] => true
  | d :: ds => flat d && flats ds
end
mutual
theorem RD.flat : ∀ (d : D) (v : V), flat d = true → RD K H U v d → RD K H U' v d
  | .none, _, _, h => by cases h; exact .non
  | .bool _, _, _, h => by cases h; exact .bl _
  | .int _, _, _, h => by cases h; exact .int _
  | .str _, _, _, h => by cases h; exact .str _
  | .list _, _, f, _ => by rw [DD.flat] at f; cases f
  | .tuple ds, _, f, h => by
    rw [DD.flat] at f
    cases h with
    | tup e r => exact .tup e (RDs.flat ds _ f r)
  | .dict _, _, f, _ => by rw [DD.flat] at f; cases f
theorem RDs.flat : ∀ (ds : List D) (vs : List V), flats ds = true → RDs K H U vs ds → RDs K H U' vs ds
  | [], _, _, h => by cases h; exact .nil
  | d :: ds, _, f, h => by
    rw [DD.flats, Bool.and_eq_true] at f
    cases h with
    | cons r rs => exact .cons (RD.flat d _ f.1 r) (RDs.flat ds _ f.2 rs)
end
theorem RDs.length {vs : List V} : ∀ {ds : List D}, RDs K H U vs ds → vs.length = ds.length := by
  induction vs with
  | nil => intro ds h; cases h; rfl
  | cons v vs ih => intro ds h; cases h with | cons r rs => simp [ih rs]
theorem RDs.get {vs : List V} : ∀ {ds : List D} {i : Nat} {d : D}, RDs K H U vs ds → ds[i]? = some d → ∃ v, vs[i]? = some v ∧ RD K H U v d := by
  induction vs with
  | nil => intro ds i d h e; cases h; simp at e
  | cons v vs ih =>
    intro ds i d h e
    cases h with
    | cons r rs =>
      cases i with
      | zero => simp at e; subst e; exact ⟨v, rfl, r⟩
      | succ i => exact ih rs (by simpa using e)
theorem RDs.append {vs : List V} : ∀ {ds : List D} {us : List V} {es : List D}, RDs K H U vs ds → RDs K H U us es → RDs K H U (vs ++ us) (ds ++ es) := by
  induction vs with
  | nil => intro ds us es h g; cases h; exact g
  | cons v vs ih => intro ds us es h g; cases h with | cons r rs => exact .cons r (ih rs g)
theorem RDs.take {vs : List V} : ∀ {ds : List D} (n : Nat), RDs K H U vs ds → RDs K H U (vs.take n) (ds.take n) := by
  induction vs with
  | nil => intro ds n h; cases h; simp; exact .nil
  | cons v vs ih =>
    intro ds n h
    cases h with
    | cons r rs =>
      cases n with
      | zero => exact .nil
      | succ n => exact .cons r (ih n rs)
theorem RDs.drop {vs : List V} : ∀ {ds : List D} (n : Nat), RDs K H U vs ds → RDs K H U (vs.drop n) (ds.drop n) := by
  induction vs with
  | nil => intro ds n h; cases h; simp; exact .nil
  | cons v vs ih =>
    intro ds n h
    cases h with
    | cons r rs =>
      cases n with
      | zero => exact .cons r rs
      | succ n => exact ih n rs
theorem RDs.set {vs : List V} : ∀ {ds : List D} (n : Nat) {v : V} {d : D}, RDs K H U vs ds → RD K H U v d → RDs K H U (vs.set n v) (ds.set n d) := by
  induction vs with
  | nil => intro ds n v d h _; cases h; exact .nil
  | cons v vs ih =>
    intro ds n w d h g
    cases h with
    | cons r rs =>
      cases n with
      | zero => exact .cons g rs
      | succ n => exact .cons r (ih n rs g)
theorem RDs.rev {vs : List V} : ∀ {ds : List D}, RDs K H U vs ds → RDs K H U vs.reverse ds.reverse := by
  induction vs with
  | nil => intro ds h; cases h; exact .nil
  | cons v vs ih => intro ds h; cases h with | cons r rs => rw [List.reverse_cons, List.reverse_cons]; exact (ih rs).append (.cons r .nil)
theorem RDs.dropLast {vs : List V} {ds : List D} (h : RDs K H U vs ds) : RDs K H U vs.dropLast ds.dropLast := by
  rw [List.dropLast_eq_take, List.dropLast_eq_take, h.length]
  exact h.take _
theorem RDs.erase {vs : List V} : ∀ {ds : List D} (n : Nat), RDs K H U vs ds → RDs K H U (vs.eraseIdx n) (ds.eraseIdx n) := by
  induction vs with
  | nil => intro ds n h; cases h; simp; exact .nil
  | cons v vs ih =>
    intro ds n h
    cases h with
    | cons r rs =>
      cases n with
      | zero => exact rs
      | succ n => exact .cons r (ih n rs)
theorem RDs.flat1 {vs : List V} {ds : List D} (n : Nat) (h : RDs K H U vs ds) : RDs K H U (List.replicate n vs).flatten (List.replicate n ds).flatten := by
  induction n with
  | zero => exact .nil
  | succ n ih => rw [List.replicate_succ, List.replicate_succ, List.flatten_cons, List.flatten_cons]; exact h.append ih
end

/-! ### kinds of slots -/
inductive Kd where
  | no | fz | o1 | o2 | sc | io
  deriving DecidableEq
def ownable : Kd → Bool
  | .o1 => true
  | .o2 => true
  | .io => true
  | _ => false
def T (U : US) (w : Own) : US := fun a => U a ∨ w a ≠ none
def KR (K : PySem.W.Frag) (H : Hp) (U : US) (w : Own) (i : Nat) : Kd → V → D → Prop
  | .no, _, _ => True
  | .fz, v, d => RD K H U v d
  | .o1, v, d => ∃ a xs ds, v = .ref a ∧ d = .list ds ∧ w a = some i ∧ H a = some (.lst xs) ∧ RDs K H U xs ds
  | .o2, v, d => ∃ (a : Addr) (as : List Addr) (dss : List (List D)), v = .ref a ∧ d = .list (dss.map .list) ∧ w a = some i ∧ H a = some (.lst (as.map .ref)) ∧ a ∉ as ∧ as.Nodup ∧ as.length = dss.length ∧
      ∀ (j : Nat) (b : Addr), as[j]? = some b → w b = some i ∧ ∃ xs ds, dss[j]? = some ds ∧ H b = some (.lst xs) ∧ RDs K H U xs ds
  | .sc, v, d => ∃ (a : Addr) (ns : List Int), v = .ref a ∧ d = .list (ns.map .int) ∧ ((∃ o, H a = some (.frz o (.lst (ns.map V.int)))) ∨ SqL K (fun _ => none) a (ns.map V.int))
  | .io, v, d => ∃ a xs ds, v = .ref a ∧ d = .list ds ∧ w a = some i ∧ H a = some (.lst xs) ∧ RDs K H U xs ds
section
variable {K : PySem.W.Frag} {H H' : Hp} {U U' : US} {w w' : Own} {i j : Nat} {v : V} {d : D}
theorem KR.mono {k : Kd} (L : Lat H U H' U') (kp : ∀ a, w a = some i → w' a = some j ∧ ∀ xs, H a = some (.lst xs) → H' a = some (.lst xs)) (h : KR K H U w i k v d) : KR K H' U' w' j k v d := by
  cases k with
  | no => trivial
  | fz => exact RD.lat L _ _ h
  | o1 =>
    obtain ⟨a, xs, ds, e1, e2, e3, e4, r⟩ := h
    exact ⟨a, xs, ds, e1, e2, (kp a e3).1, (kp a e3).2 _ e4, RDs.lat L _ _ r⟩
  | o2 =>
    obtain ⟨a, as, dss, e1, e2, e3, e4, n1, n2, el, r⟩ := h
    refine ⟨a, as, dss, e1, e2, (kp a e3).1, (kp a e3).2 _ e4, n1, n2, el, fun l b hb => ?_⟩
    obtain ⟨q1, xs, ds, q2, q3, q4⟩ := r l b hb
    exact ⟨(kp b q1).1, xs, ds, q2, (kp b q1).2 _ q3, RDs.lat L _ _ q4⟩
  | sc =>
    obtain ⟨a, ns, e1, e2, r⟩ := h
    refine ⟨a, ns, e1, e2, r.imp ?_ id⟩
    rintro ⟨o, e⟩
    exact ⟨o, L.im _ _ e fun z => z⟩
  | io =>
    obtain ⟨a, xs, ds, e1, e2, e3, e4, r⟩ := h
    exact ⟨a, xs, ds, e1, e2, (kp a e3).1, (kp a e3).2 _ e4, RDs.lat L _ _ r⟩
theorem RDs.lists {as : List Addr} : ∀ {dss : List (List D)}, as.length = dss.length →
    (∀ (j : Nat) (b : Addr), as[j]? = some b → ∃ xs ds, dss[j]? = some ds ∧ H b = some (.lst xs) ∧ ¬ U b ∧ RDs K H U xs ds) → RDs K H U (as.map .ref) (dss.map .list) := by
  induction as with
  | nil => intro dss h _; cases dss with | nil => exact .nil | cons => simp at h
  | cons b as ih =>
    intro dss h r
    cases dss with
    | nil => simp at h
    | cons ds dss =>
      obtain ⟨xs, ds', e1, e2, e3, e4⟩ := r 0 b rfl
      simp at e1
      subst e1
      refine .cons (.lst e2 e3 e4) (ih (by simpa using h) fun j c hc => ?_)
      obtain ⟨xs', ds', q1, q2⟩ := r (j + 1) c (by simpa using hc)
      exact ⟨xs', ds', by simpa using q1, q2⟩
/-- what is somebody's own, read -/
theorem KR.rd {k : Kd} (hk : k = .fz ∨ k = .o1 ∨ k = .o2 ∨ k = .io) (L : Lat H U H U') (un : ∀ a, w a = some i → ¬ U' a) (h : KR K H U w i k v d) : RD K H U' v d := by
  rcases hk with rfl | rfl | rfl | rfl
  · exact RD.lat L _ _ h
  · obtain ⟨a, xs, ds, rfl, rfl, e3, e4, r⟩ := h
    exact .lst e4 (un a e3) (RDs.lat L _ _ r)
  · obtain ⟨a, as, dss, rfl, rfl, e3, e4, n1, n2, el, r⟩ := h
    refine .lst e4 (un a e3) (RDs.lists el fun j b hb => ?_)
    obtain ⟨q1, xs, ds, q2, q3, q4⟩ := r j b hb
    exact ⟨xs, ds, q2, q3, un b q1, RDs.lat L _ _ q4⟩
  · obtain ⟨a, xs, ds, rfl, rfl, e3, e4, r⟩ := h
    exact .lst e4 (un a e3) (RDs.lat L _ _ r)
end

/-! ### the state -/
structure SR (K : PySem.W.Frag) (Γ : List Kd) (U : US) (w : Own) (ρ : Rho) (σ : L2.St) (H : Hp) : Prop where
  sl : ∀ i k d, Γ[i]? = some k → k ≠ .no → ρ[i]? = some (some d) → ∃ v, σ[i]? = some (some v) ∧ KR K H (T U w) w i k v d
  pr : ∀ a i, w a = some i → (∃ xs, H a = some (.lst xs)) ∧ ¬ U a
  up : ∀ a, U a → ∃ o, H a = some o
  ow : ∀ a i, w a = some i → ∃ k, Γ[i]? = some k ∧ ownable k = true
  lr : ρ.length = Γ.length
  ls : σ.length = Γ.length
structure Bx where
  H0 : Hp
  w0 : Own
  U : US
  s0 : L2.St
/-- slots that are never given another value -/
def fixed (Γ : List Kd) (i : Nat) : Prop := Γ[i]? = some .io ∨ Γ[i]? = some .sc
structure ST (K : PySem.W.Frag) (Γ : List Kd) (B : Bx) (w : Own) (ρ : Rho) (σ : L2.St) (H : Hp) : Prop where
  sr : SR K Γ B.U w ρ σ H
  b1 : ∀ b o, B.H0 b = some o → B.w0 b = none → H b = some o
  b2 : ∀ b i, w b = some i → B.w0 b ≠ none ∨ B.H0 b = none
  fx : ∀ i, fixed Γ i → σ[i]? = B.s0[i]?
  b3 : ∀ b i, B.w0 b = some i → w b = some i ∧ Γ[i]? = some .io
def Stp (b : Bool) (w : Own) (H H' : Hp) : Prop := ∀ a o, (b = true ∨ w a = none) → H a = some o → H' a = some o
def Um (b : Bool) (U : US) (w : Own) : US := fun a => b = false ∧ T U w a
theorem Stp.refl {b : Bool} {w : Own} {H : Hp} : Stp b w H H := fun _ _ _ h => h
theorem Stp.trans {b : Bool} {w : Own} {H H1 H2 : Hp} (p : Stp b w H H1) (q : Stp b w H1 H2) : Stp b w H H2 := fun a o h e => q a o h (p a o h e)
theorem Stp.of {b : Bool} {w : Own} {H H' : Hp} (s : Same H H') : Stp b w H H' := fun a o _ e => s a o e
theorem Same.new {H : Hp} {p : Addr} {o : HO} (h : H p = none) : Same H (upd H p o) := fun b x e => by rw [upd_ne (ne_of_none e h)]; exact e

section
variable {K : PySem.W.Frag} {Γ : List Kd} {B : Bx} {w : Own} {ρ ρ' : Rho} {σ : L2.St} {H H' : Hp} {b : Bool}
theorem ST.stpLat (S : ST K Γ B w ρ σ H) (p : Stp b w H H') : Lat H (Um b B.U w) H' (Um b B.U w) := by
  refine ⟨fun a o e n => ?_, fun a o e n => ?_⟩
  · cases b with
    | true => exact ⟨p a o (.inl rfl) e, n⟩
    | false =>
      refine ⟨p a o (.inr ?_) e, n⟩
      cases q : w a with
      | none => rfl
      | some j => exact absurd ⟨rfl, .inr (by rw [q]; simp)⟩ n
  · refine p a o (.inr ?_) e
    cases q : w a with
    | none => rfl
    | some j =>
      obtain ⟨⟨xs, e'⟩, _⟩ := S.sr.pr a j q
      rw [e] at e'; cases e'
      exact absurd trivial n
theorem ST.stpLatT (S : ST K Γ B w ρ σ H) (p : Stp b w H H') : Lat H (T B.U w) H' (T B.U w) := by
  refine ⟨fun a o e n => ⟨p a o (.inr ?_) e, n⟩, (S.stpLat p).im⟩
  cases q : w a with
  | none => rfl
  | some j => exact absurd (.inr (by rw [q]; simp)) n
theorem ST.upm (S : ST K Γ B w ρ σ H) : ∀ a, Um b B.U w a → H a ≠ none := fun a ⟨_, h⟩ => by
  rcases h with h | h
  · obtain ⟨o, e⟩ := S.sr.up a h; rw [e]; simp
  · cases q : w a with
    | none => exact absurd q h
    | some j => obtain ⟨⟨xs, e⟩, _⟩ := S.sr.pr a j q; rw [e]; simp
/-- all that was tracked stays -/
theorem ST.same (S : ST K Γ B w ρ σ H) (s : Same H H') : ST K Γ B w ρ σ H' where
  sr := {
    sl := fun i k d h1 h2 h3 => by
      obtain ⟨v, e, r⟩ := S.sr.sl i k d h1 h2 h3
      exact ⟨v, e, r.mono (Lat.same s fun _ z => z) fun a e => ⟨e, fun xs q => s _ _ q⟩⟩
    pr := fun a i e => by
      obtain ⟨⟨xs, q⟩, n⟩ := S.sr.pr a i e
      exact ⟨⟨xs, s _ _ q⟩, n⟩
    up := fun a h => by obtain ⟨o, e⟩ := S.sr.up a h; exact ⟨o, s _ _ e⟩
    ow := S.sr.ow
    lr := S.sr.lr
    ls := S.sr.ls }
  b1 := fun b o h1 h2 => s _ _ (S.b1 b o h1 h2)
  b2 := S.b2
  fx := S.fx
  b3 := S.b3
theorem RD.stp (S : ST K Γ B w ρ σ H) (p : Stp b w H H') {v : V} {d : D} (r : RD K H (Um b B.U w) v d) : RD K H' (Um b B.U w) v d := RD.lat (S.stpLat p) _ _ r
theorem RDs.stp (S : ST K Γ B w ρ σ H) (p : Stp b w H H') {v : List V} {d : List D} (r : RDs K H (Um b B.U w) v d) : RDs K H' (Um b B.U w) v d := RDs.lat (S.stpLat p) _ _ r
end

/-! ### readings -/
abbrev DE := Rho → (D → Rho → Prop) → Prop
abbrev DA := Rho → (List D → Rho → Prop) → Prop
abbrev DT := Rho → (Bool → Rho → Prop) → Prop
def tJ (K : PySem.W.Frag) (b : Bool) (Γ : List Kd) (ω : DE) : TE := fun σ H Q => ∃ B w ρ Qd, ST K Γ B w ρ σ H ∧ ω ρ Qd ∧
  ∀ d ρ', Qd d ρ' → ∀ v H', Stp b w H H' → ST K Γ B w ρ' σ H' → RD K H' (Um b B.U w) v d → Q v H'
def tJA (K : PySem.W.Frag) (b : Bool) (Γ : List Kd) (ω : DA) : TA := fun σ H Q => ∃ B w ρ Qd, ST K Γ B w ρ σ H ∧ ω ρ Qd ∧
  ∀ d ρ', Qd d ρ' → ∀ v H', Stp b w H H' → ST K Γ B w ρ' σ H' → RDs K H' (Um b B.U w) v d → Q v H'
def tJT (K : PySem.W.Frag) (Γ : List Kd) (ω : DT) : TT := fun σ H Q => ∃ B w ρ Qd, ST K Γ B w ρ σ H ∧ ω ρ Qd ∧
  ∀ d ρ', Qd d ρ' → ∀ H', Stp false w H H' → ST K Γ B w ρ' σ H' → Q d H'
abbrev J (X : Cx) (b : Bool) (Γ : List Kd) (e : Expr) (ω : DE) : Prop := PE X e (tJ X.K b Γ ω)
abbrev JA (X : Cx) (b : Bool) (Γ : List Kd) (e : List Expr) (ω : DA) : Prop := PA X e (tJA X.K b Γ ω)
abbrev JT (X : Cx) (Γ : List Kd) (e : Expr) (ω : DT) : Prop := PT X e (tJT X.K Γ ω)
abbrev JW (X : Cx) (Γ : List Kd) (e : Expr) (ω : DT) : Prop := PW X e (tJT X.K Γ ω)
section
variable {X : Cx}
theorem PE.imp {e : Expr} {t t' : TE} (h : PE X e t) (i : ∀ σ H Q, t' σ H Q → t σ H Q) : PE X e t' := ⟨fun pins s σ H Q I q => h.run pins s σ H Q I (i _ _ _ q)⟩
theorem PA.imp {e : List Expr} {t t' : TA} (h : PA X e t) (i : ∀ σ H Q, t' σ H Q → t σ H Q) : PA X e t' := ⟨fun p pins s σ H Q I q => h.run p pins s σ H Q I (i _ _ _ q)⟩
theorem PT.imp {e : Expr} {t t' : TT} (h : PT X e t) (i : ∀ σ H Q, t' σ H Q → t σ H Q) : PT X e t' := ⟨fun pins s σ H Q I q => h.run pins s σ H Q I (i _ _ _ q)⟩
theorem PW.imp {e : Expr} {t t' : TT} (h : PW X e t) (i : ∀ σ H Q, t' σ H Q → t σ H Q) : PW X e t' := ⟨fun w pins s σ H Q I q => h.run w pins s σ H Q I (i _ _ _ q)⟩
theorem PS.imp {e : Stmt} {t t' : TS} (h : PS X e t) (i : ∀ σ H Q, t' σ H Q → t σ H Q) : PS X e t' := ⟨fun pins s σ H Q I q => h.run pins s σ H Q I (i _ _ _ q)⟩
theorem PSs.imp {e : List Stmt} {t t' : TS} (h : PSs X e t) (i : ∀ σ H Q, t' σ H Q → t σ H Q) : PSs X e t' := ⟨fun pins s σ H Q I q => h.run pins s σ H Q I (i _ _ _ q)⟩
end
end DD

set_option Elab.async false
set_option linter.all false
set_option maxRecDepth 100000
set_option maxHeartbeats 4000000
/-! DD, part 2: expressions -/
namespace DD
open PySem PySem.Spec PyProof.Rows L2

/-! ### by values and by data -/
def Op2 (K : PySem.W.Frag) (r : R2) (f : D → D → (D → Prop) → Prop) : Prop := ∀ (U : US) (H : Hp) (x y : V) (dx dy : D) (Qd : D → Prop) (Q : VK),
  (∀ a, U a → H a ≠ none) → RD K H U x dx → RD K H U y dy → f dx dy Qd → (∀ d v H', Qd d → Same H H' → RD K H' U v d → Q v H') → r x y H Q
def OpN (K : PySem.W.Frag) (r : List V → Hp → VK → Prop) (f : List D → (D → Prop) → Prop) : Prop := ∀ (U : US) (H : Hp) (xs : List V) (ds : List D) (Qd : D → Prop) (Q : VK),
  (∀ a, U a → H a ≠ none) → RDs K H U xs ds → f ds Qd → (∀ d v H', Qd d → Same H H' → RD K H' U v d → Q v H') → r xs H Q
def e2 (f : D → D → (D → Prop) → Prop) (ωa ωb : DE) : DE := fun ρ Q => ωa ρ fun x ρ1 => ωb ρ1 fun y ρ2 => f x y fun d => Q d ρ2
def eN (f : List D → (D → Prop) → Prop) (ω : DA) : DE := fun ρ Q => ω ρ fun xs ρ1 => f xs fun d => Q d ρ1
def e1 (f : D → (D → Prop) → Prop) (ωa : DE) : DE := fun ρ Q => ωa ρ fun x ρ1 => f x fun d => Q d ρ1
def eVar (i : Nat) : DE := fun ρ Q => ∃ d, ρ[i]? = some (some d) ∧ Q d ρ
def eC (d : D) : DE := fun ρ Q => Q d ρ
def aNil : DA := fun ρ Q => Q [] ρ
def aCons (ωa : DE) (ωs : DA) : DA := fun ρ Q => ωa ρ fun x ρ1 => ωs ρ1 fun xs ρ2 => Q (x :: xs) ρ2

theorem upd_rd {K : PySem.W.Frag} {H : Hp} {U : US} {p : Addr} {o : HO} (up : ∀ a, U a → H a ≠ none) (h : H p = none) : ¬ U p := fun z => up p z h

section
variable {X : Cx} {b : Bool} {Γ : List Kd} {e a c : Expr} {es : List Expr} {pos p : Pos} {ωa ωb ωc : DE} {ωs : DA} {te : TE}

theorem op_imp {r : R2} {f : D → D → (D → Prop) → Prop} (o : Op2 X.K r f) : ∀ σ H Q, tJ X.K b Γ (e2 f ωa ωb) σ H Q → tOp r (tJ X.K b Γ ωa) (tJ X.K b Γ ωb) σ H Q :=
  fun σ H Q ⟨B, w, ρ, Qd, S, ω, k⟩ =>
    ⟨B, w, ρ, _, S, ω, fun dx ρ1 q1 v1 H1 p1 S1 r1 => ⟨B, w, ρ1, _, S1, q1, fun dy ρ2 q2 v2 H2 p2 S2 r2 =>
      o (Um b B.U w) H2 v1 v2 dx dy _ Q S2.upm (r1.stp S1 p2) r2 q2 fun d v H' qd s rd => k d ρ2 qd v H' ((p1.trans p2).trans (Stp.of s)) (S2.same s) rd⟩⟩
theorem J_op {r : R2} {f : D → D → (D → Prop) → Prop} (o : Op2 X.K r f) (h : PE X e (tOp r (tJ X.K b Γ ωa) (tJ X.K b Γ ωb))) : J X b Γ e (e2 f ωa ωb) :=
  PE.imp h (op_imp o)
theorem J_opN {r : List V → Hp → VK → Prop} {f : List D → (D → Prop) → Prop} (o : OpN X.K r f) (h : PE X e (tCB r (tJA X.K b Γ ωs))) : J X b Γ e (eN f ωs) :=
  PE.imp h fun σ H Q ⟨B, w, ρ, Qd, S, ω, k⟩ =>
    ⟨B, w, ρ, _, S, ω, fun ds ρ1 q1 vs H1 p1 S1 r1 => o (Um b B.U w) H1 vs ds _ Q S1.upm r1 q1 fun d v H' qd s rd => k d ρ1 qd v H' (p1.trans (Stp.of s)) (S1.same s) rd⟩
/-- an operation on one value -/
def Op1 (K : PySem.W.Frag) (r : V → Hp → VK → Prop) (f : D → (D → Prop) → Prop) : Prop := ∀ (U : US) (H : Hp) (x : V) (dx : D) (Qd : D → Prop) (Q : VK),
  (∀ a, U a → H a ≠ none) → RD K H U x dx → f dx Qd → (∀ d v H', Qd d → Same H H' → RD K H' U v d → Q v H') → r x H Q
theorem J_op1 {r : V → Hp → VK → Prop} {f : D → (D → Prop) → Prop} (o : Op1 X.K r f) (h : PE X e (tUn r (tJ X.K b Γ ωa))) : J X b Γ e (e1 f ωa) :=
  PE.imp h fun σ H Q ⟨B, w, ρ, Qd, S, ω, k⟩ =>
    ⟨B, w, ρ, _, S, ω, fun dx ρ1 q1 v1 H1 p1 S1 r1 => o (Um b B.U w) H1 v1 dx _ Q S1.upm r1 q1 fun d v H' qd s rd => k d ρ1 qd v H' (p1.trans (Stp.of s)) (S1.same s) rd⟩

/-! ### names, constants -/
theorem RD.umT {K : PySem.W.Frag} {H : Hp} {b : Bool} {U : US} {w : Own} {v : V} {d : D} (r : RD K H (T U w) v d) : RD K H (Um b U w) v d := RD.lat (Lat.weak fun _ h => h.2) _ _ r
theorem J_var {i : Nat} (h : PE X e (tVar i)) (hk : Γ[i]? = some .fz := by rfl) : J X b Γ e (eVar i) :=
  PE.imp h fun σ H Q ⟨B, w, ρ, Qd, S, ⟨d, ed, q⟩, k⟩ => by
    obtain ⟨v, ev, r⟩ := S.sr.sl i .fz d hk (fun z => nomatch z) ed
    exact ⟨v, ev, k d ρ q v H Stp.refl S (RD.umT r)⟩
/-- one's own list, looked at -/
theorem J_varB {i : Nat} {kd : Kd} (h : PE X e (tVar i)) (hk : Γ[i]? = some kd := by rfl) (hkd : kd = .fz ∨ kd = .o1 ∨ kd = .o2 ∨ kd = .io := by decide) : J X true Γ e (eVar i) :=
  PE.imp h fun σ H Q ⟨B, w, ρ, Qd, S, ⟨d, ed, q⟩, k⟩ => by
    obtain ⟨v, ev, r⟩ := S.sr.sl i kd d hk (by rintro rfl; rcases hkd with z | z | z | z <;> cases z) ed
    exact ⟨v, ev, k d ρ q v H Stp.refl S (KR.rd hkd (Lat.weak fun _ h => (Bool.noConfusion h.1 : False).elim) (fun a _ h => Bool.noConfusion h.1) r)⟩
theorem J_c {d : D} {v : V} (h : PE X e (tC v)) (r : ∀ (K : PySem.W.Frag) H U, RD K H U v d) : J X b Γ e (eC d) :=
  PE.imp h fun σ H Q ⟨B, w, ρ, Qd, S, q, k⟩ => k d ρ q v H Stp.refl S (r _ _ _)
theorem J_int {i : Int} {j : Nat} : J X b Γ (.Constant (.int i) j pos) (eC (.int i)) := J_c pe_int fun _ _ _ => .int i
theorem J_bl {x : Bool} {j : Nat} : J X b Γ (.Constant (.bool x) j pos) (eC (.bool x)) := J_c pe_bl fun _ _ _ => .bl x
theorem J_str {x : Str} {j : Nat} : J X b Γ (.Constant (.str x) j pos) (eC (.str x)) := J_c pe_str fun _ _ _ => .str x
theorem J_non {j : Nat} : J X b Γ (.Constant .none j pos) (eC .none) := J_c pe_non fun _ _ _ => .non

/-! ### argument lists, displays -/
theorem JA_nil : JA X b Γ [] aNil := PA.imp pa_nil fun σ H Q ⟨B, w, ρ, Qd, S, q, k⟩ => k [] ρ q [] H Stp.refl S .nil
theorem JA_cons (ha : J X b Γ e ωa) (hs : JA X b Γ es ωs) (he : starEach (e :: es) X.env = (false, eval e X.env) :: starEach es X.env := by rfl) : JA X b Γ (e :: es) (aCons ωa ωs) :=
  PA.imp (pa_cons ha hs he) fun σ H Q ⟨B, w, ρ, Qd, S, ω, k⟩ =>
    ⟨B, w, ρ, _, S, ω, fun dx ρ1 q1 v1 H1 p1 S1 r1 => ⟨B, w, ρ1, _, S1, q1, fun ds ρ2 q2 vs H2 p2 S2 r2 => k (dx :: ds) ρ2 q2 (v1 :: vs) H2 (p1.trans p2) S2 (.cons (r1.stp S1 p2) r2)⟩⟩
def eTup (ωs : DA) : DE := fun ρ Q => ωs ρ fun ds ρ1 => ds.length ≤ sizeLine ∧ Q (.tuple ds) ρ1
def eLst (ωs : DA) : DE := fun ρ Q => ωs ρ fun ds ρ1 => ds.length ≤ sizeLine ∧ Q (.list ds) ρ1
theorem J_tup {k1 : Nat} (h : JA X b Γ es ωs) : J X b Γ (.Tuple es k1 pos) (eTup ωs) :=
  PE.imp (pe_tup h) fun σ H Q ⟨B, w, ρ, Qd, S, ω, k⟩ =>
    ⟨B, w, ρ, _, S, ω, fun ds ρ1 ⟨z, q⟩ vs H1 p1 S1 r1 => ⟨by rw [r1.length]; exact z, fun p hp =>
      have s := Same.new (o := .tup vs) hp
      k _ _ q _ _ (p1.trans (Stp.of s)) (S1.same s) (.tup upd_same (r1.stp S1 (Stp.of s)))⟩⟩
theorem J_lst (h : JA X b Γ es ωs) : J X b Γ (.List es pos) (eLst ωs) :=
  PE.imp (pe_lst h) fun σ H Q ⟨B, w, ρ, Qd, S, ω, k⟩ =>
    ⟨B, w, ρ, _, S, ω, fun ds ρ1 ⟨z, q⟩ vs H1 p1 S1 r1 => ⟨by rw [r1.length]; exact z, fun p hp =>
      have s := Same.new (o := .lst vs) hp
      k _ _ q _ _ (p1.trans (Stp.of s)) (S1.same s) (.lst upd_same (fun z => S1.upm p z hp) (r1.stp S1 (Stp.of s)))⟩⟩
/-- what holds no list may be kept -/
def eFlat (ω : DE) : DE := fun ρ Q => ω ρ fun d ρ1 => flat d = true ∧ Q d ρ1
theorem J_flat (h : J X true Γ e ωa) : J X false Γ e (eFlat ωa) :=
  PE.imp h fun σ H Q ⟨B, w, ρ, Qd, S, ω, k⟩ =>
    ⟨B, w, ρ, _, S, ω, fun d ρ1 ⟨f, q⟩ v H1 p1 S1 r1 => k d ρ1 q v H1 (fun a o h e => p1 a o (.inl rfl) e) S1 (RD.flat _ _ f r1)⟩

/-! ### operators -/
def fAdd : D → D → (D → Prop) → Prop
  | .int i, .int j, Q => Q (.int (i + j))
  | .list xs, .list ys, Q => xs.length + ys.length ≤ sizeLine ∧ Q (.list (xs ++ ys))
  | .tuple xs, .tuple ys, Q => xs ≠ [] ∧ ys ≠ [] ∧ xs.length + ys.length ≤ sizeLine ∧ Q (.tuple (xs ++ ys))
  | .str x, .str y, Q => x.length + y.length ≤ sizeLine ∧ Q (.str (x ++ y))
  | _, _, _ => False
def fSub : D → D → (D → Prop) → Prop
  | .int i, .int j, Q => Q (.int (i - j))
  | _, _, _ => False
def fMul : D → D → (D → Prop) → Prop
  | .int i, .int j, Q => CMulW i j ∧ Q (.int (i * j))
  | .list xs, .int j, Q => (-(2 ^ 63) ≤ j ∧ j < 2 ^ 63 ∧ xs.length * j.toNat ≤ sizeLine) ∧ Q (.list (List.replicate j.toNat xs).flatten)
  | _, _, _ => False
def fDiv : D → D → (D → Prop) → Prop
  | .int i, .int j, Q => CDivW i j ∧ Q (.int (i / j))
  | _, _, _ => False
def fMod : D → D → (D → Prop) → Prop
  | .int i, .int j, Q => 0 < j ∧ Q (.int (i % j))
  | _, _, _ => False
def fPow : D → D → (D → Prop) → Prop
  | .int i, .int j, Q => CPow i j ∧ Q (.int (i ^ j.toNat))
  | _, _, _ => False
def fShl : D → D → (D → Prop) → Prop
  | .int i, .int j, Q => CPow i j ∧ Q (.int (i * 2 ^ j.toNat))
  | _, _, _ => False
def fNeg : D → (D → Prop) → Prop
  | .int i, Q => Q (.int (-i))
  | _, _ => False
end

section
variable {K : PySem.W.Frag}
theorem new_lst {H : Hp} {U : US} {p : Addr} {xs : List V} {ds : List D} (up : ∀ a, U a → H a ≠ none) (hp : H p = none) (r : RDs K H U xs ds) :
    Same H (upd H p (.lst xs)) ∧ RD K (upd H p (.lst xs)) U (.ref p) (.list ds) :=
  have s := Same.new (o := .lst xs) hp
  ⟨s, .lst upd_same (fun z => up p z hp) (RDs.lat (Lat.same s fun _ z => z) _ _ r)⟩
theorem new_tup {H : Hp} {U : US} {p : Addr} {xs : List V} {ds : List D} (hp : H p = none) (r : RDs K H U xs ds) :
    Same H (upd H p (.tup xs)) ∧ RD K (upd H p (.tup xs)) U (.ref p) (.tuple ds) :=
  have s := Same.new (o := .tup xs) hp
  ⟨s, .tup upd_same (RDs.lat (Lat.same s fun _ z => z) _ _ r)⟩
theorem RDs.ne {H : Hp} {U : US} {xs : List V} {ds : List D} (r : RDs K H U xs ds) (h : ds ≠ []) : xs ≠ [] := fun z => by
  have e := r.length
  rw [z] at e
  exact h (List.length_eq_zero_iff.mp e.symm)
theorem o_add : Op2 K (fun x y H Q => (rI0 (fun i j => .int (i + j)) x y H Q ∨ (∃ i j, x = .str i ∧ y = .str j ∧ i.length + j.length ≤ sizeLine ∧ Q (.str (i ++ j)) H)) ∨ rCat x y H Q ∨ rCatT K x y H Q) fAdd := by
  intro U H x y dx dy Qd Q up rx ry hf k
  unfold fAdd at hf
  split at hf
  · cases rx; cases ry; exact .inl (.inl ⟨_, _, rfl, rfl, k _ _ _ hf (Same.refl _) (.int _)⟩)
  · cases rx with
    | lst e1 n1 r1 => cases ry with
      | lst e2 n2 r2 =>
        refine .inr (.inl ⟨_, _, _, _, rfl, rfl, e1, e2, by rw [r1.length, r2.length]; exact hf.1, fun p hp => ?_⟩)
        have q := new_lst up hp (r1.append r2)
        exact k _ _ _ hf.2 q.1 q.2
  · cases rx with
    | tup e1 r1 => cases ry with
      | tup e2 r2 =>
        refine .inr (.inr ⟨_, _, _, _, rfl, rfl, .inl (.inl e1), .inl (.inl e2), r1.ne hf.1, by rw [r1.length, r2.length]; exact hf.2.2.1, fun z => absurd z (r2.ne hf.2.1), fun _ p hp => ?_⟩)
        have q := new_tup hp (r1.append r2)
        exact k _ _ _ hf.2.2.2 q.1 q.2
  · cases rx; cases ry; exact .inl (.inr ⟨_, _, rfl, rfl, hf.1, k _ _ _ hf.2 (Same.refl _) (.str _)⟩)
  · exact hf.elim
theorem o_int {C : Int → Int → Prop} {g : Int → Int → Int} {f : D → D → (D → Prop) → Prop} (hf : ∀ d e Q, f d e Q → ∃ i j, d = .int i ∧ e = .int j ∧ C i j ∧ Q (.int (g i j))) : Op2 K (rI C fun i j => .int (g i j)) f := by
  intro U H x y dx dy Qd Q up rx ry h k
  obtain ⟨i, j, rfl, rfl, c, q⟩ := hf _ _ _ h
  cases rx; cases ry
  exact ⟨i, j, rfl, rfl, c, k _ _ _ q (Same.refl _) (.int _)⟩
theorem o_sub : Op2 K (rI0 fun i j => .int (i - j)) fSub := by
  intro U H x y dx dy Qd Q up rx ry hf k
  unfold fSub at hf
  split at hf
  · cases rx; cases ry; exact ⟨_, _, rfl, rfl, k _ _ _ hf (Same.refl _) (.int _)⟩
  · exact hf.elim
theorem o_mul : Op2 K (fun x y H Q => rI CMulW (fun i j => .int (i * j)) x y H Q ∨ L2.rRep x y H Q) fMul := by
  intro U H x y dx dy Qd Q up rx ry hf k
  unfold fMul at hf
  split at hf
  · cases rx; cases ry; exact .inl ⟨_, _, rfl, rfl, hf.1, k _ _ _ hf.2 (Same.refl _) (.int _)⟩
  · rename_i zs j
    cases rx with
    | lst e1 n1 r1 =>
      cases ry
      refine .inr ⟨_, _, _, rfl, rfl, e1, hf.1.1, hf.1.2.1, by rw [r1.length]; exact hf.1.2.2, fun p hp => ?_⟩
      have q := new_lst up hp (r1.flat1 j.toNat)
      exact k _ _ _ hf.2 q.1 q.2
  · exact hf.elim
theorem o_div : Op2 K (rI CDivW fun i j => .int (i / j)) fDiv := o_int fun d e Q h => by
  unfold fDiv at h
  split at h
  · exact ⟨_, _, rfl, rfl, h.1, h.2⟩
  · exact h.elim
theorem o_mod : Op2 K (rI (fun _ j => 0 < j) fun i j => .int (i % j)) fMod := o_int fun d e Q h => by
  unfold fMod at h
  split at h
  · exact ⟨_, _, rfl, rfl, h.1, h.2⟩
  · exact h.elim
theorem o_pow : Op2 K (rI CPow fun i j => .int (i ^ j.toNat)) fPow := o_int fun d e Q h => by
  unfold fPow at h
  split at h
  · exact ⟨_, _, rfl, rfl, h.1, h.2⟩
  · exact h.elim
theorem o_shl : Op2 K (rI CPow fun i j => .int (i * 2 ^ j.toNat)) fShl := o_int fun d e Q h => by
  unfold fShl at h
  split at h
  · exact ⟨_, _, rfl, rfl, h.1, h.2⟩
  · exact h.elim
theorem o_neg : Op1 K (rU fun i => .int (-i)) fNeg := by
  intro U H x dx Qd Q up rx hf k
  unfold fNeg at hf
  split at hf
  · cases rx; exact ⟨_, rfl, k _ _ _ hf (Same.refl _) (.int _)⟩
  · exact hf.elim

/-! comparisons -/
def fCmp (p : Int → Int → Bool) : D → D → (D → Prop) → Prop
  | .int i, .int j, Q => Q (.bool (p i j))
  | _, _, _ => False
abbrev fLt := fCmp fun i j => decide (i < j)
abbrev fLe := fCmp fun i j => decide (i ≤ j)
abbrev fGt := fCmp fun i j => decide (j < i)
abbrev fGe := fCmp fun i j => decide (j ≤ i)
theorem o_cmp {p : Int → Int → Bool} : Op2 K (rI0 fun i j => .bl (p i j)) (fCmp p) := by
  intro U H x y dx dy Qd Q up rx ry hf k
  unfold fCmp at hf
  split at hf
  · cases rx; cases ry; exact ⟨_, _, rfl, rfl, k _ _ _ hf (Same.refl _) (.bl _)⟩
  · exact hf.elim
def bothS : D → D → Bool
  | .int _, .int _ => true
  | .str _, .str _ => true
  | _, _ => false
/-- two numbers, two texts: of any size; else plain data -/
def eqOk (d e : D) : Prop := if bothS d e = true then True else SeqAt.shaped d = true ∧ SeqAt.shaped e = true
def fEq (d e : D) (Q : D → Prop) : Prop := eqOk d e ∧ Q (.bool (PyData.eqv d e))
def fNe (d e : D) (Q : D → Prop) : Prop := eqOk d e ∧ Q (.bool (!PyData.eqv d e))
theorem bothS_eq {H : Hp} {U : US} {x y : V} {dx dy : D} (rx : RD K H U x dx) (ry : RD K H U y dy) (h : bothS dx dy = true) : scal x y = true ∧ decide (x = y) = PyData.eqv dx dy := by
  unfold bothS at h
  split at h
  · cases rx; cases ry
    exact ⟨rfl, by rw [dec_int]; simp [PyData.eqv]⟩
  · cases rx; cases ry
    exact ⟨rfl, by rw [dec_str]; simp [PyData.eqv]⟩
  · cases h
theorem o_eq : Op2 K (fun x y H Q => rEq x y H Q ∨ rEqD K x y H Q) fEq := fun U H x y dx dy Qd Q up rx ry hf k => by
  by_cases h : bothS dx dy = true
  · obtain ⟨h1, h2⟩ := bothS_eq rx ry h
    exact .inl ⟨h1, by rw [h2]; exact k _ _ _ hf.2 (Same.refl _) (.bl _)⟩
  · have h1 := hf.1
    unfold eqOk at h1
    rw [if_neg h] at h1
    exact .inr ⟨dx, dy, RD.dp _ _ rx, RD.dp _ _ ry, h1.1, h1.2, k _ _ _ hf.2 (Same.refl _) (.bl _)⟩
theorem o_ne : Op2 K (fun x y H Q => rNe x y H Q ∨ rNeD K x y H Q) fNe := fun U H x y dx dy Qd Q up rx ry hf k => by
  by_cases h : bothS dx dy = true
  · obtain ⟨h1, h2⟩ := bothS_eq rx ry h
    exact .inl ⟨h1, by rw [h2]; exact k _ _ _ hf.2 (Same.refl _) (.bl _)⟩
  · have h1 := hf.1
    unfold eqOk at h1
    rw [if_neg h] at h1
    exact .inr ⟨dx, dy, RD.dp _ _ rx, RD.dp _ _ ry, h1.1, h1.2, k _ _ _ hf.2 (Same.refl _) (.bl _)⟩
theorem eqOk_i {i j : Int} : eqOk (.int i) (.int j) = True := rfl
theorem eqOk_s {i j : Str} : eqOk (.str i) (.str j) = True := rfl
theorem eqOk_l {d : D} {ys : List D} : eqOk d (.list ys) = (SeqAt.shaped d = true ∧ SeqAt.shaped (.list ys) = true) := by cases d <;> rfl
theorem eqOk_t {d : D} {ys : List D} : eqOk d (.tuple ys) = (SeqAt.shaped d = true ∧ SeqAt.shaped (.tuple ys) = true) := by cases d <;> rfl
theorem eqOk_n {d : D} : eqOk d .none = (SeqAt.shaped d = true ∧ SeqAt.shaped .none = true) := by cases d <;> rfl
theorem eqOk_of {d e : D} (h1 : SeqAt.shaped d = true) (h2 : SeqAt.shaped e = true) : eqOk d e := by unfold eqOk; split; trivial; exact ⟨h1, h2⟩
def isNone : D → Bool
  | .none => true
  | _ => false
theorem RD.isNone {H : Hp} {U : US} {x : V} {d : D} (r : RD K H U x d) : decide (x = .non) = DD.isNone d := by cases r <;> rfl
def fIs : D → D → (D → Prop) → Prop
  | d, .none, Q => Q (.bool (isNone d))
  | .bool a, .bool b, Q => Q (.bool (decide (a = b)))
  | _, _, _ => False
def fIsNot : D → D → (D → Prop) → Prop
  | d, .none, Q => Q (.bool (!isNone d))
  | .bool a, .bool b, Q => Q (.bool (!decide (a = b)))
  | _, _, _ => False
theorem o_is : Op2 K (fun x y H Q => (y = .non ∧ Q (.bl (decide (x = .non))) H) ∨ rIsB x y H Q) fIs := by
  intro U H x y dx dy Qd Q up rx ry hf k
  unfold fIs at hf
  split at hf
  · cases ry; exact .inl ⟨rfl, by rw [rx.isNone]; exact k _ _ _ hf (Same.refl _) (.bl _)⟩
  · cases rx; cases ry; exact .inr ⟨_, _, rfl, rfl, k _ _ _ hf (Same.refl _) (.bl _)⟩
  · exact hf.elim
theorem o_isNot : Op2 K (fun x y H Q => (y = .non ∧ Q (.bl (!decide (x = .non))) H) ∨ rNotB x y H Q) fIsNot := by
  intro U H x y dx dy Qd Q up rx ry hf k
  unfold fIsNot at hf
  split at hf
  · cases ry; exact .inl ⟨rfl, by rw [rx.isNone]; exact k _ _ _ hf (Same.refl _) (.bl _)⟩
  · cases rx; cases ry; exact .inr ⟨_, _, rfl, rfl, k _ _ _ hf (Same.refl _) (.bl _)⟩
  · exact hf.elim
def fIn : D → D → (D → Prop) → Prop
  | d, .list ds, Q => (SeqAt.shaped d = true ∧ SeqAt.shaped (.list ds) = true) ∧ Q (.bool (ds.any fun z => PyData.eqv z d))
  | _, _, _ => False
def fNotIn : D → D → (D → Prop) → Prop
  | d, .list ds, Q => (SeqAt.shaped d = true ∧ SeqAt.shaped (.list ds) = true) ∧ Q (.bool (!ds.any fun z => PyData.eqv z d))
  | _, _, _ => False
theorem o_in : Op2 K (rInD K) fIn := by
  intro U H x y dx dy Qd Q up rx ry hf k
  unfold fIn at hf
  split at hf
  · exact ⟨_, _, RD.dp _ _ rx, RD.dp _ _ ry, hf.1.1, hf.1.2, k _ _ _ hf.2 (Same.refl _) (.bl _)⟩
  · exact hf.elim
theorem o_notIn : Op2 K (rNotInD K) fNotIn := by
  intro U H x y dx dy Qd Q up rx ry hf k
  unfold fNotIn at hf
  split at hf
  · exact ⟨_, _, RD.dp _ _ rx, RD.dp _ _ ry, hf.1.1, hf.1.2, k _ _ _ hf.2 (Same.refl _) (.bl _)⟩
  · exact hf.elim

/-! subscripts -/
def fIx : D → D → (D → Prop) → Prop
  | .list xs, .int i, Q => ∃ d, atI xs i = some d ∧ Q d
  | .tuple xs, .int i, Q => ∃ d, atI xs i = some d ∧ Q d
  | .str z, .int i, Q => ∃ c, (z.length ≤ sizeLine ∧ atI z.cps.toList i = some c) ∧ Q (.str ⟨#[c]⟩)
  | _, _, _ => False
theorem RDs.at {H : Hp} {U : US} {xs : List V} {ds : List D} {i : Int} {d : D} (r : RDs K H U xs ds) (h : atI ds i = some d) : ∃ v, atI xs i = some v ∧ RD K H U v d := by
  unfold atI at h ⊢
  rw [r.length]
  cases q : ixN ds.length i with
  | none => rw [q] at h; cases h
  | some j => rw [q] at h; exact r.get h
theorem o_ix : Op2 K (rIx K) fIx := by
  intro U H x y dx dy Qd Q up rx ry hf k
  unfold fIx at hf
  split at hf
  · cases rx with
    | lst e1 n1 r1 =>
      cases ry
      obtain ⟨d, e, q⟩ := hf
      obtain ⟨v, e', r⟩ := r1.at e
      exact .inl ⟨_, _, _, _, rfl, rfl, .inl (.inl e1), e', k _ _ _ q (Same.refl _) r⟩
  · cases rx with
    | tup e1 r1 =>
      cases ry
      obtain ⟨d, e, q⟩ := hf
      obtain ⟨v, e', r⟩ := r1.at e
      exact .inr (.inl ⟨_, _, _, _, rfl, rfl, .inl (.inl e1), e', k _ _ _ q (Same.refl _) r⟩)
  · cases rx; cases ry
    obtain ⟨c, e, q⟩ := hf
    exact .inr (.inr ⟨_, _, _, rfl, rfl, e.1, e.2, k _ _ _ q (Same.refl _) (.str _)⟩)
  · exact hf.elim
def cutD {α : Type} (xs : List α) (lo hi : Option Int) : List α := (xs.drop (HT.sIx xs.length 0 lo)).take (HT.sIx xs.length xs.length hi - HT.sIx xs.length 0 lo)
theorem RDs.cut {H : Hp} {U : US} {xs : List V} {ds : List D} (r : RDs K H U xs ds) (lo hi : Option Int) : RDs K H U (cutV xs lo hi) (cutD ds lo hi) := by
  unfold cutV cutD
  rw [r.length]
  exact (r.drop _).take _
def fSl : D → Option Int → Option Int → (D → Prop) → Prop
  | .list xs, lo, hi, Q => Q (.list (cutD xs lo hi))
  | .tuple xs, lo, hi, Q => ¬ (HT.sIx xs.length 0 lo = 0 ∧ HT.sIx xs.length xs.length hi = xs.length) ∧ Q (.tuple (cutD xs lo hi))
  | _, _, _, _ => False

/-! built-ins -/
def fLen : List D → (D → Prop) → Prop
  | [.list xs], Q => Q (.int xs.length)
  | [.tuple xs], Q => Q (.int xs.length)
  | [.str z], Q => z.length ≤ sizeLine ∧ Q (.int z.length)
  | _, _ => False
theorem o_len : OpN K (fun xs H Q => ∃ x n, xs = [x] ∧ LenV K x H n ∧ Q (.int n) H) fLen := by
  intro U H xs ds Qd Q up rs hf k
  unfold fLen at hf
  split at hf
  · cases rs with | cons r rs => cases rs; cases r with | lst e1 n1 r1 =>
      exact ⟨_, _, rfl, .inl ⟨_, .inl (.inl e1), r1.length.symm⟩, k _ _ _ hf (Same.refl _) (.int _)⟩
  · cases rs with | cons r rs => cases rs; cases r with | tup e1 r1 =>
      exact ⟨_, _, rfl, .inr ⟨_, .inl (.inl e1), r1.length.symm⟩, k _ _ _ hf (Same.refl _) (.int _)⟩
  · cases rs with | cons r rs => cases rs; cases r with | str z => exact ⟨_, _, rfl, ⟨hf.1, rfl⟩, k _ _ _ hf.2 (Same.refl _) (.int _)⟩
  · exact hf.elim
def fInt : List D → (D → Prop) → Prop
  | [.int i], Q => Q (.int i)
  | [.bool k], Q => Q (.int (if k then 1 else 0))
  | _, _ => False
theorem o_intc : OpN K (fun xs H Q => (∃ i, xs = [.int i] ∧ Q (.int i) H) ∨ ∃ k, xs = [.bl k] ∧ Q (.int (if k then 1 else 0)) H) fInt := by
  intro U H xs ds Qd Q up rs hf k
  unfold fInt at hf
  split at hf
  · cases rs with | cons r rs => cases rs; cases r; exact .inl ⟨_, rfl, k _ _ _ hf (Same.refl _) (.int _)⟩
  · cases rs with | cons r rs => cases rs; cases r; exact .inr ⟨_, rfl, k _ _ _ hf (Same.refl _) (.int _)⟩
  · exact hf.elim
def fAbs : List D → (D → Prop) → Prop
  | [.int i], Q => Q (.int i.natAbs)
  | _, _ => False
theorem o_abs : OpN K (fun xs H Q => ∃ i, xs = [.int i] ∧ Q (.int (if i < 0 then -i else i)) H) fAbs := by
  intro U H xs ds Qd Q up rs hf k
  unfold fAbs at hf
  split at hf
  · cases rs with | cons r rs =>
      cases rs
      cases r
      rename_i i
      have e : (if i < 0 then -i else i) = (i.natAbs : Int) := by split <;> omega
      exact ⟨_, rfl, by rw [e]; exact k _ _ _ hf (Same.refl _) (.int _)⟩
  · exact hf.elim
def maxI : List Int → Int
  | [] => 0
  | x :: xs => xs.foldl max x
theorem foldl_max (xs : List Int) : ∀ x : Int, (xs.foldl max x ∈ x :: xs) ∧ ∀ y ∈ x :: xs, y ≤ xs.foldl max x := by
  induction xs with
  | nil => intro x; simp
  | cons z xs ih =>
    intro x
    obtain ⟨h1, h2⟩ := ih (max x z)
    rw [List.foldl_cons]
    refine ⟨?_, fun y hy => ?_⟩
    · rcases List.mem_cons.mp h1 with h | h
      · rw [h]; rcases Int.le_total x z with q | q
        · rw [Int.max_eq_right q]; simp
        · rw [Int.max_eq_left q]; simp
      · simp [h]
    · have h3 := h2 (max x z) (by simp)
      rcases List.mem_cons.mp hy with h | h
      · subst h; omega
      rcases List.mem_cons.mp h with h | h
      · subst h; omega
      · exact h2 y (by simp [h])
theorem maxI_mem {xs : List Int} (h : xs ≠ []) : maxI xs ∈ xs := by
  cases xs with
  | nil => exact absurd rfl h
  | cons x xs => exact (foldl_max xs x).1
theorem le_maxI {xs : List Int} {y : Int} (h : y ∈ xs) : y ≤ maxI xs := by
  cases xs with
  | nil => cases h
  | cons x xs => exact (foldl_max xs x).2 y h
def intsD : List D → Option (List Int)
  | [] => some []
  | .int i :: r => (intsD r).map (i :: ·)
  | _ :: _ => none
theorem intsD_map : ∀ ns : List Int, intsD (ns.map .int) = some ns
  | [] => rfl
  | n :: ns => by rw [List.map_cons, intsD, intsD_map ns]; rfl
theorem intsD_eq : ∀ {ds : List D} {ns : List Int}, intsD ds = some ns → ds = ns.map .int
  | [], ns, h => by cases h; rfl
  | d :: ds, ns, h => by
    cases d <;> try (cases h; done)
    rename_i i
    rw [intsD] at h
    cases q : intsD ds with
    | none => rw [q] at h; cases h
    | some ms => rw [q] at h; cases h; rw [List.map_cons, intsD_eq q]
theorem RDs.ints {H : Hp} {U : US} {xs : List V} : ∀ {ns : List Int}, RDs K H U xs (ns.map .int) → xs = ns.map .int := by
  induction xs with
  | nil => intro ns h; cases ns with | nil => rfl | cons n ns => cases h
  | cons x xs ih =>
    intro ns h
    cases ns with
    | nil => cases h
    | cons n ns => cases h with | cons r rs => cases r; rw [List.map_cons, ih rs]
def fMaxL : List D → (D → Prop) → Prop
  | [.list ds], Q => ∃ ns, intsD ds = some ns ∧ ns ≠ [] ∧ Q (.int (maxI ns))
  | [.int i, .int j], Q => Q (.int (max i j))
  | _, _ => False
theorem o_max : OpN K (fun xs H Q => rMax K xs H Q ∨ ∃ i j, xs = [.int i, .int j] ∧ Q (.int (if j > i then j else i)) H) fMaxL := by
  intro U H xs ds Qd Q up rs hf k
  unfold fMaxL at hf
  split at hf
  · cases rs with | cons r rs => cases rs; cases r with | lst e1 n1 r1 =>
      obtain ⟨ns, e, n0, q⟩ := hf
      rw [intsD_eq e] at r1
      have e' := r1.ints
      subst e'
      refine .inl ⟨_, ns, rfl, .inl (.inl e1), List.length_pos_iff.mpr n0, fun m hm hu => ?_⟩
      have : m = maxI ns := Int.le_antisymm (le_maxI hm) (hu _ (maxI_mem n0))
      subst this
      exact k _ _ _ q (Same.refl _) (.int _)
  · cases rs with | cons r rs => cases rs with | cons r' rs =>
      cases rs; cases r; cases r'
      rename_i i j
      have e : (if j > i then j else i) = max i j := by split <;> omega
      exact .inr ⟨_, _, rfl, by rw [e]; exact k _ _ _ hf (Same.refl _) (.int _)⟩
  · exact hf.elim
def minI : List Int → Int
  | [] => 0
  | x :: xs => xs.foldl min x
theorem foldl_min (xs : List Int) : ∀ x : Int, (xs.foldl min x ∈ x :: xs) ∧ ∀ y ∈ x :: xs, xs.foldl min x ≤ y := by
  induction xs with
  | nil => intro x; simp
  | cons z xs ih =>
    intro x
    obtain ⟨h1, h2⟩ := ih (min x z)
    rw [List.foldl_cons]
    refine ⟨?_, fun y hy => ?_⟩
    · rcases List.mem_cons.mp h1 with h | h
      · rw [h]; rcases Int.le_total x z with q | q
        · rw [Int.min_eq_left q]; simp
        · rw [Int.min_eq_right q]; simp
      · simp [h]
    · have h3 := h2 (min x z) (by simp)
      rcases List.mem_cons.mp hy with h | h
      · subst h; omega
      rcases List.mem_cons.mp h with h | h
      · subst h; omega
      · exact h2 y (by simp [h])
def fMinL : List D → (D → Prop) → Prop
  | [.int i, .int j], Q => Q (.int (min i j))
  | _, _ => False
theorem o_min : OpN K (fun xs H Q => ∃ i j, xs = [.int i, .int j] ∧ Q (.int (if j < i then j else i)) H) fMinL := by
  intro U H xs ds Qd Q up rs hf k
  unfold fMinL at hf
  split at hf
  · cases rs with | cons r rs => cases rs with | cons r' rs =>
      cases rs; cases r; cases r'
      rename_i i j
      have e : (if j < i then j else i) = min i j := by split <;> omega
      exact ⟨_, _, rfl, by rw [e]; exact k _ _ _ hf (Same.refl _) (.int _)⟩
  · exact hf.elim
def fSum : List D → (D → Prop) → Prop
  | [.list ds], Q => ∃ ns, intsD ds = some ns ∧ Q (.int ns.sum)
  | _, _ => False
theorem o_sum : OpN K (rSum K) fSum := by
  intro U H xs ds Qd Q up rs hf k
  unfold fSum at hf
  split at hf
  · cases rs with | cons r rs => cases rs; cases r with | lst e1 n1 r1 =>
      obtain ⟨ns, e, q⟩ := hf
      rw [intsD_eq e] at r1
      have e' := r1.ints
      subst e'
      exact ⟨_, ns, rfl, .inl (.inl e1), k _ _ _ q (Same.refl _) (.int _)⟩
  · exact hf.elim
def fList : List D → (D → Prop) → Prop
  | [.list ds], Q => Q (.list ds)
  | [.tuple ds], Q => Q (.list ds)
  | _, _ => False
theorem o_list : OpN K (fun xs H Q => ∃ p ys, xs = [.ref p] ∧ (SqL K H p ys ∨ SqT K H p ys) ∧ ∀ l, H l = none → Q (.ref l) (upd H l (.lst ys))) fList := by
  intro U H xs ds Qd Q up rs hf k
  unfold fList at hf
  split at hf
  · cases rs with | cons r rs => cases rs; cases r with | lst e1 n1 r1 =>
      refine ⟨_, _, rfl, .inl (.inl (.inl e1)), fun l hl => ?_⟩
      have q := new_lst up hl r1
      exact k _ _ _ hf q.1 q.2
  · cases rs with | cons r rs => cases rs; cases r with | tup e1 r1 =>
      refine ⟨_, _, rfl, .inr (.inl (.inl e1)), fun l hl => ?_⟩
      have q := new_lst up hl r1
      exact k _ _ _ hf q.1 q.2
  · exact hf.elim
end
end DD

set_option Elab.async false
set_option linter.all false
set_option maxRecDepth 100000
set_option maxHeartbeats 4000000
/-! DD, part 3: operators by name, tests, slices, what a for walks, comprehensions -/
namespace DD
open PySem PySem.Spec PyProof.Rows L2

/-- what stands around -/
structure Ok (X : Cx) (k : Nat) : Prop where
  room : Room k X.A
  gd : X.A.guards = some []
  calm : X.calm = true
theorem Ok.u64 {X : Cx} {k : Nat} (O : Ok X k) : X.A.units + 64 < cLine := O.room.units
theorem Ok.u65 {X : Cx} {k : Nat} (O : Ok X k) : X.A.units + 65 < cLine := by have := O.room.un; omega

section
variable {X : Cx} {b : Bool} {Γ : List Kd} {k : Nat} {e a c f : Expr} {es : List Expr} {pos p : Pos} {ωa ωb ωc : DE} {ωs : DA}

/-! ### operators -/
theorem J_add (ha : J X b Γ a ωa) (hb : J X b Γ c ωb) : J X b Γ (.BinOp a .Add c pos) (e2 fAdd ωa ωb) := J_op o_add (pe_op ((op_add.or op_add_str).or (L2.op_cat.or op_catT)) ha hb)
theorem J_sub (ha : J X b Γ a ωa) (hb : J X b Γ c ωb) : J X b Γ (.BinOp a .Sub c pos) (e2 fSub ωa ωb) := J_op o_sub (pe_op op_sub ha hb)
theorem J_mul (ha : J X b Γ a ωa) (hb : J X b Γ c ωb) : J X b Γ (.BinOp a .Mult c pos) (e2 fMul ωa ωb) := J_op o_mul (pe_op (op_mulW.or L2.op_rep) ha hb)
theorem J_div (ha : J X b Γ a ωa) (hb : J X b Γ c ωb) : J X b Γ (.BinOp a .FloorDiv c pos) (e2 fDiv ωa ωb) := J_op o_div (pe_op op_fdivW ha hb)
theorem J_mod (ha : J X b Γ a ωa) (hb : J X b Γ c ωb) : J X b Γ (.BinOp a .Mod c pos) (e2 fMod ωa ωb) := J_op o_mod (pe_op op_mod ha hb)
theorem J_pow (ha : J X b Γ a ωa) (hb : J X b Γ c ωb) : J X b Γ (.BinOp a .Pow c pos) (e2 fPow ωa ωb) := J_op o_pow (pe_op op_pow ha hb)
theorem J_shl (ha : J X b Γ a ωa) (hb : J X b Γ c ωb) : J X b Γ (.BinOp a .LShift c pos) (e2 fShl ωa ωb) := J_op o_shl (pe_op op_shl ha hb)
theorem J_neg (ha : J X b Γ a ωa) : J X b Γ (.UnaryOp .USub a pos) (e1 fNeg ωa) := J_op1 o_neg (pe_un un_neg ha)
theorem J_lt (ha : J X b Γ a ωa) (hb : J X b Γ c ωb) : J X b Γ (.Compare a [.Lt] [c] pos) (e2 fLt ωa ωb) := J_op o_cmp (pe_cmpR op_lt ha hb (nomark _))
theorem J_le (ha : J X b Γ a ωa) (hb : J X b Γ c ωb) : J X b Γ (.Compare a [.LtE] [c] pos) (e2 fLe ωa ωb) := J_op o_cmp (pe_cmpR op_le ha hb (nomark _))
theorem J_gt (ha : J X b Γ a ωa) (hb : J X b Γ c ωb) : J X b Γ (.Compare a [.Gt] [c] pos) (e2 fGt ωa ωb) := J_op o_cmp (pe_cmpR op_gt ha hb (nomark _))
theorem J_ge (ha : J X b Γ a ωa) (hb : J X b Γ c ωb) : J X b Γ (.Compare a [.GtE] [c] pos) (e2 fGe ωa ωb) := J_op o_cmp (pe_cmpR op_ge ha hb (nomark _))
theorem J_eq (O : Ok X k) (ha : J X b Γ a ωa) (hb : J X b Γ c ωb) : J X b Γ (.Compare a [.Eq] [c] pos) (e2 fEq ωa ωb) := J_op o_eq (pe_cmpR (op_eq.or (op_eqD O.u64)) ha hb (nomark _))
theorem J_ne (O : Ok X k) (ha : J X b Γ a ωa) (hb : J X b Γ c ωb) : J X b Γ (.Compare a [.NotEq] [c] pos) (e2 fNe ωa ωb) := J_op o_ne (pe_cmpR (op_ne.or (op_neD O.u64)) ha hb (nomark _))
theorem J_is (ha : J X b Γ a ωa) (hb : J X b Γ c ωb) : J X b Γ (.Compare a [.Is] [c] pos) (e2 fIs ωa ωb) := J_op o_is (pe_cmpR (op_isN.or op_isBl) ha hb (nomark _))
theorem J_isNot (ha : J X b Γ a ωa) (hb : J X b Γ c ωb) : J X b Γ (.Compare a [.IsNot] [c] pos) (e2 fIsNot ωa ωb) := J_op o_isNot (pe_cmpR (op_notN.or op_notBl) ha hb (nomark _))
theorem J_in (O : Ok X k) (ha : J X b Γ a ωa) (hb : J X b Γ c ωb) (hm : behindInMarks .In c = false := by with_unfolding_all rfl) : J X b Γ (.Compare a [.In] [c] pos) (e2 fIn ωa ωb) := J_op o_in (pe_cmpR (op_inD O.u65) ha hb hm)
theorem J_notIn (O : Ok X k) (ha : J X b Γ a ωa) (hb : J X b Γ c ωb) (hm : behindInMarks .NotIn c = false := by with_unfolding_all rfl) : J X b Γ (.Compare a [.NotIn] [c] pos) (e2 fNotIn ωa ωb) := J_op o_notIn (pe_cmpR (op_notInD O.u65) ha hb hm)
theorem J_ix (ha : J X b Γ a ωa) (hb : J X b Γ c ωb) (hs : PlainIx c := by exact fun _ _ => rfl) : J X b Γ (.Subscript a c pos) (e2 fIx ωa ωb) := J_op o_ix (pe_ix ix_seq ha hb hs)

/-! ### tests -/
theorem Stp.tof {w : Own} {H H' : Hp} (h : Stp b w H H') : Stp false w H H' := fun x o q e => by
  rcases q with q | q
  · cases q
  · exact h x o (.inr q) e
def tBool (ω : DE) : DT := fun ρ Q => ω ρ fun d ρ1 => ∃ x, d = .bool x ∧ Q x ρ1
theorem JT_test {t : TE} {ω : DE} (h : PT X e (tTest t)) (i : ∀ σ H Q, tJ X.K b Γ ω σ H Q → t σ H Q) : JT X Γ e (tBool ω) :=
  PT.imp h fun σ H Q ⟨B, w, ρ, Qd, S, ω', k⟩ => i σ H _ ⟨B, w, ρ, _, S, ω', fun d ρ1 ⟨x, ed, q⟩ v H' p S' r => by
    subst ed
    cases r
    exact ⟨x, rfl, k _ _ q H' p.tof S'⟩⟩
theorem JT_lt (ha : J X b Γ a ωa) (hb : J X b Γ c ωb) : JT X Γ (.Compare a [.Lt] [c] pos) (tBool (e2 fLt ωa ωb)) := JT_test (pt_cmpR op_lt ha hb (nomark _)) (op_imp o_cmp)
theorem JT_le (ha : J X b Γ a ωa) (hb : J X b Γ c ωb) : JT X Γ (.Compare a [.LtE] [c] pos) (tBool (e2 fLe ωa ωb)) := JT_test (pt_cmpR op_le ha hb (nomark _)) (op_imp o_cmp)
theorem JT_gt (ha : J X b Γ a ωa) (hb : J X b Γ c ωb) : JT X Γ (.Compare a [.Gt] [c] pos) (tBool (e2 fGt ωa ωb)) := JT_test (pt_cmpR op_gt ha hb (nomark _)) (op_imp o_cmp)
theorem JT_ge (ha : J X b Γ a ωa) (hb : J X b Γ c ωb) : JT X Γ (.Compare a [.GtE] [c] pos) (tBool (e2 fGe ωa ωb)) := JT_test (pt_cmpR op_ge ha hb (nomark _)) (op_imp o_cmp)
theorem JT_eq (O : Ok X k) (ha : J X b Γ a ωa) (hb : J X b Γ c ωb) : JT X Γ (.Compare a [.Eq] [c] pos) (tBool (e2 fEq ωa ωb)) := JT_test (pt_cmpR (op_eq.or (op_eqD O.u64)) ha hb (nomark _)) (op_imp o_eq)
theorem JT_ne (O : Ok X k) (ha : J X b Γ a ωa) (hb : J X b Γ c ωb) : JT X Γ (.Compare a [.NotEq] [c] pos) (tBool (e2 fNe ωa ωb)) := JT_test (pt_cmpR (op_ne.or (op_neD O.u64)) ha hb (nomark _)) (op_imp o_ne)
theorem JT_is (ha : J X b Γ a ωa) (hb : J X b Γ c ωb) : JT X Γ (.Compare a [.Is] [c] pos) (tBool (e2 fIs ωa ωb)) := JT_test (pt_cmpR (op_isN.or op_isBl) ha hb (nomark _)) (op_imp o_is)
theorem JT_isNot (ha : J X b Γ a ωa) (hb : J X b Γ c ωb) : JT X Γ (.Compare a [.IsNot] [c] pos) (tBool (e2 fIsNot ωa ωb)) := JT_test (pt_cmpR (op_notN.or op_notBl) ha hb (nomark _)) (op_imp o_isNot)
theorem JT_in (O : Ok X k) (ha : J X b Γ a ωa) (hb : J X b Γ c ωb) (hm : behindInMarks .In c = false := by with_unfolding_all rfl) : JT X Γ (.Compare a [.In] [c] pos) (tBool (e2 fIn ωa ωb)) := JT_test (pt_cmpR (op_inD O.u65) ha hb hm) (op_imp o_in)
theorem JT_notIn (O : Ok X k) (ha : J X b Γ a ωa) (hb : J X b Γ c ωb) (hm : behindInMarks .NotIn c = false := by with_unfolding_all rfl) : JT X Γ (.Compare a [.NotIn] [c] pos) (tBool (e2 fNotIn ωa ωb)) := JT_test (pt_cmpR (op_notInD O.u65) ha hb hm) (op_imp o_notIn)
/-- a value that is a bool -/
theorem JT_val (h : J X b Γ e ωa) (he : ∀ whole, isTrue e X.env whole = (do let v ← whole; standAt e.pos; holding [v] (truthy v)) := by intro _; rfl) : JT X Γ e (tBool ωa) := JT_test (pt_val h he) fun _ _ _ z => z
def tNotD (t : DT) : DT := fun ρ Q => t ρ fun x ρ1 => Q (!x) ρ1
def tAndD (t u : DT) : DT := fun ρ Q => t ρ fun x ρ1 => if x = true then u ρ1 Q else Q false ρ1
def tOrD (t u : DT) : DT := fun ρ Q => t ρ fun x ρ1 => if x = true then Q true ρ1 else u ρ1 Q
variable {ta tb : DT}
theorem JT_not (h : JT X Γ a ta) : JT X Γ (.UnaryOp .Not a pos) (tNotD ta) :=
  PT.imp (pt_not h) fun σ H Q ⟨B, w, ρ, Qd, S, ω, k⟩ => ⟨B, w, ρ, _, S, ω, fun x ρ1 q H' p S' => k _ _ q H' p S'⟩
theorem JW_and1 (h : JT X Γ a ta) : JW X Γ (.BoolOp .And [a] pos) ta := pw_and1 h
theorem JW_or1 (h : JT X Γ a ta) : JW X Γ (.BoolOp .Or [a] pos) ta := pw_or1 h
theorem JW_and (h : JT X Γ a ta) (hr : JW X Γ (.BoolOp .And (c :: es) pos) tb) : JW X Γ (.BoolOp .And (a :: c :: es) pos) (tAndD ta tb) :=
  PW.imp (pw_and h hr) fun σ H Q ⟨B, w, ρ, Qd, S, ω, k⟩ => ⟨B, w, ρ, _, S, ω, fun x ρ1 q H' p S' => by
    cases x with
    | true =>
      rw [if_pos rfl] at q ⊢
      exact ⟨B, w, ρ1, _, S', q, fun y ρ2 q2 H2 p2 S2 => k _ _ q2 H2 (p.trans p2) S2⟩
    | false =>
      rw [if_neg Bool.false_ne_true] at q ⊢
      exact k _ _ q H' p S'⟩
theorem JW_or (h : JT X Γ a ta) (hr : JW X Γ (.BoolOp .Or (c :: es) pos) tb) : JW X Γ (.BoolOp .Or (a :: c :: es) pos) (tOrD ta tb) :=
  PW.imp (pw_or h hr) fun σ H Q ⟨B, w, ρ, Qd, S, ω, k⟩ => ⟨B, w, ρ, _, S, ω, fun x ρ1 q H' p S' => by
    cases x with
    | false =>
      rw [if_neg Bool.false_ne_true] at q ⊢
      exact ⟨B, w, ρ1, _, S', q, fun y ρ2 q2 H2 p2 S2 => k _ _ q2 H2 (p.trans p2) S2⟩
    | true =>
      rw [if_pos rfl] at q ⊢
      exact k _ _ q H' p S'⟩
theorem JT_W (h : JW X Γ e ta) : JT X Γ e ta := h.pt
/-! and, or, not, if-else as values -/
def eAnd (ωa ωb : DE) : DE := fun ρ Q => ωa ρ fun d ρ1 => ∃ x, d = .bool x ∧ if x = true then ωb ρ1 Q else Q (.bool false) ρ1
def eOr (ωa ωb : DE) : DE := fun ρ Q => ωa ρ fun d ρ1 => ∃ x, d = .bool x ∧ if x = true then Q (.bool true) ρ1 else ωb ρ1 Q
def eNot (ωa : DE) : DE := fun ρ Q => ωa ρ fun d ρ1 => ∃ x, d = .bool x ∧ Q (.bool (!x)) ρ1
theorem J_one {op : BoolOp} (h : J X b Γ a ωa) : J X b Γ (.BoolOp op [a] pos) ωa := pe_one h
theorem J_and (ha : J X b Γ a ωa) (hr : J X b Γ (.BoolOp .And (c :: es) pos) ωb) : J X b Γ (.BoolOp .And (a :: c :: es) pos) (eAnd ωa ωb) :=
  PE.imp (pe_and ha hr) fun σ H Q ⟨B, w, ρ, Qd, S, ω, k⟩ => ⟨B, w, ρ, _, S, ω, fun d ρ1 ⟨x, ed, q⟩ v H' p S' r => by
    subst ed
    cases r
    refine ⟨x, rfl, ?_⟩
    cases x with
    | true =>
      rw [if_pos rfl] at q ⊢
      exact ⟨B, w, ρ1, _, S', q, fun y ρ2 q2 v2 H2 p2 S2 r2 => k _ _ q2 v2 H2 (p.trans p2) S2 r2⟩
    | false =>
      rw [if_neg Bool.false_ne_true] at q ⊢
      exact k _ _ q _ H' p S' (.bl _)⟩
theorem J_or (ha : J X b Γ a ωa) (hr : J X b Γ (.BoolOp .Or (c :: es) pos) ωb) : J X b Γ (.BoolOp .Or (a :: c :: es) pos) (eOr ωa ωb) :=
  PE.imp (pe_or ha hr) fun σ H Q ⟨B, w, ρ, Qd, S, ω, k⟩ => ⟨B, w, ρ, _, S, ω, fun d ρ1 ⟨x, ed, q⟩ v H' p S' r => by
    subst ed
    cases r
    refine ⟨x, rfl, ?_⟩
    cases x with
    | false =>
      rw [if_neg Bool.false_ne_true] at q ⊢
      exact ⟨B, w, ρ1, _, S', q, fun y ρ2 q2 v2 H2 p2 S2 r2 => k _ _ q2 v2 H2 (p.trans p2) S2 r2⟩
    | true =>
      rw [if_pos rfl] at q ⊢
      exact k _ _ q _ H' p S' (.bl _)⟩
theorem J_not (ha : J X b Γ a ωa) : J X b Γ (.UnaryOp .Not a pos) (eNot ωa) :=
  PE.imp (pe_not ha) fun σ H Q ⟨B, w, ρ, Qd, S, ω, k⟩ => ⟨B, w, ρ, _, S, ω, fun d ρ1 ⟨x, ed, q⟩ v H' p S' r => by
    subst ed
    cases r
    exact ⟨x, rfl, k _ _ q _ H' p S' (.bl _)⟩⟩
def eIf (t : DT) (ωa ωb : DE) : DE := fun ρ Q => t ρ fun x ρ1 => if x = true then ωa ρ1 Q else ωb ρ1 Q
theorem J_if (hc : JT X Γ e ta) (ha : J X false Γ a ωa) (hb : J X false Γ c ωb) : J X false Γ (.IfExp e a c pos) (eIf ta ωa ωb) :=
  PE.imp (pe_ifExp hc ha hb) fun σ H Q ⟨B, w, ρ, Qd, S, ω, k⟩ => ⟨B, w, ρ, _, S, ω, fun x ρ1 q H' p S' => by
    cases x with
    | true =>
      rw [if_pos rfl] at q ⊢
      exact ⟨B, w, ρ1, _, S', q, fun y ρ2 q2 v2 H2 p2 S2 r2 => k _ _ q2 v2 H2 (p.trans p2) S2 r2⟩
    | false =>
      rw [if_neg Bool.false_ne_true] at q ⊢
      exact ⟨B, w, ρ1, _, S', q, fun y ρ2 q2 v2 H2 p2 S2 r2 => k _ _ q2 v2 H2 (p.trans p2) S2 r2⟩⟩
/-! chains -/
def eChain (f g : D → D → (D → Prop) → Prop) (ωa ωb ωc : DE) : DE := fun ρ Q => ωa ρ fun x ρ1 => ωb ρ1 fun y ρ2 => f x y fun d => ∃ z, d = .bool z ∧
  if z = true then ωc ρ2 fun u ρ3 => g y u fun d' => Q d' ρ3 else Q (.bool false) ρ2
theorem chain_imp {r r' : R2} {f g : D → D → (D → Prop) → Prop} (o : Op2 X.K r f) (o' : Op2 X.K r' g) : ∀ σ H Q, tJ X.K b Γ (eChain f g ωa ωb ωc) σ H Q → tChain r r' (tJ X.K b Γ ωa) (tJ X.K b Γ ωb) (tJ X.K b Γ ωc) σ H Q :=
  fun σ H Q ⟨B, w, ρ, Qd, S, ω, k⟩ =>
    ⟨B, w, ρ, _, S, ω, fun dx ρ1 q1 v1 H1 p1 S1 r1 => ⟨B, w, ρ1, _, S1, q1, fun dy ρ2 q2 v2 H2 p2 S2 r2 =>
      o (Um b B.U w) H2 v1 v2 dx dy _ _ S2.upm (r1.stp S1 p2) r2 q2 fun d v H3 ⟨z, ed, q3⟩ s3 r3 => by
        subst ed
        cases r3
        refine ⟨z, rfl, ?_⟩
        have S3 := S2.same s3
        cases z with
        | true =>
          rw [if_pos rfl] at q3 ⊢
          exact ⟨B, w, ρ2, _, S3, q3, fun du ρ3 q4 v4 H4 p4 S4 r4 => o' (Um b B.U w) H4 v2 v4 dy du _ Q S4.upm ((r2.stp S2 (Stp.of s3)).stp S3 p4) r4 q4 fun d' v' H5 qd s5 r5 =>
            k d' ρ3 qd v' H5 ((((p1.trans p2).trans (Stp.of s3)).trans p4).trans (Stp.of s5)) (S4.same s5) r5⟩
        | false =>
          rw [if_neg Bool.false_ne_true] at q3 ⊢
          exact k _ _ q3 _ H3 ((p1.trans p2).trans (Stp.of s3)) S3 (.bl _)⟩⟩
theorem J_chain {op op' : CmpOp} {r r' : R2} {f' g : D → D → (D → Prop) → Prop} {e3 : Expr} (ho : OpR X (compareOp op) r) (ho' : OpR X (compareOp op') r') (o : Op2 X.K r f') (o' : Op2 X.K r' g) (ha : J X b Γ a ωa) (hb : J X b Γ c ωb) (hc : J X b Γ e3 ωc)
    (hm : lastMarks [op, op'] [c, e3] = false := by with_unfolding_all rfl) : J X b Γ (.Compare a [op, op'] [c, e3] pos) (eChain f' g ωa ωb ωc) := PE.imp (pe_chain ho ho' ha hb hc hm) (chain_imp o o')
theorem JT_chain {op op' : CmpOp} {r r' : R2} {f' g : D → D → (D → Prop) → Prop} {e3 : Expr} (ho : OpR X (compareOp op) r) (ho' : OpR X (compareOp op') r') (o : Op2 X.K r f') (o' : Op2 X.K r' g) (ha : J X b Γ a ωa) (hb : J X b Γ c ωb) (hc : J X b Γ e3 ωc)
    (hm : lastMarks [op, op'] [c, e3] = false := by with_unfolding_all rfl) : JT X Γ (.Compare a [op, op'] [c, e3] pos) (tBool (eChain f' g ωa ωb ωc)) := JT_test (pt_chain ho ho' ha hb hc hm) (chain_imp o o')

/-! ### slices -/
abbrev DO := Rho → (Option Int → Rho → Prop) → Prop
def tJP (K : PySem.W.Frag) (b : Bool) (Γ : List Kd) (ω : DO) : TO := fun σ H Q => ∃ B w ρ Qd, ST K Γ B w ρ σ H ∧ ω ρ Qd ∧
  ∀ d ρ', Qd d ρ' → ∀ H', Stp b w H H' → ST K Γ B w ρ' σ H' → Q d H'
abbrev JP (X : Cx) (b : Bool) (Γ : List Kd) (e : Option Expr) (ω : DO) : Prop := PO X e (tJP X.K b Γ ω)
theorem PO.imp {e : Option Expr} {t t' : TO} (h : PO X e t) (i : ∀ σ H Q, t' σ H Q → t σ H Q) : PO X e t' := ⟨fun pins s σ H Q I q => h.run pins s σ H Q I (i _ _ _ q)⟩
def pNone : DO := fun ρ Q => Q none ρ
def pSome (ω : DE) : DO := fun ρ Q => ω ρ fun d ρ1 => ∃ i, d = .int i ∧ Q (some i) ρ1
theorem JP_none : JP X b Γ none pNone := PO.imp po_none fun σ H Q ⟨B, w, ρ, Qd, S, q, k⟩ => k _ _ q H Stp.refl S
theorem JP_some (h : J X b Γ e ωa) : JP X b Γ (some e) (pSome ωa) := PO.imp (po_some h) fun σ H Q ⟨B, w, ρ, Qd, S, ω, k⟩ =>
  ⟨B, w, ρ, _, S, ω, fun d ρ1 ⟨i, ed, q⟩ v H' p S' r => by
    subst ed
    cases r
    exact ⟨i, rfl, k _ _ q H' p S'⟩⟩
def eSl (ωa : DE) (ωl ωh : DO) : DE := fun ρ Q => ωa ρ fun x ρ1 => ωl ρ1 fun l ρ2 => ωh ρ2 fun h ρ3 => fSl x l h fun d => Q d ρ3
theorem J_slice {lo hi : Option Expr} {ωl ωh : DO} {p2 : Pos} (ha : J X b Γ a ωa) (hl : JP X b Γ lo ωl) (hh : JP X b Γ hi ωh) : J X b Γ (.Subscript a (.Slice lo hi none p2) pos) (eSl ωa ωl ωh) :=
  PE.imp (pe_slice (sl_list.or sl_tup) ha hl hh) fun σ H Q ⟨B, w, ρ, Qd, S, ω, k⟩ =>
    ⟨B, w, ρ, _, S, ω, fun dx ρ1 q1 v1 H1 p1 S1 r1 => ⟨B, w, ρ1, _, S1, q1, fun l ρ2 q2 H2 p2 S2 => ⟨B, w, ρ2, _, S2, q2, fun h ρ3 q3 H3 p3 S3 => by
      have r3 := (r1.stp S1 p2).stp S2 p3
      cases dx <;> try exact False.elim q3
      · have q3 : Qd (.list (cutD _ l h)) ρ3 := q3
        cases r3 with | lst e1 n1 rs =>
          refine .inl ⟨_, _, rfl, .inl (.inl e1), fun p hp => ?_⟩
          have q := new_lst S3.upm hp (rs.cut l h)
          exact k _ _ q3 _ _ (((p1.trans p2).trans p3).trans (Stp.of q.1)) (S3.same q.1) q.2
      · have q3 : ¬ (_ ∧ _) ∧ Qd (.tuple (cutD _ l h)) ρ3 := q3
        cases r3 with | tup e1 rs =>
          refine .inr ⟨_, _, rfl, .inl (.inl e1), ?_, fun p hp => ?_⟩
          · rw [rs.length]; exact q3.1
          have q := new_tup hp (rs.cut l h)
          exact k _ _ q3.2 _ _ (((p1.trans p2).trans p3).trans (Stp.of q.1)) (S3.same q.1) q.2⟩⟩⟩
def fRev : D → (D → Prop) → Prop
  | .list ds, Q => Q (.list ds.reverse)
  | _, _ => False
theorem J_rev {k1 : Nat} {p1 p2 p3 : Pos} (ha : J X b Γ a ωa) : J X b Γ (.Subscript a (.Slice none none (some (.UnaryOp .USub (.Constant (.int 1) k1 p1) p2)) p3) pos) (e1 fRev ωa) :=
  PE.imp (pe_revL ha) fun σ H Q ⟨B, w, ρ, Qd, S, ω, k⟩ => ⟨B, w, ρ, _, S, ω, fun dx ρ1 q1 v1 H1 p1 S1 r1 => by
    unfold fRev at q1
    split at q1
    · cases r1 with | lst e1 n1 rs =>
        refine ⟨_, _, rfl, .inl (.inl e1), fun p hp => ?_⟩
        have q := new_lst S1.upm hp rs.rev
        exact k _ _ q1 _ _ (p1.trans (Stp.of q.1)) (S1.same q.1) q.2
    · exact q1.elim⟩

/-! ### built-ins -/
theorem J_len (hm : X.mg "len" = none) (ha : JA X b Γ (a :: es) ωs) (hg : Gl X "len" := by rfl) (he : starEach (a :: es) X.env = (false, eval a X.env) :: starEach es X.env := by rfl) (hpl : (backTo pos (starEach es X.env)).any (·.1) = false := by rfl) :
    J X b Γ (.Call (.Name "len" p) (a :: es) [] pos) (eN fLen ωs) := J_opN o_len (pe_callB call_len hg hm boot_len ha (he := he) (hpl := hpl))
theorem J_intc (hm : X.mg "int" = none) (ha : JA X b Γ (a :: es) ωs) (hg : Gl X "int" := by rfl) (he : starEach (a :: es) X.env = (false, eval a X.env) :: starEach es X.env := by rfl) (hpl : (backTo pos (starEach es X.env)).any (·.1) = false := by rfl) :
    J X b Γ (.Call (.Name "int" p) (a :: es) [] pos) (eN fInt ωs) := J_opN o_intc (pe_callTy call_int1 hg hm (by decide +kernel) ha (he := he) (hpl := hpl))
theorem J_abs (hm : X.mg "abs" = none) (ha : JA X b Γ (a :: es) ωs) (hg : Gl X "abs" := by rfl) (he : starEach (a :: es) X.env = (false, eval a X.env) :: starEach es X.env := by rfl) (hpl : (backTo pos (starEach es X.env)).any (·.1) = false := by rfl) :
    J X b Γ (.Call (.Name "abs" p) (a :: es) [] pos) (eN fAbs ωs) := J_opN o_abs (pe_callB call_abs hg hm (by decide +kernel) ha (he := he) (hpl := hpl))
theorem J_max (O : Ok X k) (hm : X.mg "max" = none) (ha : JA X b Γ (a :: es) ωs) (hg : Gl X "max" := by rfl) (he : starEach (a :: es) X.env = (false, eval a X.env) :: starEach es X.env := by rfl) (hpl : (backTo pos (starEach es X.env)).any (·.1) = false := by rfl) :
    J X b Γ (.Call (.Name "max" p) (a :: es) [] pos) (eN fMaxL ωs) := J_opN o_max (pe_callB ((cr_max O.calm).or (call_max2 O.calm)) hg hm (by decide +kernel) ha (he := he) (hpl := hpl))
theorem J_min (O : Ok X k) (hm : X.mg "min" = none) (ha : JA X b Γ (a :: es) ωs) (hg : Gl X "min" := by rfl) (he : starEach (a :: es) X.env = (false, eval a X.env) :: starEach es X.env := by rfl) (hpl : (backTo pos (starEach es X.env)).any (·.1) = false := by rfl) :
    J X b Γ (.Call (.Name "min" p) (a :: es) [] pos) (eN fMinL ωs) := J_opN o_min (pe_callB (call_min2 O.calm) hg hm (by decide +kernel) ha (he := he) (hpl := hpl))
theorem J_sum (O : Ok X k) (hm : X.mg "sum" = none) (ha : JA X b Γ (a :: es) ωs) (hg : Gl X "sum" := by rfl) (he : starEach (a :: es) X.env = (false, eval a X.env) :: starEach es X.env := by rfl) (hpl : (backTo pos (starEach es X.env)).any (·.1) = false := by rfl) :
    J X b Γ (.Call (.Name "sum" p) (a :: es) [] pos) (eN fSum ωs) := J_opN o_sum (pe_callB (cr_sum O.calm) hg hm (by decide +kernel) ha (he := he) (hpl := hpl))
theorem J_list (hm : X.mg "list" = none) (ha : JA X b Γ (a :: es) ωs) (hg : Gl X "list" := by rfl) (he : starEach (a :: es) X.env = (false, eval a X.env) :: starEach es X.env := by rfl) (hpl : (backTo pos (starEach es X.env)).any (·.1) = false := by rfl) :
    J X b Γ (.Call (.Name "list" p) (a :: es) [] pos) (eN fList ωs) := J_opN o_list (pe_callTy call_list_of hg hm (by decide +kernel) ha (he := he) (hpl := hpl))
end

/-! ### what a for walks -/
abbrev DI := Rho → (List D → Rho → Prop) → Prop
def ItD (K : PySem.W.Frag) (Jt : It) (ds : List D) (H : Hp) (U : US) : Prop := ∀ H1 U1, Lat H U H1 U1 → (∀ a, U1 a → H1 a ≠ none) →
  Jt.stop ds.length H1 ∧ ∀ i d, ds[i]? = some d → Jt.go i H1 ∧ ∀ x H2, Jt.yld i H1 x H2 → Same H1 H2 ∧ RD K H2 U1 x d
def tJI (K : PySem.W.Frag) (Γ : List Kd) (ω : DI) : TI := fun σ H R => ∃ B w ρ Qd, ST K Γ B w ρ σ H ∧ ω ρ Qd ∧
  ∀ ds ρ', Qd ds ρ' → ∀ Jt H', Stp false w H H' → ST K Γ B w ρ' σ H' → ItD K Jt ds H' (T B.U w) → R Jt H'
abbrev JI (X : Cx) (Γ : List Kd) (tg e : Expr) (ω : DI) : Prop := PI X tg e (tJI X.K Γ ω)
section
variable {X : Cx} {b : Bool} {Γ : List Kd} {k : Nat} {tg e a c f : Expr} {es : List Expr} {pos p : Pos} {ωa ωb ωc : DE} {ωs : DA}
theorem PI.imp {t t' : TI} (h : PI X tg e t) (i : ∀ σ H Q, t' σ H Q → t σ H Q) : PI X tg e t' := ⟨fun pins s σ H Q I q => h.run pins s σ H Q I (i _ _ _ q)⟩
theorem RD.um {K : PySem.W.Frag} {H : Hp} {U : US} {w : Own} {v : V} {d : D} (r : RD K H (Um false U w) v d) : RD K H (T U w) v d := RD.lat (Lat.weak fun _ h => ⟨rfl, h⟩) _ _ r
theorem RDs.um {K : PySem.W.Frag} {H : Hp} {U : US} {w : Own} {v : List V} {d : List D} (r : RDs K H (Um false U w) v d) : RDs K H (T U w) v d := RDs.lat (Lat.weak fun _ h => ⟨rfl, h⟩) _ _ r
def iLst (ω : DE) : DI := fun ρ Q => ω ρ fun d ρ1 => ∃ ds, d = .list ds ∧ Q ds ρ1
theorem itd_list {K : PySem.W.Frag} {H : Hp} {U : US} {l : Addr} {xs : List V} {ds : List D} (e : H l = some (.lst xs)) (n : ¬ U l) (r : RDs K H U xs ds) : ItD K (Itl K l) ds H U := by
  intro H1 U1 L up
  have e1 := (L.fz _ _ e n).1
  have r1 := RDs.lat L _ _ r
  refine ⟨⟨xs, .inl (.inl e1), by rw [r.length]; exact Nat.le_refl _⟩, fun i d hd => ?_⟩
  obtain ⟨v, ev, rv⟩ := r1.get hd
  refine ⟨⟨xs, v, .inl (.inl e1), ev⟩, fun x H2 ⟨eh, y⟩ => ?_⟩
  subst eh
  have := y xs (.inl (.inl e1))
  rw [ev] at this
  cases this
  exact ⟨Same.refl _, rv⟩
theorem JI_list (h : J X false Γ e ωa) : JI X Γ tg e (iLst ωa) :=
  PI.imp (pi_list h) fun σ H R ⟨B, w, ρ, Qd, S, ω, k⟩ => ⟨B, w, ρ, _, S, ω, fun d ρ1 ⟨ds, ed, q⟩ v H' p S' r => by
    subst ed
    cases r with | lst e1 n1 rs =>
      exact ⟨_, rfl, ⟨_, .inl (.inl e1)⟩, k _ _ q _ _ p S' (itd_list e1 (fun z => n1 ⟨rfl, z⟩) rs.um)⟩⟩
def rngD (lo : Int) (n : Nat) : List D := (List.range n).map fun i => .int (lo + (i : Nat))
theorem itd_range {K : PySem.W.Frag} {H : Hp} {U : US} {lo : Int} {n : Nat} : ItD K (Itr lo n) (rngD lo n) H U := by
  intro H1 U1 L up
  have hl : (rngD lo n).length = n := by simp [rngD]
  refine ⟨by show n ≤ _; rw [hl]; exact Nat.le_refl _, fun i d hd => ?_⟩
  have hi : i < n := by
    have := (List.getElem?_eq_some_iff.mp hd).1
    omega
  refine ⟨hi, fun x H2 ⟨eh, ex⟩ => ?_⟩
  subst eh ex
  have : (rngD lo n)[i]? = some (.int (lo + (i : Nat))) := by simp [rngD, hi]
  rw [this] at hd
  cases hd
  exact ⟨Same.refl _, .int _⟩
def iRg1 (ω : DA) : DI := fun ρ Q => ω ρ fun ds ρ1 => ∃ n, ds = [.int n] ∧ (-(2 ^ 62) ≤ n ∧ n < 2 ^ 62) ∧ Q (rngD 0 n.toNat) ρ1
def iRg2 (ω : DA) : DI := fun ρ Q => ω ρ fun ds ρ1 => ∃ m n, ds = [.int m, .int n] ∧ (-(2 ^ 62) ≤ m ∧ m < 2 ^ 62 ∧ -(2 ^ 62) ≤ n ∧ n < 2 ^ 62) ∧ Q (rngD m (n - m).toNat) ρ1
theorem JI_range1 (hm : X.mg "range" = none) (ha : JA X false Γ [a] ωs) (hg : Gl X "range" := by rfl) (hs : starEach [a] X.env = [(false, eval a X.env)] := by rfl) : JI X Γ tg (.Call (.Name "range" p) [a] [] pos) (iRg1 ωs) :=
  PI.imp (pi_range1 hg hm ha hs) fun σ H R ⟨B, w, ρ, Qd, S, ω, k⟩ => ⟨B, w, ρ, _, S, ω, fun ds ρ1 ⟨n, ed, hn, q⟩ vs H' p S' r => by
    subst ed
    cases r with | cons r rs =>
      cases rs
      cases r
      exact ⟨n, rfl, hn.1, hn.2, k _ _ q _ _ p S' itd_range⟩⟩
theorem JI_range2 (hm : X.mg "range" = none) (ha : JA X false Γ [a, c] ωs) (hg : Gl X "range" := by rfl) (hs : starEach [a, c] X.env = [(false, eval a X.env), (false, eval c X.env)] := by rfl) (hs2 : starEach [c] X.env = [(false, eval c X.env)] := by rfl) : JI X Γ tg (.Call (.Name "range" p) [a, c] [] pos) (iRg2 ωs) :=
  PI.imp (pi_range2 hg hm ha hs hs2) fun σ H R ⟨B, w, ρ, Qd, S, ω, k⟩ => ⟨B, w, ρ, _, S, ω, fun ds ρ1 ⟨m, n, ed, hn, q⟩ vs H' p S' r => by
    subst ed
    cases r with | cons r rs => cases rs with | cons r' rs =>
      cases rs
      cases r
      cases r'
      exact ⟨m, n, rfl, hn, k _ _ q _ _ p S' itd_range⟩⟩
def rngC (lo c : Int) (n : Nat) : List D := (List.range n).map fun i => .int (lo + (i : Nat) * c)
theorem itd_rangeC {K : PySem.W.Frag} {H : Hp} {U : US} {lo c : Int} {n : Nat} : ItD K (Itc lo c n) (rngC lo c n) H U := by
  intro H1 U1 L up
  have hl : (rngC lo c n).length = n := by simp [rngC]
  refine ⟨by show n ≤ _; rw [hl]; exact Nat.le_refl _, fun i d hd => ?_⟩
  have hi : i < n := by
    have := (List.getElem?_eq_some_iff.mp hd).1
    omega
  refine ⟨hi, fun x H2 ⟨eh, ex⟩ => ?_⟩
  subst eh ex
  have : (rngC lo c n)[i]? = some (.int (lo + (i : Nat) * c)) := by simp [rngC, hi]
  rw [this] at hd
  cases hd
  exact ⟨Same.refl _, .int _⟩
/-- how many turns a step range upward has -/
def upTurns (i j c : Int) : Nat := ((j - i + c - 1) / c).toNat
theorem RgC.up {i j c : Int} (hi : -(2 ^ 62) ≤ i) (hi' : i < 2 ^ 62) (hj : -(2 ^ 62) ≤ j) (hj' : j < 2 ^ 62) (hc : 0 < c) (hc' : c < 2 ^ 29) : RgC i j c (upTurns i j c) := by
  have hs : Builtin.Range.rangeSize i j c = (upTurns i j c : Int) := by
    unfold Builtin.Range.rangeSize upTurns
    rw [if_pos hc]
    by_cases h : i < j
    · rw [if_pos h]
      have e : j - i + c - 1 = (j - i - 1) + c := by omega
      rw [e, Int.add_ediv_of_dvd_right (Int.dvd_refl c), Int.ediv_self (by omega)]
      have : 0 ≤ (j - i - 1) / c := Int.ediv_nonneg (by omega) (by omega)
      omega
    · rw [if_neg h]
      have : (j - i + c - 1) / c < 1 := Int.ediv_lt_of_lt_mul hc (by omega)
      omega
  have hlt : (upTurns i j c : Int) ≤ 2 ^ 63 - 1 := by
    rw [← hs]
    unfold Builtin.Range.rangeSize
    rw [if_pos hc]
    split
    · have : (j - i - 1) / c ≤ j - i - 1 := Int.ediv_le_self _ (by omega)
      omega
    · decide
  refine ⟨by omega, by omega, ?_, hs⟩
  have fl : ∀ z : Int, -(2 ^ 63) ≤ z → z < 2 ^ 63 → Builtin.Range.rangeFitsLong z = true := fun z h1 h2 => by
    unfold Builtin.Range.rangeFitsLong
    rw [Bool.and_eq_true, decide_eq_true_eq, decide_eq_true_eq]
    exact ⟨h1, h2⟩
  unfold Builtin.Range.small
  rw [hs, fl i (by omega) (by omega), fl j (by omega) (by omega), fl c (by omega) (by omega), fl _ (by omega) (by omega), if_pos hc, fl _ (by omega) (by omega)]
  simp
def iRg3 (ω : DA) : DI := fun ρ Q => ω ρ fun ds ρ1 => ∃ i j c, ds = [.int i, .int j, .int c] ∧
  (((-(2 ^ 62) ≤ i ∧ i < 2 ^ 62 ∧ -(2 ^ 62) ≤ j ∧ j < 2 ^ 62 ∧ 0 < c ∧ c < 2 ^ 29) ∧ Q (rngC i c (upTurns i j c)) ρ1) ∨ ((-(2 ^ 62) ≤ i ∧ i < 2 ^ 62 ∧ -(2 ^ 62) ≤ j ∧ j < 2 ^ 62 ∧ c = -1) ∧ Q (rngC i c (i - j).toNat) ρ1))
theorem JI_range3 {d : Expr} (hm : X.mg "range" = none) (ha : JA X false Γ [a, c, d] ωs) (hg : Gl X "range" := by rfl) (hs : starEach [a, c, d] X.env = (false, eval a X.env) :: starEach [c, d] X.env := by rfl) (hpl : (backTo pos (starEach [c, d] X.env)).any (·.1) = false := by rfl) : JI X Γ tg (.Call (.Name "range" p) [a, c, d] [] pos) (iRg3 ωs) :=
  PI.imp (pi_range3 hg hm ha hs hpl) fun σ H R ⟨B, w, ρ, Qd, S, ω, k⟩ => ⟨B, w, ρ, _, S, ω, fun ds ρ1 ⟨i, j, c, ed, q⟩ vs H' p S' r => by
    subst ed
    cases r with | cons r rs => cases rs with | cons r' rs => cases rs with | cons r'' rs =>
      cases rs
      cases r
      cases r'
      cases r''
      rcases q with ⟨⟨h1, h2, h3, h4, h5, h6⟩, q⟩ | ⟨⟨h1, h2, h3, h4, rfl⟩, q⟩
      · exact ⟨i, j, c, _, rfl, RgC.up h1 h2 h3 h4 h5 h6, k _ _ q _ _ p S' itd_rangeC⟩
      · exact ⟨i, j, -1, _, rfl, RgC.neg h1 h2 h3 h4, k _ _ q _ _ p S' itd_rangeC⟩⟩
def zipD : List D → List D → List D
  | x :: xs, y :: ys => .tuple [x, y] :: zipD xs ys
  | _, _ => []
theorem zipD_len : ∀ xs ys : List D, (zipD xs ys).length = min xs.length ys.length
  | [], _ => by simp [zipD]
  | _ :: _, [] => by simp [zipD]
  | x :: xs, y :: ys => by simp [zipD, zipD_len xs ys]
theorem zipD_get : ∀ {xs ys : List D} {i : Nat} {d : D}, (zipD xs ys)[i]? = some d → ∃ x y, xs[i]? = some x ∧ ys[i]? = some y ∧ d = .tuple [x, y]
  | [], _, _, _, h => by simp [zipD] at h
  | _ :: _, [], _, _, h => by simp [zipD] at h
  | x :: xs, y :: ys, 0, d, h => by simp [zipD] at h; exact ⟨x, y, rfl, rfl, h.symm⟩
  | x :: xs, y :: ys, i + 1, d, h => by simp [zipD] at h; simpa using zipD_get h
def iZipD (ω : DA) : DI := fun ρ Q => ω ρ fun ds ρ1 => ∃ xs ys, ds = [.list xs, .list ys] ∧ Q (zipD xs ys) ρ1
theorem itd_zip {K : PySem.W.Frag} {H : Hp} {U : US} {l m : Addr} {xs ys : List V} {ds es : List D} (e : H l = some (.lst xs)) (n : ¬ U l) (r : RDs K H U xs ds) (e' : H m = some (.lst ys)) (n' : ¬ U m) (r' : RDs K H U ys es) : ItD K (Itz K l m) (zipD ds es) H U := by
  intro H1 U1 L up
  have s1 : SqL K H1 l xs := .inl (.inl (L.fz _ _ e n).1)
  have s2 : SqL K H1 m ys := .inl (.inl (L.fz _ _ e' n').1)
  have r1 := RDs.lat L _ _ r
  have r2 := RDs.lat L _ _ r'
  refine ⟨⟨xs, ys, s1, s2, ?_⟩, fun i d hd => ?_⟩
  · rw [zipD_len, r.length, r'.length]; omega
  obtain ⟨x, y, hx, hy, rfl⟩ := zipD_get hd
  obtain ⟨v, ev, rv⟩ := r1.get hx
  obtain ⟨u, eu, ru⟩ := r2.get hy
  refine ⟨⟨xs, ys, v, u, s1, s2, ev, eu⟩, fun z H2 ⟨Tt, x', y', ez, hT, eh, f1, f2⟩ => ?_⟩
  subst ez eh
  have g1 := f1 _ s1
  rw [ev] at g1
  cases g1
  have g2 := f2 _ s2
  rw [eu] at g2
  cases g2
  exact new_tup hT (.cons rv (.cons ru .nil))
theorem JI_zip {elts : List Expr} {kk : Nat} {tpos : Pos} (hm : X.mg "zip" = none) (ha : JA X false Γ [a, c] ωs) (hg : Gl X "zip" := by rfl)
    (hs : starEach [a, c] X.env = (false, eval a X.env) :: starEach [c] X.env := by rfl) (hpl : (backTo pos (starEach [c] X.env)).any (·.1) = false := by rfl) : JI X Γ (.Tuple elts kk tpos) (.Call (.Name "zip" p) [a, c] [] pos) (iZipD ωs) :=
  PI.imp (pi_zip hg hm ha hs hpl) fun σ H R ⟨B, w, ρ, Qd, S, ω, k⟩ => ⟨B, w, ρ, _, S, ω, fun ds ρ1 ⟨xs, ys, ed, q⟩ vs H' p S' r => by
    subst ed
    cases r with | cons r rs => cases rs with | cons r' rs =>
      cases rs
      cases r with | lst e1 n1 t1 => cases r' with | lst e2 n2 t2 =>
        exact ⟨_, _, _, _, rfl, .inl (.inl e1), .inl (.inl e2), k _ _ q _ _ p S' (itd_zip e1 (fun z => n1 ⟨rfl, z⟩) t1.um e2 (fun z => n2 ⟨rfl, z⟩) t2.um)⟩⟩
def enumD : Nat → List D → List D
  | _, [] => []
  | n, x :: xs => .tuple [.int n, x] :: enumD (n + 1) xs
theorem enumD_len : ∀ (xs : List D) (n : Nat), (enumD n xs).length = xs.length
  | [], _ => rfl
  | _ :: xs, n => by simp [enumD, enumD_len xs]
theorem enumD_get : ∀ {xs : List D} {n i : Nat} {d : D}, (enumD n xs)[i]? = some d → ∃ x, xs[i]? = some x ∧ d = .tuple [.int (n + i : Nat), x]
  | [], _, _, _, h => by simp [enumD] at h
  | x :: xs, n, 0, d, h => ⟨x, rfl, by simp [enumD] at h; exact h.symm⟩
  | x :: xs, n, i + 1, d, h => by
    simp [enumD] at h
    obtain ⟨y, h1, h2⟩ := enumD_get h
    exact ⟨y, h1, by rw [h2, show n + 1 + i = n + (i + 1) by omega]⟩
def iEnumD (ω : DA) : DI := fun ρ Q => ω ρ fun ds ρ1 => ∃ xs, ds = [.list xs] ∧ Q (enumD 0 xs) ρ1
theorem itd_enum {K : PySem.W.Frag} {H : Hp} {U : US} {l : Addr} {xs : List V} {ds : List D} (e : H l = some (.lst xs)) (n : ¬ U l) (r : RDs K H U xs ds) : ItD K (Ite K l) (enumD 0 ds) H U := by
  intro H1 U1 L up
  have s1 : SqL K H1 l xs := .inl (.inl (L.fz _ _ e n).1)
  have r1 := RDs.lat L _ _ r
  refine ⟨⟨xs, s1, ?_⟩, fun i d hd => ?_⟩
  · rw [enumD_len, r.length]; exact Nat.le_refl _
  obtain ⟨x, hx, rfl⟩ := enumD_get hd
  obtain ⟨v, ev, rv⟩ := r1.get hx
  refine ⟨⟨xs, v, s1, ev⟩, fun z H2 ⟨Tt, x', ez, hT, eh, f1⟩ => ?_⟩
  subst ez eh
  have g1 := f1 _ s1
  rw [ev] at g1
  cases g1
  rw [Nat.zero_add]
  exact new_tup hT (.cons (.int _) (.cons rv .nil))
theorem JI_enum {elts : List Expr} {kk : Nat} {tpos : Pos} (hm : X.mg "enumerate" = none) (ha : JA X false Γ [a] ωs) (hg : Gl X "enumerate" := by rfl)
    (hs : starEach [a] X.env = [(false, eval a X.env)] := by rfl) : JI X Γ (.Tuple elts kk tpos) (.Call (.Name "enumerate" p) [a] [] pos) (iEnumD ωs) :=
  PI.imp (pi_enum hg hm ha hs) fun σ H R ⟨B, w, ρ, Qd, S, ω, k⟩ => ⟨B, w, ρ, _, S, ω, fun ds ρ1 ⟨xs, ed, q⟩ vs H' p S' r => by
    subst ed
    cases r with | cons r rs =>
      cases rs
      cases r with | lst e1 n1 t1 =>
        exact ⟨_, _, rfl, .inl (.inl e1), k _ _ q _ _ p S' (itd_enum e1 (fun z => n1 ⟨rfl, z⟩) t1.um)⟩⟩
end
end DD

set_option Elab.async false
set_option linter.all false
set_option maxRecDepth 100000
set_option maxHeartbeats 4000000
/-! DD, part 4: targets, comprehensions, calls of one's own defs -/
namespace DD
open PySem PySem.Spec PyProof.Rows L2

section
variable {K : PySem.W.Frag} {Γ : List Kd} {B B' : Bx} {w : Own} {ρ ρ' : Rho} {σ σ' : L2.St} {H H' : Hp} {v : V} {d : D} {i : Nat}
/-- a slot of data is given a value -/
theorem ST.put (S : ST K Γ B w ρ σ H) (hk : Γ[i]? = some .fz) (r : RD K H (T B.U w) v d) : ST K Γ B w (ρ.set i (some d)) (σ.set i (some v)) H where
  sr := {
    sl := fun j k d' h1 h2 h3 => by
      by_cases e : i = j
      · subst e
        rw [hk] at h1
        cases h1
        have hl : i < ρ.length := by rw [S.sr.lr]; exact (List.getElem?_eq_some_iff.mp hk).1
        have hs : i < σ.length := by rw [S.sr.ls]; exact (List.getElem?_eq_some_iff.mp hk).1
        rw [List.getElem?_set_self hl] at h3
        cases h3
        exact ⟨v, List.getElem?_set_self hs, r⟩
      · rw [List.getElem?_set_ne e] at h3 ⊢
        exact S.sr.sl j k d' h1 h2 h3
    pr := S.sr.pr
    up := S.sr.up
    ow := S.sr.ow
    lr := by rw [List.length_set]; exact S.sr.lr
    ls := by rw [List.length_set]; exact S.sr.ls }
  b1 := S.b1
  b2 := S.b2
  fx := fun j hj => by
    rw [List.getElem?_set_ne (fun e => by subst e; rcases hj with h | h <;> (rw [hk] at h; cases h))]
    exact S.fx j hj
  b3 := S.b3
/-- slots forgotten -/
theorem ST.less (S : ST K Γ B w ρ σ H) (hf : ∀ j, fixed Γ j → σ'[j]? = σ[j]?) (hr : ρ'.length = ρ.length) (hs : σ'.length = σ.length)
    (h : ∀ (j : Nat) (d : D), ρ'[j]? = some (some d) → ρ[j]? = some (some d) ∧ σ'[j]? = σ[j]?) : ST K Γ B w ρ' σ' H where
  sr := {
    sl := fun j k d' h1 h2 h3 => by
      obtain ⟨q1, q2⟩ := h j d' h3
      rw [q2]
      exact S.sr.sl j k d' h1 h2 q1
    pr := S.sr.pr
    up := S.sr.up
    ow := S.sr.ow
    lr := by rw [hr]; exact S.sr.lr
    ls := by rw [hs]; exact S.sr.ls }
  b1 := S.b1
  b2 := S.b2
  fx := fun j hj => (hf j hj).trans (S.fx j hj)
  b3 := S.b3
end

def allFz (Γ : List Kd) : List Nat → Bool
  | [] => true
  | i :: is => (match Γ[i]? with
    | some .fz => true
    | _ => false) && allFz Γ is
theorem allFz_at {Γ : List Kd} : ∀ {is : List Nat}, allFz Γ is = true → ∀ i ∈ is, Γ[i]? = some .fz
  | [], _, i, h => by cases h
  | j :: js, hh, i, h => by
    rw [allFz, Bool.and_eq_true] at hh
    rcases List.mem_cons.mp h with e | e
    · subst e
      have h1 := hh.1
      split at h1
      · assumption
      · cases h1
    · exact allFz_at hh.2 i e
/-! ### targets -/
abbrev DG := D → Rho → (Rho → Prop) → Prop
def tJG (K : PySem.W.Frag) (Γ : List Kd) (js : List Nat) (γ : DG) : TG := fun v σ H Q => ∃ B w ρ d Qd, ST K Γ B w ρ σ H ∧ RD K H (T B.U w) v d ∧ γ d ρ Qd ∧
  ∀ ρ', Qd ρ' → ∀ σ', ST K Γ B w ρ' σ' H → (∀ i, i ∉ js → σ'[i]? = σ[i]?) → Q σ' H
def tJGs (K : PySem.W.Frag) (Γ : List Kd) (js : List Nat) (γ : List D → Rho → (Rho → Prop) → Prop) : TGs := fun vs σ H Q => ∃ B w ρ ds Qd, ST K Γ B w ρ σ H ∧ RDs K H (T B.U w) vs ds ∧ γ ds ρ Qd ∧
  ∀ ρ', Qd ρ' → ∀ σ', ST K Γ B w ρ' σ' H → (∀ i, i ∉ js → σ'[i]? = σ[i]?) → Q σ' H
abbrev JG (X : Cx) (Γ : List Kd) (js : List Nat) (tg : Expr) (γ : DG) : Prop := PG X tg (tJG X.K Γ js γ)
abbrev JGs (X : Cx) (Γ : List Kd) (js : List Nat) (tg : List Expr) (γ : List D → Rho → (Rho → Prop) → Prop) : Prop := PGs X tg (tJGs X.K Γ js γ)
def gSet (i : Nat) : DG := fun d ρ Q => Q (ρ.set i (some d))
def gNilD : List D → Rho → (Rho → Prop) → Prop := fun ds ρ Q => ds = [] ∧ Q ρ
def gConsD (γ : DG) (γs : List D → Rho → (Rho → Prop) → Prop) : List D → Rho → (Rho → Prop) → Prop
  | [], _, _ => False
  | d :: ds, ρ, Q => γ d ρ fun ρ1 => γs ds ρ1 Q
def gTupD (n : Nat) (γs : List D → Rho → (Rho → Prop) → Prop) : DG
  | .tuple ds, ρ, Q => ds.length = n ∧ γs ds ρ Q
  | _, _, _ => False
section
variable {X : Cx} {Γ : List Kd} {js js' : List Nat} {tg : Expr} {es : List Expr} {γ : DG} {γs : List D → Rho → (Rho → Prop) → Prop} {pos : Pos}
theorem PG.imp {t t' : TG} (h : PG X tg t) (i : ∀ v σ H Q, t' v σ H Q → t v σ H Q) : PG X tg t' := ⟨fun pins s σ H v u Q I r q => h.run pins s σ H v u Q I r (i _ _ _ _ q)⟩
theorem PGs.imp {t t' : TGs} (h : PGs X es t) (i : ∀ v σ H Q, t' v σ H Q → t v σ H Q) : PGs X es t' := ⟨fun pins s σ H v u Q I r q => h.run pins s σ H v u Q I r (i _ _ _ _ q)⟩
theorem JG_name {i : Nat} {x : Str} (hN : X.N.Nodup) (hi : X.N[i]? = some x := by rfl) (hk : Γ[i]? = some .fz := by rfl) (hx : Loc X.env.scope x := by first | exact .inl rfl | exact .inr rfl)
    (hf : X.fn x = true ∨ X.env.scope.names.lookup x = some .local := by first | exact .inl rfl | exact .inr rfl | assumption) : JG X Γ [i] (.Name x pos) (gSet i) :=
  PG.imp (pg_name hN hi hx hf) fun v σ H Q ⟨B, w, ρ, d, Qd, S, r, q, k⟩ => k _ q _ (S.put hk r) fun j hj => List.getElem?_set_ne (fun e => hj (by simp [e]))
theorem JGs_nil : JGs X Γ [] [] gNilD := PGs.imp pgs_nil fun v σ H Q ⟨B, w, ρ, d, Qd, S, r, ⟨e, q⟩, k⟩ => by
  subst e
  cases r
  exact ⟨rfl, k _ q _ S fun _ _ => rfl⟩
theorem JGs_cons (h : JG X Γ js tg γ) (hs : JGs X Γ js' es γs) (he : (assignEach (tg :: es) X.env).map (·.2) = assign tg X.env :: (assignEach es X.env).map (·.2) := by rfl) : JGs X Γ (js ++ js') (tg :: es) (gConsD γ γs) :=
  PGs.imp (pgs_cons h hs he) fun v σ H Q ⟨B, w, ρ, ds, Qd, S, r, q, k⟩ => by
    cases ds with
    | nil => exact q.elim
    | cons d ds =>
      cases r with | cons r rs =>
        exact ⟨_, _, rfl, B, w, ρ, d, _, S, r, q, fun ρ1 q1 σ1 S1 f1 => ⟨B, w, ρ1, ds, _, S1, rs, q1, fun ρ2 q2 σ2 S2 f2 => k _ q2 _ S2 fun i hi =>
          (f2 i fun z => hi (List.mem_append_right _ z)).trans (f1 i fun z => hi (List.mem_append_left _ z))⟩⟩
theorem JG_tup {k n : Nat} (hc : X.calm = true) (h : JGs X Γ js es γs) (hn : (assignEach es X.env).length = n := by rfl) (hst : (assignEach es X.env).findIdx? (·.1) = none := by rfl) : JG X Γ js (.Tuple es k pos) (gTupD n γs) :=
  PG.imp (pg_tup hc h hn hst) fun v σ H Q ⟨B, w, ρ, d, Qd, S, r, q, k⟩ => by
    cases d <;> try exact q.elim
    cases r with | tup e rs =>
      exact ⟨_, _, rfl, .inl (.inl e), rs.length.trans q.1, B, w, ρ, _, _, S, rs, q.2, k⟩
end

/-! ### comprehensions -/
def wipeR (ρ : Rho) : List Nat → Rho
  | [] => ρ
  | v :: vs => (wipeR ρ vs).set v none
def restR (ρ0 ρ : Rho) : List Nat → Rho
  | [] => ρ
  | v :: vs => (restR ρ0 ρ vs).set v ((ρ0[v]?).join)
def lcGo (vs : List Nat) (γ : DG) (ωt : DT) (ωe : DE) : List D → List D → Rho → (D → Rho → Prop) → Prop
  | [], acc, ρ, Q => Q (.list acc) ρ
  | d :: ds, acc, ρ, Q => γ d ρ fun ρ1 => ωt ρ1 fun x ρ2 => if x = true then ωe ρ2 fun y ρ3 => acc.length < sizeLine ∧ lcGo vs γ ωt ωe ds (acc ++ [y]) (wipeR ρ3 vs) Q else lcGo vs γ ωt ωe ds acc (wipeR ρ2 vs) Q
def eLc (vs : List Nat) (ωi : DI) (γ : DG) (ωt : DT) (ωe : DE) : DE := fun ρ Q => ωi ρ fun ds ρ1 => lcGo vs γ ωt ωe ds [] (wipeR ρ1 vs) fun d ρ2 => Q d (restR ρ1 ρ2 vs)
theorem wipeR_len (ρ : Rho) : ∀ vs, (wipeR ρ vs).length = ρ.length
  | [] => rfl
  | v :: vs => by rw [wipeR, List.length_set, wipeR_len ρ vs]
theorem restR_len (ρ0 ρ : Rho) : ∀ vs, (restR ρ0 ρ vs).length = ρ.length
  | [] => rfl
  | v :: vs => by rw [restR, List.length_set, restR_len ρ0 ρ vs]
theorem wipeR_get {ρ : Rho} {j : Nat} {d : D} : ∀ {vs : List Nat}, (wipeR ρ vs)[j]? = some (some d) → ρ[j]? = some (some d) ∧ j ∉ vs
  | [], h => ⟨h, by simp⟩
  | v :: vs, h => by
    rw [wipeR] at h
    by_cases e : v = j
    · subst e
      by_cases hv : v < (wipeR ρ vs).length
      · rw [List.getElem?_set_self hv] at h; cases h
      · rw [List.getElem?_eq_none (by simpa using hv)] at h; cases h
    · rw [List.getElem?_set_ne e] at h
      obtain ⟨h1, h2⟩ := wipeR_get h
      exact ⟨h1, by simp [h2]; exact fun z => e z.symm⟩
theorem restR_get {ρ0 ρ : Rho} {j : Nat} {d : D} : ∀ {vs : List Nat}, (restR ρ0 ρ vs)[j]? = some (some d) → (j ∈ vs ∧ ρ0[j]? = some (some d)) ∨ (j ∉ vs ∧ ρ[j]? = some (some d))
  | [], h => .inr ⟨by simp, h⟩
  | v :: vs, h => by
    rw [restR] at h
    by_cases e : v = j
    · subst e
      by_cases hv : v < (restR ρ0 ρ vs).length
      · rw [List.getElem?_set_self hv] at h
        refine .inl ⟨by simp, ?_⟩
        cases q : ρ0[v]? with
        | none => rw [q] at h; cases h
        | some o => rw [q] at h; simpa using h
      · rw [List.getElem?_eq_none (by simpa using hv)] at h; cases h
    · rw [List.getElem?_set_ne e] at h
      rcases restR_get h with ⟨h1, h2⟩ | ⟨h1, h2⟩
      · exact .inl ⟨by simp [h1], h2⟩
      · exact .inr ⟨by simp [h1]; exact fun z => e z.symm, h2⟩
theorem wipe_get (σ : L2.St) (j : Nat) : ∀ vs : List Nat, (wipe σ vs)[j]? = if j ∈ vs ∧ j < σ.length then some none else σ[j]?
  | [] => by simp [wipe]
  | v :: vs => by
    rw [wipe]
    by_cases e : v = j
    · subst e
      by_cases hv : v < σ.length
      · rw [List.getElem?_set_self (by rw [wipe_length]; exact hv), if_pos ⟨by simp, hv⟩]
      · rw [List.getElem?_eq_none (by rw [List.length_set, wipe_length]; omega), if_neg (fun z => hv z.2), List.getElem?_eq_none (by omega)]
    · rw [List.getElem?_set_ne e, wipe_get σ j vs]
      have : j ∈ v :: vs ↔ j ∈ vs := by simp; exact fun z => absurd z.symm e
      simp [this]
theorem wipe_idem {σ σ2 : L2.St} {vs js : List Nat} (hl : σ2.length = σ.length) (hj : ∀ i ∈ js, i ∈ vs) (h : ∀ i, i ∉ js → σ2[i]? = (wipe σ vs)[i]?) : wipe σ2 vs = wipe σ vs := by
  apply List.ext_getElem?
  intro j
  rw [wipe_get, wipe_get, hl]
  by_cases e : j ∈ vs ∧ j < σ.length
  · rw [if_pos e, if_pos e]
  · rw [if_neg e, if_neg e]
    by_cases ej : j ∈ vs
    · have : ¬ j < σ.length := fun z => e ⟨ej, z⟩
      rw [List.getElem?_eq_none (by omega), List.getElem?_eq_none (by omega)]
    · rw [h j (fun z => ej (hj j z)), wipe_get, if_neg (fun z => ej z.1)]

section
variable {K : PySem.W.Frag} {Γ : List Kd} {B : Bx} {w : Own} {ρ ρ' : Rho} {σ σ' : L2.St} {H H' : Hp} {v : V} {d : D} {i : Nat} {Dn : Addr}
def Bx.more (B : Bx) (Dn : Addr) : Bx := { B with U := fun a => B.U a ∨ a = Dn }
theorem fixed_no {vs : List Nat} (hv : ∀ i ∈ vs, Γ[i]? = some .fz) {j : Nat} (h : fixed Γ j) : j ∉ vs := fun z => by
  rcases h with h | h <;> (rw [hv j z] at h; cases h)
theorem ST.wipe (S : ST K Γ B w ρ σ H) (vs : List Nat) (hv : ∀ i ∈ vs, Γ[i]? = some .fz) : ST K Γ B w (wipeR ρ vs) (L2.wipe σ vs) H := S.less (fun j h => by rw [wipe_get, if_neg (fun z => fixed_no hv h z.1)]) (wipeR_len _ _) (wipe_length _ _) fun j d h => by
  obtain ⟨h1, h2⟩ := wipeR_get h
  exact ⟨h1, by rw [wipe_get, if_neg (fun z => h2 z.1)]⟩
/-- a new list is begun: it is nobody's to look at -/
theorem ST.more (S : ST K Γ B w ρ σ H) (hD : H Dn = none) : ST K Γ (B.more Dn) w ρ σ (upd H Dn (.lst [])) := by
  have s := Same.new (o := .lst []) hD
  have L : Lat H (T B.U w) (upd H Dn (.lst [])) (T (B.more Dn).U w) := ⟨fun a o e n => ⟨s _ _ e, fun z => by
    rcases z with (z | z) | z
    · exact n (.inl z)
    · rw [z, hD] at e; cases e
    · exact n (.inr z)⟩, fun a o e _ => s _ _ e⟩
  refine ⟨⟨fun i k d h1 h2 h3 => ?_, fun a i e => ?_, fun a h => ?_, S.sr.ow, S.sr.lr, S.sr.ls⟩, fun b o h1 h2 => s _ _ (S.b1 b o h1 h2), S.b2, S.fx, S.b3⟩
  · obtain ⟨v, e, r⟩ := S.sr.sl i k d h1 h2 h3
    exact ⟨v, e, r.mono L fun a e => ⟨e, fun xs q => s _ _ q⟩⟩
  · obtain ⟨⟨xs, q⟩, n⟩ := S.sr.pr a i e
    exact ⟨⟨xs, s _ _ q⟩, fun z => z.elim n fun z => by rw [z, hD] at q; cases q⟩
  · rcases h with h | h
    · obtain ⟨o, e⟩ := S.sr.up a h; exact ⟨o, s _ _ e⟩
    · subst h; exact ⟨_, upd_same⟩
theorem lat_hid {U : US} {xs ys : List V} (hD : H Dn = some (.lst xs)) (hU : U Dn) : Lat H U (upd H Dn (.lst ys)) U :=
  ⟨fun a o e n => ⟨by rw [upd_ne (fun z => n (by rw [z]; exact hU))]; exact e, n⟩, fun a o e m => by
    rw [upd_ne (fun z => by rw [z, hD] at e; cases e; exact m trivial)]; exact e⟩
theorem ST.grow {xs ys : List V} (S : ST K Γ B w ρ σ H) (hD : H Dn = some (.lst xs)) (hU : B.U Dn) (hb : B.H0 Dn = none ∨ B.w0 Dn ≠ none) : ST K Γ B w ρ σ (upd H Dn (.lst ys)) := by
  have nw : ∀ a i, w a = some i → a ≠ Dn := fun a i e z => (S.sr.pr a i e).2 (by rw [z]; exact hU)
  refine ⟨⟨fun i k d h1 h2 h3 => ?_, fun a i e => ?_, fun a h => ?_, S.sr.ow, S.sr.lr, S.sr.ls⟩, fun b o h1 h2 => ?_, S.b2, S.fx, S.b3⟩
  · obtain ⟨v, e, r⟩ := S.sr.sl i k d h1 h2 h3
    exact ⟨v, e, r.mono (lat_hid hD (.inl hU)) fun a e => ⟨e, fun xs q => by rw [upd_ne (nw a i e)]; exact q⟩⟩
  · obtain ⟨⟨xs, q⟩, n⟩ := S.sr.pr a i e
    exact ⟨⟨xs, by rw [upd_ne (nw a i e)]; exact q⟩, n⟩
  · by_cases e : a = Dn
    · subst e; exact ⟨_, upd_same⟩
    · rw [upd_ne e]; exact S.sr.up a h
  · have : b ≠ Dn := fun z => by
      subst z
      rcases hb with hb | hb
      · rw [hb] at h1; cases h1
      · exact hb h2
    rw [upd_ne this]
    exact S.b1 b o h1 h2
/-- back to the def's own slots -/
theorem ST.back {ρ0 : Rho} {vs : List Nat} (hv : ∀ i ∈ vs, Γ[i]? = some .fz) (S0 : ST K Γ B w ρ0 σ H) (S : ST K Γ (B.more Dn) w ρ (L2.wipe σ vs) H') (L0 : Lat H (T B.U w) H' (T (B.more Dn).U w)) :
    ST K Γ (B.more Dn) w (restR ρ0 ρ vs) σ H' := by
  refine ⟨⟨fun i k d h1 h2 h3 => ?_, S.sr.pr, S.sr.up, S.sr.ow, by rw [restR_len]; exact S.sr.lr, S0.sr.ls⟩, S.b1, S.b2, S0.fx, S.b3⟩
  rcases restR_get h3 with ⟨q1, q2⟩ | ⟨q1, q2⟩
  · obtain ⟨v, e, r⟩ := S0.sr.sl i k d h1 h2 q2
    rw [hv i q1] at h1
    cases h1
    exact ⟨v, e, RD.lat L0 _ _ r⟩
  · obtain ⟨v, e, r⟩ := S.sr.sl i k d h1 h2 q2
    rw [wipe_get, if_neg (fun z => q1 z.1)] at e
    exact ⟨v, e, r⟩
theorem ST.unmore (S : ST K Γ (B.more Dn) w ρ σ H) : ST K Γ B w ρ σ H := by
  have L : Lat H (T (B.more Dn).U w) H (T B.U w) := Lat.weak fun a h => h.elim (fun z => .inl (.inl z)) .inr
  refine ⟨⟨fun i k d h1 h2 h3 => ?_, fun a i e => ?_, fun a h => S.sr.up a (.inl h), S.sr.ow, S.sr.lr, S.sr.ls⟩, S.b1, S.b2, S.fx, S.b3⟩
  · obtain ⟨v, e, r⟩ := S.sr.sl i k d h1 h2 h3
    exact ⟨v, e, r.mono L fun a e => ⟨e, fun _ q => q⟩⟩
  · obtain ⟨q, n⟩ := S.sr.pr a i e
    exact ⟨q, fun z => n (.inl z)⟩
theorem ST.wnone (S : ST K Γ B w ρ σ H) (h : H Dn = none) : w Dn = none := by
  cases q : w Dn with
  | none => rfl
  | some i => obtain ⟨⟨xs, e⟩, _⟩ := S.sr.pr Dn i q; rw [h] at e; cases e
theorem ST.hb (S : ST K Γ B w ρ σ H) (h : H Dn = none) : (B.more Dn).H0 Dn = none ∨ (B.more Dn).w0 Dn ≠ none := by
  show B.H0 Dn = none ∨ B.w0 Dn ≠ none
  cases q : B.H0 Dn with
  | none => exact .inl rfl
  | some o =>
    refine .inr fun z => ?_
    have := S.b1 Dn o q z
    rw [h] at this; cases this
theorem ST.unone (S : ST K Γ B w ρ σ H) (h : H Dn = none) : ¬ B.U Dn := fun z => by obtain ⟨o, e⟩ := S.sr.up Dn z; rw [h] at e; cases e
theorem ST.earlier (S1 : ST K Γ B w ρ σ H') (p : Stp false w H H') (h : H' Dn = none) : H Dn = none := by
  cases q : H Dn with
  | none => rfl
  | some o =>
    have := p Dn o (.inr (S1.wnone h)) q
    rw [h] at this; cases this
end
/-- a new list: nobody looks at it -/
def tJ1 (K : PySem.W.Frag) (Γ : List Kd) (ω : DE) : TE := fun σ H Q => ∃ B w ρ Qd, ST K Γ B w ρ σ H ∧ ω ρ Qd ∧
  ∀ ds ρ', Qd (.list ds) ρ' → ∀ p xs H', H p = none → (∀ a o, a ≠ p → w a = none → H a = some o → H' a = some o) → ST K Γ (B.more p) w ρ' σ H' → H' p = some (.lst xs) → RDs K H' (T (B.more p).U w) xs ds → Q (.ref p) H'
abbrev J1 (X : Cx) (Γ : List Kd) (e : Expr) (ω : DE) : Prop := PE X e (tJ1 X.K Γ ω)
theorem tJ_1 {K : PySem.W.Frag} {Γ : List Kd} {ω : DE} : ∀ σ H Q, tJ K false Γ ω σ H Q → tJ1 K Γ ω σ H Q := fun σ H Q ⟨B, w, ρ, Qd, S, q, k⟩ =>
  ⟨B, w, ρ, Qd, S, q, fun ds ρ' qd p xs H' hp st S' e r => by
    have LW : Lat H' (T (B.more p).U w) H' (Um false B.U w) := Lat.weak fun a h => h.2.elim (fun z => .inl (.inl z)) .inr
    refine k _ _ qd _ _ (fun a o h e => ?_) S'.unmore (.lst e (fun h => ?_) (RDs.lat LW _ _ r))
    · have h := h.resolve_left (by simp)
      have ap : a ≠ p := fun z => by rw [z, hp] at e; cases e
      exact st a o ap h e
    · rcases h.2 with z | z
      · exact S.unone hp z
      · exact z (S.wnone hp)⟩
theorem J_1 {X : Cx} {Γ : List Kd} {e : Expr} {ω : DE} (h : J1 X Γ e ω) : J X false Γ e ω := PE.imp h tJ_1
section
variable {X : Cx} {Γ : List Kd} {vs js : List Nat} {tg iter elt : Expr} {ifs : List Expr} {γ : DG} {ωi : DI} {ωt : DT} {ωe : DE} {scope : Scope} {own : List (Str × Nat)} {pos : Pos} {kk : Nat}
abbrev JTs (X : Cx) (Γ : List Kd) (ifs : List Expr) (ω : DT) : Prop := PTs X ifs (tJT X.K Γ ω)
def tYesD : DT := fun ρ Q => Q true ρ
theorem JTs_nil : JTs X Γ [] tYesD := ⟨fun pins s σ H Q I ⟨B, w, ρ, Qd, S, q, k⟩ => pts_nil.run pins s σ H Q I (k _ _ q H Stp.refl S)⟩
theorem JTs_one {c : Expr} (h : JT X Γ c ωt) : JTs X Γ [c] ωt := pts_one h
theorem lc_imp1 (hj : ∀ i ∈ js, i ∈ vs) (hv : ∀ i ∈ vs, Γ[i]? = some .fz) : ∀ σ H Q, tJ1 X.K Γ (eLc vs ωi γ ωt ωe) σ H Q →
    tLc (tJI X.K Γ ωi) (tJG X.K Γ js γ) (tJT X.K Γ ωt) (tJ X.K false Γ ωe) vs σ H Q := by
  rintro σ H Q ⟨B, w, ρ, Qd, S, ω, k⟩
  refine ⟨B, w, ρ, _, S, ω, fun ds ρ1 q1 Jt H1 p1 S1 it Dn hD => ?_⟩
  have wD : w Dn = none := by
    cases q : w Dn with
    | none => rfl
    | some i => obtain ⟨⟨xs, e⟩, _⟩ := S1.sr.pr Dn i q; rw [hD] at e; cases e
  have hb : B.H0 Dn = none ∨ B.w0 Dn ≠ none := by
    cases q : B.H0 Dn with
    | none => exact .inl rfl
    | some o =>
      refine .inr fun z => ?_
      have := S1.b1 Dn o q z
      rw [hD] at this; cases this
  refine ⟨fun i m Hh => ∃ ρ' acc accV, ST X.K Γ (B.more Dn) w ρ' (wipe σ vs) Hh ∧ Hh Dn = some (.lst accV) ∧ RDs X.K Hh (T (B.more Dn).U w) accV acc ∧
      lcGo vs γ ωt ωe (ds.drop i) acc ρ' (fun d ρ2 => Qd d (restR ρ1 ρ2 vs)) ∧ m = ds.length - i ∧ i ≤ ds.length ∧ (∀ a o, w a = none → H1 a = some o → Hh a = some o), ⟨ds.length, ?_⟩, ?_⟩
  · exact ⟨wipeR ρ1 vs, [], [], (S1.more hD).wipe vs hv, upd_same, .nil, q1, by simp, Nat.zero_le _, fun a o _ e => Same.new hD a o e⟩
  rintro i m Hh ⟨ρ', acc, accV, Si, eD, ra, go, em, hi, ps⟩
  have LL : Lat H1 (T B.U w) Hh (T (B.more Dn).U w) := by
    refine ⟨fun a o e n => ?_, fun a o e nm => ?_⟩
    · have wa : w a = none := by
        cases q : w a with
        | none => rfl
        | some j => exact absurd (.inr (by rw [q]; simp)) n
      refine ⟨ps a o wa e, fun z => ?_⟩
      rcases z with (z | z) | z
      · exact n (.inl z)
      · rw [z, hD] at e; cases e
      · exact z wa
    · refine ps a o ?_ e
      cases q : w a with
      | none => rfl
      | some j =>
        obtain ⟨⟨xs, e'⟩, _⟩ := S1.sr.pr a j q
        rw [e] at e'; cases e'
        exact absurd trivial nm
  have upT : ∀ a, T (B.more Dn).U w a → Hh a ≠ none := fun a h z => by
    rcases h with h | h
    · obtain ⟨o, e⟩ := Si.sr.up a h; rw [z] at e; cases e
    · cases q : w a with
      | none => exact h q
      | some j => obtain ⟨⟨xs, e⟩, _⟩ := Si.sr.pr a j q; rw [z] at e; cases e
  obtain ⟨st, turn⟩ := it Hh _ LL upT
  by_cases hlt : i < ds.length
  · right
    have hd : ds[i]? = some ds[i] := List.getElem?_eq_getElem hlt
    obtain ⟨g1, g2⟩ := turn i _ hd
    refine ⟨g1, fun H' => ∃ m', m' < m ∧ ∃ ρ' acc accV, ST X.K Γ (B.more Dn) w ρ' (wipe σ vs) H' ∧ H' Dn = some (.lst accV) ∧ RDs X.K H' (T (B.more Dn).U w) accV acc ∧
      lcGo vs γ ωt ωe (ds.drop (i + 1)) acc ρ' (fun d ρ2 => Qd d (restR ρ1 ρ2 vs)) ∧ m' = ds.length - (i + 1) ∧ i + 1 ≤ ds.length ∧ (∀ a o, w a = none → H1 a = some o → H' a = some o), fun H' z => z, fun x H2 y => ?_⟩
    obtain ⟨s2, rx⟩ := g2 x H2 y
    rw [List.drop_eq_getElem_cons hlt, lcGo] at go
    have S2 := Si.same s2
    refine ⟨B.more Dn, w, ρ', _, _, S2, rx, go, fun ρ2 q2 σ2 S3 f2 => ⟨?_, ?_⟩⟩
    · exact wipe_idem (by rw [S3.sr.ls, ← Si.sr.ls, wipe_length]) hj f2
    have ew : wipe σ2 vs = wipe σ vs := wipe_idem (by rw [S3.sr.ls, ← Si.sr.ls, wipe_length]) hj f2
    refine ⟨B.more Dn, w, ρ2, _, S3, q2, fun xb ρ3 q3 H3 p3 S4 => ?_⟩
    have keep3 : ∀ a o, w a = none → Hh a = some o → H3 a = some o := fun a o wa e => p3 a o (.inr wa) (s2 a o e)
    have L3 : Lat Hh (T (B.more Dn).U w) H3 (T (B.more Dn).U w) := (Lat.same s2 fun _ z => z).trans (S3.stpLatT p3)
    cases xb with
    | false =>
      rw [if_neg Bool.false_ne_true] at q3
      refine iteF ?_
      have S5 := S4.wipe vs hv
      rw [ew] at S5
      exact ⟨m - 1, by omega, wipeR ρ3 vs, acc, accV, S5, keep3 _ _ wD eD, RDs.lat L3 _ _ ra, q3, by omega, hlt, fun a o wa e => keep3 a o wa (ps a o wa e)⟩
    | true =>
      rw [if_pos rfl] at q3
      refine iteT ?_
      refine ⟨B.more Dn, w, ρ3, _, S4, q3, fun yd ρ4 ⟨q4, q5⟩ yv H4 p4 S5 ry => ?_⟩
      have keep4 : ∀ a o, w a = none → Hh a = some o → H4 a = some o := fun a o wa e => p4 a o (.inr wa) (keep3 a o wa e)
      have eD4 := keep4 _ _ wD eD
      have L4 : Lat Hh (T (B.more Dn).U w) H4 (T (B.more Dn).U w) := L3.trans (S4.stpLatT p4)
      have Lh : Lat H4 (T (B.more Dn).U w) (upd H4 Dn (.lst (accV ++ [yv]))) (T (B.more Dn).U w) := lat_hid eD4 (.inl (.inr rfl))
      have S6 := (S5.grow (ys := accV ++ [yv]) eD4 (.inr rfl) hb).wipe vs hv
      rw [ew] at S6
      refine ⟨accV, eD4, by rw [ra.length]; exact q4, m - 1, by omega, wipeR ρ4 vs, acc ++ [yd], accV ++ [yv], S6, upd_same, ?_, q5, by omega, hlt, fun a o wa e => ?_⟩
      · exact RDs.lat Lh _ _ ((RDs.lat L4 _ _ ra).append (.cons ry.um .nil))
      · have : a ≠ Dn := fun z => by rw [z, hD] at e; cases e
        rw [upd_ne this]
        exact keep4 a o wa (ps a o wa e)
  · left
    have ei : i = ds.length := by omega
    subst ei
    refine ⟨st, ?_⟩
    rw [List.drop_eq_nil_of_le (Nat.le_refl _), lcGo] at go
    have ap : ∀ a o, H a = some o → a ≠ Dn := fun a o e z => by rw [z, S1.earlier p1 hD] at e; cases e
    exact k _ _ go Dn accV Hh (S1.earlier p1 hD) (fun a o _ wa e => ps a o wa (p1 a o (.inr wa) e)) (S1.back hv Si LL) eD ra
theorem lc_imp (hj : ∀ i ∈ js, i ∈ vs) (hv : ∀ i ∈ vs, Γ[i]? = some .fz) : ∀ σ H Q, tJ X.K false Γ (eLc vs ωi γ ωt ωe) σ H Q →
    tLc (tJI X.K Γ ωi) (tJG X.K Γ js γ) (tJT X.K Γ ωt) (tJ X.K false Γ ωe) vs σ H Q := fun σ H Q h => lc_imp1 hj hv σ H Q (tJ_1 σ H Q h)
theorem J1_lc (O : Ok X kk) (hN : X.N.Nodup) (hi : JI X Γ tg iter ωi) (ok : BlkOk X.N X.env.scope scope own)
    (hg : ∀ (s : Shared) (H : Hp) (C : Addr) (cl : List (Str × Addr)) (fp : List Addr), JG (X.blk s H scope (compEnvC scope cl C X.env) fp) Γ js tg γ)
    (ht : ∀ (s : Shared) (H : Hp) (C : Addr) (cl : List (Str × Addr)) (fp : List Addr), Ok (X.blk s H scope (compEnvC scope cl C X.env) fp) kk → JTs (X.blk s H scope (compEnvC scope cl C X.env) fp) Γ ifs ωt)
    (he : ∀ (s : Shared) (H : Hp) (C : Addr) (cl : List (Str × Addr)) (fp : List Addr), Ok (X.blk s H scope (compEnvC scope cl C X.env) fp) kk → J (X.blk s H scope (compEnvC scope cl C X.env) fp) false Γ elt ωe)
    (hj : ∀ i ∈ js, i ∈ own.map (·.2) := by decide) (hv : allFz Γ (own.map (·.2)) = true := by rfl) (hs : ∀ x, foldedSetIterable iter X.env x = pure x := by intro _; rfl) :
    J1 X Γ (.ListComp elt [⟨tg, iter, ifs, 0⟩] scope pos) (eLc (own.map (·.2)) ωi γ ωt ωe) :=
  PE.imp (pe_lc O.calm hN hi ok hg (fun s H C cl fp => ht s H C cl fp ⟨O.room, O.gd, O.calm⟩) (fun s H C cl fp => he s H C cl fp ⟨O.room, O.gd, O.calm⟩) hs) (lc_imp1 hj (allFz_at hv))
theorem J_lc (O : Ok X kk) (hN : X.N.Nodup) (hi : JI X Γ tg iter ωi) (ok : BlkOk X.N X.env.scope scope own)
    (hg : ∀ (s : Shared) (H : Hp) (C : Addr) (cl : List (Str × Addr)) (fp : List Addr), JG (X.blk s H scope (compEnvC scope cl C X.env) fp) Γ js tg γ)
    (ht : ∀ (s : Shared) (H : Hp) (C : Addr) (cl : List (Str × Addr)) (fp : List Addr), Ok (X.blk s H scope (compEnvC scope cl C X.env) fp) kk → JTs (X.blk s H scope (compEnvC scope cl C X.env) fp) Γ ifs ωt)
    (he : ∀ (s : Shared) (H : Hp) (C : Addr) (cl : List (Str × Addr)) (fp : List Addr), Ok (X.blk s H scope (compEnvC scope cl C X.env) fp) kk → J (X.blk s H scope (compEnvC scope cl C X.env) fp) false Γ elt ωe)
    (hj : ∀ i ∈ js, i ∈ own.map (·.2) := by decide) (hv : allFz Γ (own.map (·.2)) = true := by rfl) (hs : ∀ x, foldedSetIterable iter X.env x = pure x := by intro _; rfl) :
    J X false Γ (.ListComp elt [⟨tg, iter, ifs, 0⟩] scope pos) (eLc (own.map (·.2)) ωi γ ωt ωe) :=
  PE.imp (pe_lc O.calm hN hi ok hg (fun s H C cl fp => ht s H C cl fp ⟨O.room, O.gd, O.calm⟩) (fun s H C cl fp => he s H C cl fp ⟨O.room, O.gd, O.calm⟩) hs) (lc_imp hj (allFz_at hv))
end
end DD

set_option Elab.async false
set_option linter.all false
set_option maxRecDepth 100000
set_option maxHeartbeats 4000000
/-! DD, part 5: statements -/
namespace DD
open PySem PySem.Spec PyProof.Rows L2

structure DEnds where
  nx : Rho → Prop
  rt : D → Rho → Prop
  bk : Rho → Prop
  ct : Rho → Prop
abbrev DS := DEnds → Rho → Prop
def Cont (K : PySem.W.Frag) (Γ : List Kd) (B : Bx) (w : Own) (H : Hp) (p : Rho → Prop) (q : L2.St → Hp → Prop) : Prop :=
  ∀ ρ' w' σ' H', p ρ' → ST K Γ B w' ρ' σ' H' → Lat H (T B.U w) H' (T B.U w') → q σ' H'
/-- what comes back: data, or a new list -/
structure Rt where
  ks : List Kd
  fr : Bool
def Res (K : PySem.W.Frag) (fr : Bool) (H : Hp) (U : US) (H' : Hp) (v : V) (d : D) : Prop := match fr with
  | false => RD K H' U v d
  | true => ∃ p xs ds, v = .ref p ∧ d = .list ds ∧ H p = none ∧ H' p = some (.lst xs) ∧ RDs K H' (fun a => U a ∨ a = p) xs ds
theorem Res.rd {K : PySem.W.Frag} {fr : Bool} {H H' : Hp} {U : US} {v : V} {d : D} (up : ∀ a, U a → H a ≠ none) (r : Res K fr H U H' v d) : RD K H' U v d := by
  cases fr with
  | false => exact r
  | true =>
    obtain ⟨p, xs, ds, rfl, rfl, hp, e, rs⟩ := r
    exact .lst e (fun z => up p z hp) (RDs.lat (Lat.weak fun _ h => .inl h) _ _ rs)
theorem Res.weak {K : PySem.W.Frag} {fr : Bool} {H H' : Hp} {U U' : US} {v : V} {d : D} (h : ∀ a, U' a → U a) (r : Res K fr H U H' v d) : Res K fr H U' H' v d := by
  cases fr with
  | false => exact RD.lat (Lat.weak h) _ _ r
  | true =>
    obtain ⟨p, xs, ds, e1, e2, hp, e, rs⟩ := r
    exact ⟨p, xs, ds, e1, e2, hp, e, RDs.lat (Lat.weak fun a z => z.imp (h a) id) _ _ rs⟩
def tDS (K : PySem.W.Frag) (Γ Γo Γl : List Kd) (Γr : Rt) (ω : DS) : TS := fun E σ H => ∃ B w ρ de, ST K Γ B w ρ σ H ∧ ω de ρ ∧
  Cont K Γo B w H de.nx E.nx ∧
  (∀ d ρ' w' σ' v H', de.rt d ρ' → ST K Γr.ks B w' ρ' σ' H' → Res K Γr.fr B.H0 (T B.U w') H' v d → E.rt v H') ∧
  Cont K Γl B w H de.bk E.bk ∧ Cont K Γl B w H de.ct E.ct
abbrev JS (X : Cx) (Γ Γo Γl : List Kd) (Γr : Rt) (st : Stmt) (ω : DS) : Prop := PS X st (tDS X.K Γ Γo Γl Γr ω)
abbrev JSs (X : Cx) (Γ Γo Γl : List Kd) (Γr : Rt) (st : List Stmt) (ω : DS) : Prop := PSs X st (tDS X.K Γ Γo Γl Γr ω)
theorem Cont.step {K : PySem.W.Frag} {Γ : List Kd} {B : Bx} {w w1 : Own} {H H1 : Hp} {p : Rho → Prop} {q : L2.St → Hp → Prop} (c : Cont K Γ B w H p q) (L : Lat H (T B.U w) H1 (T B.U w1)) : Cont K Γ B w1 H1 p q :=
  fun ρ' w' σ' H' hp S L' => c ρ' w' σ' H' hp S (L.trans L')
/-- an own slot's list, anew -/
def ownAs (w : Own) (i : Nat) (p : Addr) : Own := fun b => if b = p then some i else if w b = some i then none else w b
def drop1 (w : Own) (i : Nat) : Own := fun b => if w b = some i then none else w b
section
variable {K : PySem.W.Frag} {Γ : List Kd} {B : Bx} {w : Own} {ρ : Rho} {σ : L2.St} {H H' : Hp} {i : Nat} {p : Addr}
theorem drop1_some {a : Addr} {j : Nat} (h : drop1 w i a = some j) : w a = some j ∧ j ≠ i := by
  unfold drop1 at h
  split at h
  · cases h
  · rename_i n; exact ⟨h, fun z => n (by rw [h, z])⟩
theorem T_drop (a : Addr) (h : T B.U (drop1 w i) a) : T B.U w a := by
  rcases h with h | h
  · exact .inl h
  · refine .inr fun z => h ?_
    unfold drop1
    rw [z, if_neg (by simp)]
/-- what was one's own is data from now on -/
theorem ST.freeze {Γ' : List Kd} (S : ST K Γ B w ρ σ H) (hk : Γ[i]? = some .fz ∨ Γ[i]? = some .o1 ∨ Γ[i]? = some .o2) (hΓ : Γ' = Γ.set i .fz) : ST K Γ' B (drop1 w i) ρ σ H := by
  subst hΓ
  have hi : i < Γ.length := by rcases hk with h | h | h <;> exact (List.getElem?_eq_some_iff.mp h).1
  have L : Lat H (T B.U w) H (T B.U (drop1 w i)) := Lat.weak fun a h => T_drop a h
  refine ⟨⟨fun j k d h1 h2 h3 => ?_, fun a j e => S.sr.pr a j (drop1_some e).1, S.sr.up, fun a j e => ?_, by rw [List.length_set]; exact S.sr.lr, by rw [List.length_set]; exact S.sr.ls⟩, S.b1, fun b j e => S.b2 b j (drop1_some e).1, fun j hj => S.fx j ?_, fun b j e => ?_⟩
  · by_cases e : i = j
    · subst e
      rw [List.getElem?_set_self hi] at h1
      cases h1
      obtain ⟨k, hk', hkk⟩ : ∃ k, Γ[i]? = some k ∧ (k = .fz ∨ k = .o1 ∨ k = .o2 ∨ k = .io) := by
        rcases hk with h | h | h
        · exact ⟨_, h, .inl rfl⟩
        · exact ⟨_, h, .inr (.inl rfl)⟩
        · exact ⟨_, h, .inr (.inr (.inl rfl))⟩
      obtain ⟨v, e, r⟩ := S.sr.sl i k d hk' (by rintro rfl; rcases hkk with z | z | z | z <;> cases z) h3
      refine ⟨v, e, KR.rd hkk L (fun a h z => ?_) r⟩
      rcases z with z | z
      · exact (S.sr.pr a i h).2 z
      · exact z (by unfold drop1; rw [if_pos h])
    · rw [List.getElem?_set_ne e] at h1
      obtain ⟨v, e', r⟩ := S.sr.sl j k d h1 h2 h3
      exact ⟨v, e', r.mono L fun a h => ⟨by unfold drop1; rw [if_neg (by rw [h]; exact fun z => e (Option.some.inj z).symm)]; exact h, fun _ q => q⟩⟩
  · obtain ⟨q, n⟩ := drop1_some e
    obtain ⟨k, h1, h2⟩ := S.sr.ow a j q
    exact ⟨k, by rw [List.getElem?_set_ne (Ne.symm n)]; exact h1, h2⟩
  · by_cases e : i = j
    · subst e
      unfold fixed at hj
      rw [List.getElem?_set_self hi] at hj
      rcases hj with h | h <;> cases h
    · unfold fixed at hj ⊢
      rw [List.getElem?_set_ne e] at hj
      exact hj
  · obtain ⟨q1, q2⟩ := S.b3 b j e
    have ne : i ≠ j := fun z => by subst z; rcases hk with h | h | h <;> (rw [h] at q2; cases q2)
    exact ⟨by unfold drop1; rw [if_neg (by rw [q1]; exact fun z => ne (Option.some.inj z).symm)]; exact q1, by rw [List.getElem?_set_ne ne]; exact q2⟩
/-- a new list is one's own -/
theorem ST.own {ρ' : Rho} (S : ST K Γ B w ρ σ H) (hk : Γ[i]? = some .o1) (hp : H p = none) (s : ∀ a o, a ≠ p → w a = none → H a = some o → H' a = some o) {xs : List V} {ds : List D} (S' : ST K Γ (B.more p) w ρ' σ H') (e : H' p = some (.lst xs)) (r : RDs K H' (T (B.more p).U w) xs ds) :
    ST K Γ B (ownAs w i p) (ρ'.set i (some (.list ds))) (σ.set i (some (.ref p))) H' ∧ Lat H (T B.U w) H' (T B.U (ownAs w i p)) := by
  have wp : w p = none := by
    cases q : w p with
    | none => rfl
    | some j => obtain ⟨⟨xs, e⟩, _⟩ := S.sr.pr p j q; rw [hp] at e; cases e
  have tT : ∀ a, T B.U (ownAs w i p) a → T (B.more p).U w a := fun a h => by
    rcases h with h | h
    · exact .inl (.inl h)
    · unfold ownAs at h
      by_cases q : a = p
      · exact .inl (.inr q)
      · rw [if_neg q] at h
        refine .inr fun z => h ?_
        rw [z, if_neg (by simp)]
  have L : Lat H' (T (B.more p).U w) H' (T B.U (ownAs w i p)) := Lat.weak tT
  have hi : i < Γ.length := (List.getElem?_eq_some_iff.mp hk).1
  have nU : ¬ B.U p := fun z => by obtain ⟨o, q⟩ := S.sr.up p z; rw [hp] at q; cases q
  refine ⟨⟨⟨fun j k d h1 h2 h3 => ?_, fun a j q => ?_, fun a h => S'.sr.up a (.inl h), fun a j q => ?_, by rw [List.length_set]; exact S'.sr.lr, by rw [List.length_set]; exact S.sr.ls⟩, S'.b1, fun b j q => ?_, fun j hj => ?_, fun b j q => ?_⟩, ?_⟩
  · by_cases q : i = j
    · subst q
      rw [hk] at h1
      cases h1
      rw [List.getElem?_set_self (by rw [S'.sr.lr]; exact hi)] at h3
      cases h3
      refine ⟨.ref p, List.getElem?_set_self (by rw [S.sr.ls]; exact hi), p, xs, ds, rfl, rfl, ?_, e, RDs.lat L _ _ r⟩
      unfold ownAs; rw [if_pos rfl]
    · rw [List.getElem?_set_ne q] at h3 ⊢
      obtain ⟨v, e', r⟩ := S'.sr.sl j k d h1 h2 h3
      refine ⟨v, e', r.mono L fun a h => ⟨?_, fun _ q => q⟩⟩
      have ap : a ≠ p := fun z => by rw [z, wp] at h; cases h
      unfold ownAs; rw [if_neg ap, if_neg (by rw [h]; exact fun z => q (Option.some.inj z).symm)]; exact h
  · unfold ownAs at q
    by_cases z : a = p
    · subst z; exact ⟨⟨_, e⟩, nU⟩
    · rw [if_neg z] at q
      split at q
      · cases q
      · obtain ⟨q1, q2⟩ := S'.sr.pr a j q
        exact ⟨q1, fun z => q2 (.inl z)⟩
  · unfold ownAs at q
    by_cases z : a = p
    · rw [if_pos z] at q; cases q; exact ⟨_, hk, rfl⟩
    · rw [if_neg z] at q
      split at q
      · cases q
      · exact S.sr.ow a j q
  · unfold ownAs at q
    by_cases z : b = p
    · subst z
      cases q0 : B.H0 b with
      | none => exact .inr rfl
      | some o => exact .inl fun q1 => by have := S.b1 b o q0 q1; rw [hp] at this; cases this
    · rw [if_neg z] at q
      split at q
      · cases q
      · exact S.b2 b j q
  · rw [List.getElem?_set_ne (fun e => by subst e; rcases hj with h | h <;> (rw [hk] at h; cases h))]
    exact S.fx j hj
  · obtain ⟨q1, q2⟩ := S.b3 b j q
    have ne : i ≠ j := fun z => by subst z; rw [hk] at q2; cases q2
    have bp : b ≠ p := fun z => by rw [z, wp] at q1; cases q1
    exact ⟨by unfold ownAs; rw [if_neg bp, if_neg (by rw [q1]; exact fun z => ne (Option.some.inj z).symm)]; exact q1, q2⟩
  · refine ⟨fun a o h n => ?_, fun a o h m => ?_⟩
    · have ap : a ≠ p := fun z => by rw [z, hp] at h; cases h
      have wa : w a = none := by
        cases q : w a with
        | none => rfl
        | some j => exact absurd (.inr (by rw [q]; simp)) n
      exact ⟨s a o ap wa h, fun z => (tT a z).elim (fun z => z.elim (fun z => n (.inl z)) ap) fun z => z wa⟩
    · have ap : a ≠ p := fun z => by rw [z, hp] at h; cases h
      refine s a o ap ?_ h
      cases q : w a with
      | none => rfl
      | some j => obtain ⟨⟨xs, e'⟩, _⟩ := S.sr.pr a j q; rw [h] at e'; cases e'; exact absurd trivial m
/-- one's own list is written -/
def own1 (Γ : List Kd) (i : Nat) : Prop := Γ[i]? = some .o1 ∨ Γ[i]? = some .io
theorem ST.wr {xs : List V} {ds : List D} {a : Addr} (S : ST K Γ B w ρ σ H) (hk : own1 Γ i) (hv : σ[i]? = some (some (.ref a))) (wa : w a = some i) (h0 : ∃ ys, H a = some (.lst ys)) (r : RDs K H (T B.U w) xs ds) :
    ST K Γ B w (ρ.set i (some (.list ds))) σ (upd H a (.lst xs)) ∧ Lat H (T B.U w) (upd H a (.lst xs)) (T B.U w) := by
  obtain ⟨ys, h0⟩ := h0
  have L : Lat H (T B.U w) (upd H a (.lst xs)) (T B.U w) := lat_hid h0 (.inr (by rw [wa]; simp))
  have hi : i < Γ.length := by rcases hk with h | h <;> exact (List.getElem?_eq_some_iff.mp h).1
  refine ⟨⟨⟨fun j k d h1 h2 h3 => ?_, fun b j q => ?_, fun b h => ?_, S.sr.ow, by rw [List.length_set]; exact S.sr.lr, S.sr.ls⟩, fun b o h1 h2 => ?_, S.b2, S.fx, S.b3⟩, L⟩
  · by_cases q : i = j
    · subst q
      rw [List.getElem?_set_self (by rw [S.sr.lr]; exact hi)] at h3
      cases h3
      rcases hk with hk | hk <;> (rw [hk] at h1; cases h1; exact ⟨.ref a, hv, a, xs, ds, rfl, rfl, wa, upd_same, RDs.lat L _ _ r⟩)
    · rw [List.getElem?_set_ne q] at h3
      obtain ⟨v, e', r⟩ := S.sr.sl j k d h1 h2 h3
      refine ⟨v, e', r.mono L fun b h => ⟨h, fun zs e => ?_⟩⟩
      rw [upd_ne (fun z => by rw [z, wa] at h; exact q (Option.some.inj h))]
      exact e
  · by_cases z : b = a
    · subst z; exact ⟨⟨_, upd_same⟩, (S.sr.pr b j q).2⟩
    · rw [upd_ne z]; exact S.sr.pr b j q
  · by_cases z : b = a
    · subst z; exact ⟨_, upd_same⟩
    · rw [upd_ne z]; exact S.sr.up b h
  · by_cases z : b = a
    · subst z
      rcases S.b2 b i wa with q | q
      · exact absurd h2 q
      · rw [q] at h1; cases h1
    · rw [upd_ne z]; exact S.b1 b o h1 h2
end

section
variable {X : Cx} {Γ Γ1 Γo Γl : List Kd} {Γr : Rt} {k : Nat} {st : Stmt} {sts body orelse : List Stmt} {e tg iter : Expr} {es : List Expr} {pos : Pos} {ω1 ω2 : DS} {ωa ωi' : DE} {ωt : DT} {ωi : DI} {γ : DG} {js : List Nat}
def sSeq (a b : DS) : DS := fun de ρ => a { de with nx := fun ρ1 => b de ρ1 } ρ
def sNx : DS := fun de ρ => de.nx ρ
theorem JSs_nil : JSs X Γ Γ Γl Γr [] sNx := PSs.imp pss_nil fun E σ H ⟨B, w, ρ, de, S, q, kn, _⟩ => kn ρ w σ H q S Lat.refl
theorem JSs_cons (h : JS X Γ Γ1 Γl Γr st ω1) (hs : JSs X Γ1 Γo Γl Γr sts ω2) : JSs X Γ Γo Γl Γr (st :: sts) (sSeq ω1 ω2) :=
  PSs.imp (pss_cons h hs) fun E σ H ⟨B, w, ρ, de, S, q, kn, kr, kb, kc⟩ =>
    ⟨B, w, ρ, { de with nx := fun ρ1 => ω2 de ρ1 }, S, q, fun ρ1 w1 σ1 H1 q1 S1 L1 => ⟨B, w1, ρ1, de, S1, q1, kn.step L1, kr, kb.step L1, kc.step L1⟩, kr, kb, kc⟩
theorem JSs_one (h : JS X Γ Γo Γl Γr st ω1) : JSs X Γ Γo Γl Γr [st] ω1 := pss_one h
/-- from here on a list is data -/
theorem JSs_freeze (i : Nat) (hk : Γ[i]? = some .fz ∨ Γ[i]? = some .o1 ∨ Γ[i]? = some .o2) (hs : JSs X Γ1 Γo Γl Γr sts ω2) (hΓ : Γ1 = Γ.set i .fz := by rfl) : JSs X Γ Γo Γl Γr sts ω2 :=
  PSs.imp hs fun E σ H ⟨B, w, ρ, de, S, q, kn, kr, kb, kc⟩ =>
    have L : Lat H (T B.U w) H (T B.U (drop1 w i)) := Lat.weak fun a h => T_drop a h
    ⟨B, drop1 w i, ρ, de, S.freeze hk hΓ, q, kn.step L, kr, kb.step L, kc.step L⟩
theorem JS_pass : JS X Γ Γ Γl Γr (.Pass pos) sNx := PS.imp ps_pass fun E σ H ⟨B, w, ρ, de, S, q, kn, _⟩ => kn ρ w σ H q S Lat.refl
def sBk : DS := fun de ρ => de.bk ρ
def sCt : DS := fun de ρ => de.ct ρ
theorem JS_break : JS X Γl Γo Γl Γr (.Break pos) sBk := PS.imp ps_break fun E σ H ⟨B, w, ρ, de, S, q, _, _, kb, _⟩ => kb ρ w σ H q S Lat.refl
theorem JS_continue : JS X Γl Γo Γl Γr (.Continue pos) sCt := PS.imp ps_continue fun E σ H ⟨B, w, ρ, de, S, q, _, _, _, kc⟩ => kc ρ w σ H q S Lat.refl
def sNever : DS := fun _ _ => False
theorem JS_never : JS X Γ Γo Γl Γr st sNever := PS.imp ps_never fun E σ H ⟨B, w, ρ, de, S, q, _⟩ => q
theorem JSs_never : JSs X Γ Γo Γl Γr sts sNever := PSs.imp pss_never fun E σ H ⟨B, w, ρ, de, S, q, _⟩ => q
def sExpr (ω : DE) : DS := fun de ρ => ω ρ fun _ ρ1 => de.nx ρ1
theorem JS_expr (h : J X false Γ e ωa) (hs : swapsWith e none pos.line X.env = pure false := by rfl) : JS X Γ Γ Γl Γr (.Expr e pos) (sExpr ωa) :=
  PS.imp (ps_expr h hs) fun E σ H ⟨B, w, ρ, de, S, q, kn, _⟩ => ⟨B, w, ρ, _, S, q, fun d ρ1 q1 v H1 p1 S1 r1 => kn ρ1 w σ H1 q1 S1 (S.stpLatT p1)⟩
def sSet (i : Nat) (ω : DE) : DS := fun de ρ => ω ρ fun d ρ1 => de.nx (ρ1.set i (some d))
theorem set_imp {i : Nat} (hk : Γ[i]? = some .fz) : ∀ E σ H, tDS X.K Γ Γ Γl Γr (sSet i ωa) E σ H → tAsg (tJ X.K false Γ ωa) (gName i) E σ H :=
  fun E σ H ⟨B, w, ρ, de, S, q, kn, _⟩ => ⟨B, w, ρ, _, S, q, fun d ρ1 q1 v H1 p1 S1 r1 => kn _ w _ H1 q1 (S1.put hk r1.um) (S.stpLatT p1)⟩
theorem JS_set {i : Nat} {x : Str} {pos' : Pos} (hN : X.N.Nodup) (h : J X false Γ e ωa) (hi : X.N[i]? = some x := by rfl) (hk : Γ[i]? = some .fz := by rfl) (hx : Loc X.env.scope x := by first | exact .inl rfl | exact .inr rfl)
    (hs : swapsWith e (some (.Name x pos')) pos.line X.env = pure false := by rfl) (hf : X.fn x = true ∨ X.env.scope.names.lookup x = some .local := by first | exact .inl rfl | exact .inr rfl | assumption) :
    JS X Γ Γ Γl Γr (.Assign [.Name x pos'] e pos) (sSet i ωa) := PS.imp (ps_set hN hi hx h hs hf) (set_imp hk)
/-- a, b = a tuple -/
def sAsg (γ : DG) (ω : DE) : DS := fun de ρ => ω ρ fun d ρ1 => γ d ρ1 de.nx
theorem JS_asg (hg : JG X Γ js tg γ) (h : J X false Γ e ωa) (hs : swapsWithSole [tg] e pos.line X.env = pure false := by rfl) (hw : swappedStores [tg] e X.env = pure none := by rfl)
    (h1 : (assignEach [tg] X.env).map (·.2) = [assign tg X.env] := by rfl) : JS X Γ Γ Γl Γr (.Assign [tg] e pos) (sAsg γ ωa) :=
  PS.imp (ps_asg h hg hs hw h1) fun E σ H ⟨B, w, ρ, de, S, q, kn, _⟩ => ⟨B, w, ρ, _, S, q, fun d ρ1 q1 v H1 p1 S1 r1 => ⟨B, w, ρ1, d, _, S1, r1.um, q1, fun ρ2 q2 σ2 S2 _ => kn _ w _ H1 q2 S2 (S.stpLatT p1)⟩⟩
/-- a, b = x, y by swapped stores -/
def sPar (i j : Nat) (ωs : DA) : DS := fun de ρ => ωs ρ fun ds ρ1 => ∃ a b, ds = [a, b] ∧ de.nx ((ρ1.set i (some a)).set j (some b))
theorem JS_par {i j : Nat} {x y : Str} {a b : Expr} {ωs : DA} {px py pt : Pos} {kt k2 pt2} (hc : X.calm = true) (hN : X.N.Nodup) (ha : JA X false Γ [a, b] ωs) (hi : X.N[i]? = some x := by rfl) (hj : X.N[j]? = some y := by rfl) (hij : i ≠ j := by decide)
    (hki : Γ[i]? = some .fz := by rfl) (hkj : Γ[j]? = some .fz := by rfl)
    (hx : X.env.scope.names.lookup x = some .local := by rfl) (hy : X.env.scope.names.lookup y = some .local := by rfl)
    (hw : swappedStores [.Tuple [.Name x px, .Name y py] kt pt] (.Tuple [a, b] k2 pt2) X.env = pure (some [x, y]) := by rfl)
    (hs : swapsWithSole [.Tuple [.Name x px, .Name y py] kt pt] (.Tuple [a, b] k2 pt2) pos.line X.env = pure false := by rfl) :
    JS X Γ Γ Γl Γr (.Assign [.Tuple [.Name x px, .Name y py] kt pt] (.Tuple [a, b] k2 pt2) pos) (sPar i j ωs) :=
  PS.imp (ps_par hc hN hi hj hij hx hy ha hw hs) fun E σ H ⟨B, w, ρ, de, S, q, kn, _⟩ => ⟨B, w, ρ, _, S, q, fun ds ρ1 ⟨d1, d2, ed, q1⟩ vs H1 p1 S1 r1 => by
    subst ed
    cases r1 with | cons r1 rs => cases rs with | cons r2 rs =>
      cases rs
      exact ⟨_, _, rfl, kn _ w _ H1 q1 ((S1.put hki r1.um).put hkj r2.um) (S.stpLatT p1)⟩⟩
def sRet (ω : DE) : DS := fun de ρ => ω ρ fun d ρ1 => de.rt d ρ1
def frzK : Kd → Kd
  | .o1 => .fz
  | .o2 => .fz
  | k => k
def frzW (Γ : List Kd) (w : Own) : Own := fun b => match w b with
  | some i => (match Γ[i]? with
    | some .o1 => none
    | some .o2 => none
    | _ => some i)
  | none => none
theorem frzW_some {w : Own} {a : Addr} {j : Nat} (h : frzW Γ w a = some j) : w a = some j ∧ Γ[j]? ≠ some .o1 ∧ Γ[j]? ≠ some .o2 := by
  unfold frzW at h
  split at h
  · rename_i i e
    split at h
    · cases h
    · cases h
    · rename_i n1 n2
      cases h
      exact ⟨e, n1, n2⟩
  · cases h
theorem frzW_eq {w : Own} {a : Addr} {j : Nat} (h : w a = some j) (h1 : Γ[j]? ≠ some .o1) (h2 : Γ[j]? ≠ some .o2) : frzW Γ w a = some j := by
  unfold frzW
  rw [h]
  show (match Γ[j]? with
    | some .o1 => none
    | some .o2 => none
    | _ => some j) = some j
  split
  · rename_i e; exact absurd e h1
  · rename_i e; exact absurd e h2
  · rfl
theorem ST.frz {K : PySem.W.Frag} {B : Bx} {w : Own} {ρ : Rho} {σ : L2.St} {H : Hp} (S : ST K Γ B w ρ σ H) : ST K (Γ.map frzK) B (frzW Γ w) ρ σ H ∧ ∀ a, T B.U (frzW Γ w) a → T B.U w a := by
  have tT : ∀ a, T B.U (frzW Γ w) a → T B.U w a := fun a h => by
    rcases h with h | h
    · exact .inl h
    · refine .inr fun z => h ?_
      unfold frzW
      rw [z]
  have L : Lat H (T B.U w) H (T B.U (frzW Γ w)) := Lat.weak tT
  refine ⟨⟨⟨fun j k' d h1 h2 h3 => ?_, fun a j e => S.sr.pr a j (frzW_some e).1, S.sr.up, fun a j e => ?_, by rw [List.length_map]; exact S.sr.lr, by rw [List.length_map]; exact S.sr.ls⟩, S.b1, fun b j e => S.b2 b j (frzW_some e).1, fun j hj => S.fx j ?_, fun b j e => ?_⟩, tT⟩
  · rw [List.getElem?_map] at h1
    cases q : Γ[j]? with
    | none => rw [q] at h1; cases h1
    | some k0 =>
      rw [q] at h1
      have h1 : frzK k0 = k' := Option.some.inj h1
      subst h1
      have fr : (k0 = .o1 ∨ k0 = .o2) → ∃ v, σ[j]? = some (some v) ∧ RD K H (T B.U (frzW Γ w)) v d := fun hk => by
        obtain ⟨v, e, r⟩ := S.sr.sl j k0 d q (by rintro rfl; rcases hk with z | z <;> cases z) h3
        refine ⟨v, e, KR.rd (.inr (hk.imp id .inl)) L (fun a h z => ?_) r⟩
        rcases z with z | z
        · exact (S.sr.pr a j h).2 z
        · refine z ?_
          unfold frzW
          rw [h]
          show (match Γ[j]? with
            | some .o1 => none
            | some .o2 => none
            | _ => some j) = none
          rw [q]
          rcases hk with hk | hk <;> subst hk <;> rfl
      have oth : k0 ≠ .o1 → k0 ≠ .o2 → k0 ≠ .no → ∃ v, σ[j]? = some (some v) ∧ KR K H (T B.U (frzW Γ w)) (frzW Γ w) j k0 v d := fun n1 n2 n3 => by
        obtain ⟨v, e, r⟩ := S.sr.sl j k0 d q n3 h3
        exact ⟨v, e, r.mono L fun a h => ⟨frzW_eq h (by rw [q]; exact fun z => n1 (Option.some.inj z)) (by rw [q]; exact fun z => n2 (Option.some.inj z)), fun _ q => q⟩⟩
      cases k0 with
      | no => exact absurd rfl h2
      | fz => exact oth (fun z => nomatch z) (fun z => nomatch z) (fun z => nomatch z)
      | o1 => exact fr (.inl rfl)
      | o2 => exact fr (.inr rfl)
      | sc => exact oth (fun z => nomatch z) (fun z => nomatch z) (fun z => nomatch z)
      | io => exact oth (fun z => nomatch z) (fun z => nomatch z) (fun z => nomatch z)
  · obtain ⟨q, n1, n2⟩ := frzW_some e
    obtain ⟨k0, h1, h2⟩ := S.sr.ow a j q
    refine ⟨frzK k0, by rw [List.getElem?_map, h1]; rfl, ?_⟩
    cases k0 with
    | o1 => exact absurd h1 n1
    | o2 => exact absurd h1 n2
    | io => rfl
    | no => cases h2
    | fz => cases h2
    | sc => cases h2
  · unfold fixed at hj ⊢
    rw [List.getElem?_map] at hj
    cases q : Γ[j]? with
    | none => rw [q] at hj; rcases hj with h | h <;> cases h
    | some k0 =>
      rw [q] at hj
      cases k0 <;> rcases hj with h | h <;> first | (cases (show (_ : Option Kd) = some .io from h); done) | (cases h; done) | exact .inl rfl | exact .inr rfl
  · obtain ⟨q1, q2⟩ := S.b3 b j e
    exact ⟨frzW_eq q1 (by rw [q2]; decide) (by rw [q2]; decide), by rw [List.getElem?_map, q2]; rfl⟩
theorem JS_ret (h : J X false Γr.ks e ωa) (hΓ : Γr = ⟨Γ.map frzK, false⟩ := by rfl) : JS X Γ Γo Γl Γr (.Return (some e) pos) (sRet ωa) :=
  PS.imp (ps_ret h) fun E σ H ⟨B, w, ρ, de, S, q, kn, kr, _⟩ => by
    subst hΓ
    exact ⟨B, frzW Γ w, ρ, _, S.frz.1, q, fun d ρ1 q1 v H1 p1 S1 r1 => kr d ρ1 _ σ v H1 q1 S1 r1.um⟩
def sRetN : DS := fun de ρ => de.rt .none ρ
theorem JS_retN (hΓ : Γr = ⟨Γ.map frzK, false⟩ := by rfl) : JS X Γ Γo Γl Γr (.Return none pos) sRetN :=
  PS.imp ps_retN fun E σ H ⟨B, w, ρ, de, S, q, kn, kr, _⟩ => by
    subst hΓ
    exact kr .none ρ _ σ .non H q S.frz.1 .non
theorem ST.h0 {K : PySem.W.Frag} {Γ : List Kd} {B : Bx} {w : Own} {ρ : Rho} {σ : L2.St} {H : Hp} {p : Addr} (S : ST K Γ B w ρ σ H) (h : ∀ j, w p = some j → Γ[j]? ≠ some .io) (h2 : H p = none ∨ ∃ j, w p = some j) : B.H0 p = none := by
  have n0 : B.w0 p = none := by
    cases q : B.w0 p with
    | none => rfl
    | some j => exact absurd (S.b3 p j q).2 (h j (S.b3 p j q).1)
  rcases h2 with h2 | ⟨j, h2⟩
  · cases q : B.H0 p with
    | none => rfl
    | some o => have := S.b1 p o q n0; rw [h2] at this; cases this
  · rcases S.b2 p j h2 with z | z
    · exact absurd n0 z
    · exact z
/-- a new list comes back: the def's own -/
def sRetV (i : Nat) : DS := fun de ρ => ∃ d, ρ[i]? = some (some d) ∧ de.rt d ρ
theorem JS_retV {i : Nat} (h : PE X e (tVar i)) (hk : Γ[i]? = some .o1 := by rfl) (hΓ : Γr = ⟨Γ.map frzK, true⟩ := by rfl) : JS X Γ Γo Γl Γr (.Return (some e) pos) (sRetV i) :=
  PS.imp (ps_ret h) fun E σ H ⟨B, w, ρ, de, S, ⟨d, hd, q⟩, kn, kr, _⟩ => by
    subst hΓ
    obtain ⟨v, ev, p, xs, ds, e1, e2, e3, e4, r⟩ := S.sr.sl i .o1 d hk (fun z => nomatch z) hd
    subst e1
    refine ⟨_, ev, kr d ρ _ σ _ H q S.frz.1 ⟨p, xs, ds, rfl, e2, S.h0 (fun j hj => by rw [e3] at hj; cases hj; rw [hk]; decide) (.inr ⟨i, e3⟩), e4, RDs.lat (Lat.weak fun a z => ?_) _ _ r⟩⟩
    rcases z with z | z
    · exact S.frz.2 a z
    · subst z; exact .inr (by rw [e3]; simp)
/-- .. or just made -/
def sRetL (ω : DE) : DS := fun de ρ => ω ρ fun d ρ1 => ∃ ds, d = .list ds ∧ de.rt d ρ1
theorem JS_retL (h : PE X e (tJ1 X.K Γr.ks ωa)) (hΓ : Γr = ⟨Γ.map frzK, true⟩ := by rfl) : JS X Γ Γo Γl Γr (.Return (some e) pos) (sRetL ωa) :=
  PS.imp (ps_ret h) fun E σ H ⟨B, w, ρ, de, S, q, kn, kr, _⟩ => by
    subst hΓ
    refine ⟨B, frzW Γ w, ρ, _, S.frz.1, q, fun ds ρ1 ⟨ds', _, q1⟩ p xs H1 hp st S1 e r => kr _ ρ1 _ σ _ H1 q1 S1.unmore ⟨p, xs, ds, rfl, rfl, S.h0 (fun j hj => ?_) (.inl hp), e, RDs.lat (Lat.weak fun a z => ?_) _ _ r⟩⟩
    · rw [S.wnone hp] at hj; cases hj
    · rcases z with (z | z) | z
      · exact .inl (.inl z)
      · exact .inr z
      · exact .inl (.inr z)
def sIf (t : DT) (a b : DS) : DS := fun de ρ => t ρ fun x ρ1 => if x = true then a de ρ1 else b de ρ1
theorem JS_if (hc : JT X Γ e ωt) (ha : JSs X Γ Γo Γl Γr body ω1) (hb : JSs X Γ Γo Γl Γr orelse ω2) : JS X Γ Γo Γl Γr (.If e body orelse pos) (sIf ωt ω1 ω2) :=
  PS.imp (ps_if hc ha hb) fun E σ H ⟨B, w, ρ, de, S, q, kn, kr, kb, kc⟩ => ⟨B, w, ρ, _, S, q, fun x ρ1 q1 H1 p1 S1 => by
    have L := S.stpLatT p1
    cases x with
    | true =>
      rw [if_pos rfl] at q1
      exact iteT ⟨B, w, ρ1, de, S1, q1, kn.step L, kr, kb.step L, kc.step L⟩
    | false =>
      rw [if_neg Bool.false_ne_true] at q1
      exact iteF ⟨B, w, ρ1, de, S1, q1, kn.step L, kr, kb.step L, kc.step L⟩⟩
def forGo (γ : DG) (ωb : DS) : List D → DEnds → Rho → Prop
  | [], de, ρ => de.nx ρ
  | d :: ds, de, ρ => γ d ρ fun ρ1 => ωb { nx := fun ρ2 => forGo γ ωb ds de ρ2, rt := de.rt, bk := de.nx, ct := fun ρ2 => forGo γ ωb ds de ρ2 } ρ1
def sFor (ωi : DI) (γ : DG) (ωb : DS) : DS := fun de ρ => ωi ρ fun ds ρ1 => forGo γ ωb ds de ρ1
theorem JS_for (hp : PassesOwn (model X.prog X.w) X.A X.env X.xe) (hc : X.calm = true) (hi : JI X Γ tg iter ωi) (hg : JG X Γ js tg γ) (hb : JSs X Γ Γ Γ Γr body ω1)
    (hs : ∀ x, foldedSetIterable iter X.env x = pure x := by intro _; rfl) : JS X Γ Γ Γl Γr (.For tg iter body [] pos) (sFor ωi γ ω1) :=
  PS.imp (ps_for hp hc hi hg hb hs) fun E σ H ⟨B, w, ρ, de, S, q, kn, kr, kb, kc⟩ => ⟨B, w, ρ, _, S, q, fun ds ρ1 q1 Jt H1 p1 S1 it => by
    refine ⟨fun i m σ' H' => ∃ w' ρ', ST X.K Γ B w' ρ' σ' H' ∧ forGo γ ω1 (ds.drop i) de ρ' ∧ m = ds.length - i ∧ i ≤ ds.length ∧ Lat H1 (T B.U w) H' (T B.U w'), ⟨ds.length, w, ρ1, S1, q1, by simp, Nat.zero_le _, Lat.refl⟩, ?_⟩
    rintro i m σ' H' ⟨w', ρ', S', go, em, hle, L⟩
    have L0 := (S.stpLatT p1).trans L
    obtain ⟨st, turn⟩ := it H' _ L (fun a h z => by
      rcases h with h | h
      · obtain ⟨o, e⟩ := S'.sr.up a h; rw [z] at e; cases e
      · cases q : w' a with
        | none => exact h q
        | some j => obtain ⟨⟨xs, e⟩, _⟩ := S'.sr.pr a j q; rw [z] at e; cases e)
    by_cases hlt : i < ds.length
    · right
      obtain ⟨g1, g2⟩ := turn i _ (List.getElem?_eq_getElem hlt)
      refine ⟨g1, fun σ2 H2 => ∃ m', m' < m ∧ ∃ w' ρ', ST X.K Γ B w' ρ' σ2 H2 ∧ forGo γ ω1 (ds.drop (i + 1)) de ρ' ∧ m' = ds.length - (i + 1) ∧ i + 1 ≤ ds.length ∧ Lat H1 (T B.U w) H2 (T B.U w'), fun σ2 H2 z => z, fun x H2 y => ?_⟩
      obtain ⟨s2, rx⟩ := g2 x H2 y
      rw [List.drop_eq_getElem_cons hlt, forGo] at go
      have S2 := S'.same s2
      have L2 : Lat H' (T B.U w') H2 (T B.U w') := Lat.same s2 fun _ z => z
      refine ⟨B, w', ρ', _, _, S2, rx, go, fun ρ3 q3 σ3 S3 _ => ⟨B, w', ρ3, _, S3, q3, ?_, kr, ?_, ?_⟩⟩
      · exact fun ρ4 w4 σ4 H4 q4 S4 L4 => ⟨m - 1, by omega, w4, ρ4, S4, q4, by omega, hlt, (L.trans L2).trans L4⟩
      · exact fun ρ4 w4 σ4 H4 q4 S4 L4 => kn ρ4 w4 σ4 H4 q4 S4 ((L0.trans L2).trans L4)
      · exact fun ρ4 w4 σ4 H4 q4 S4 L4 => ⟨m - 1, by omega, w4, ρ4, S4, q4, by omega, hlt, (L.trans L2).trans L4⟩
    · left
      have ei : i = ds.length := by omega
      subst ei
      rw [List.drop_eq_nil_of_le (Nat.le_refl _), forGo] at go
      exact ⟨st, kn ρ' w' σ' H' go S' L0⟩⟩
def whGo (t : DT) (ωb : DS) : Nat → DEnds → Rho → Prop
  | 0, _, _ => False
  | n + 1, de, ρ => t ρ fun x ρ1 => if x = true then ωb { nx := fun ρ2 => whGo t ωb n de ρ2, rt := de.rt, bk := de.nx, ct := fun ρ2 => whGo t ωb n de ρ2 } ρ1 else de.nx ρ1
def sWhile (t : DT) (ωb : DS) : DS := fun de ρ => ∃ n, whGo t ωb n de ρ
theorem JS_while (hp : PassesOwn (model X.prog X.w) X.A X.env X.xe) (hc : JT X Γ e ωt) (hb : JSs X Γ Γ Γ Γr body ω1) : JS X Γ Γ Γl Γr (.While e body [] pos) (sWhile ωt ω1) :=
  PS.imp (ps_while hp hc hb) fun E σ H ⟨B, w, ρ, de, S, ⟨n, q⟩, kn, kr, kb, kc⟩ => by
    refine ⟨fun m σ' H' => ∃ w' ρ', ST X.K Γ B w' ρ' σ' H' ∧ whGo ωt ω1 m de ρ' ∧ Lat H (T B.U w) H' (T B.U w'), ⟨n, w, ρ, S, q, Lat.refl⟩, ?_⟩
    rintro m σ' H' ⟨w', ρ', S', go, L⟩
    cases m with
    | zero => exact go.elim
    | succ m =>
      refine ⟨B, w', ρ', _, S', go, fun x ρ1 q1 H1 p1 S1 => ?_⟩
      have L1 := L.trans (S'.stpLatT p1)
      cases x with
      | true =>
        rw [if_pos rfl] at q1
        refine iteT ⟨fun σ2 H2 => ∃ m', m' < m + 1 ∧ ∃ w' ρ', ST X.K Γ B w' ρ' σ2 H2 ∧ whGo ωt ω1 m' de ρ' ∧ Lat H (T B.U w) H2 (T B.U w'), fun σ2 H2 z => z, B, w', ρ1, _, S1, q1, ?_, kr, ?_, ?_⟩
        · exact fun ρ4 w4 σ4 H4 q4 S4 L4 => ⟨m, Nat.lt_succ_self _, w4, ρ4, S4, q4, L1.trans L4⟩
        · exact fun ρ4 w4 σ4 H4 q4 S4 L4 => kn ρ4 w4 σ4 H4 q4 S4 (L1.trans L4)
        · exact fun ρ4 w4 σ4 H4 q4 S4 L4 => ⟨m, Nat.lt_succ_self _, w4, ρ4, S4, q4, L1.trans L4⟩
      | false =>
        rw [if_neg Bool.false_ne_true] at q1
        exact iteF (kn ρ1 w' σ' H1 q1 S1 L1)
end
end DD

set_option Elab.async false
set_option linter.all false
set_option maxRecDepth 100000
set_option maxHeartbeats 4000000
/-! DD, part 6: one's own lists: made, written -/
namespace DD
open PySem PySem.Spec PyProof.Rows L2

section
variable {X : Cx} {Γ Γ1 Γo Γl : List Kd} {Γr : Rt} {k : Nat} {e a c tg iter : Expr} {es : List Expr} {pos p : Pos} {ωa ωb : DE} {ωs : DA} {ωt : DT}
/-! ### new lists -/
theorem J1_lst (h : JA X false Γ es ωs) : J1 X Γ (.List es pos) (eLst ωs) :=
  PE.imp (pe_lst h) fun σ H Q ⟨B, w, ρ, Qd, S, ω, k⟩ => ⟨B, w, ρ, _, S, ω, fun ds ρ1 ⟨z, q⟩ vs H1 p1 S1 r1 => ⟨by rw [r1.length]; exact z, fun p hp => by
    have s := Same.new (o := .lst vs) hp
    have S2 := (S1.more hp).grow (xs := []) (ys := vs) upd_same (.inr rfl) (S1.hb hp)
    rw [upd_upd] at S2
    refine k _ _ q p vs _ (S1.earlier p1 hp) (fun a o ap wa e => ?_) S2 upd_same (RDs.lat ⟨fun a o e n => ⟨s _ _ e, fun z => ?_⟩, fun a o e _ => s _ _ e⟩ _ _ r1.um)
    · exact s _ _ (p1 a o (.inr wa) e)
    · rcases z with (z | z) | z
      · exact n (.inl z)
      · rw [z, hp] at e; cases e
      · exact n (.inr z)⟩⟩
theorem ST.tj1 {K : PySem.W.Frag} {B : Bx} {w : Own} {ρ ρ1 : Rho} {σ : L2.St} {H H1 : Hp} (S : ST K Γ B w ρ σ H) (p1 : Stp false w H H1) (S1 : ST K Γ B w ρ1 σ H1) {p : Addr} {xs : List V} {ds : List D} (hp : H1 p = none) (r : RDs K H1 (T B.U w) xs ds) :
    H p = none ∧ (∀ a o, a ≠ p → w a = none → H a = some o → upd H1 p (.lst xs) a = some o) ∧ ST K Γ (B.more p) w ρ1 σ (upd H1 p (.lst xs)) ∧ upd H1 p (.lst xs) p = some (.lst xs) ∧ RDs K (upd H1 p (.lst xs)) (T (B.more p).U w) xs ds := by
  have s := Same.new (o := .lst xs) hp
  have S2 := (S1.more hp).grow (xs := []) (ys := xs) upd_same (.inr rfl) (S1.hb hp)
  rw [upd_upd] at S2
  refine ⟨S1.earlier p1 hp, fun a o ap wa e => s _ _ (p1 a o (.inr wa) e), S2, upd_same, RDs.lat ⟨fun a o e n => ⟨s _ _ e, fun z => ?_⟩, fun a o e _ => s _ _ e⟩ _ _ r⟩
  rcases z with (z | z) | z
  · exact n (.inl z)
  · rw [z, hp] at e; cases e
  · exact n (.inr z)
theorem J1_list (hm : X.mg "list" = none) (ha : JA X false Γ (a :: es) ωs) (hg : Gl X "list" := by rfl) (he : starEach (a :: es) X.env = (false, eval a X.env) :: starEach es X.env := by rfl) (hpl : (backTo pos (starEach es X.env)).any (·.1) = false := by rfl) :
    J1 X Γ (.Call (.Name "list" p) (a :: es) [] pos) (eN fList ωs) :=
  PE.imp (pe_callTy call_list_of hg hm (by decide +kernel) ha (he := he) (hpl := hpl)) fun σ H Q ⟨B, w, ρ, Qd, S, ω, k⟩ => ⟨B, w, ρ, _, S, ω, fun ds ρ1 q vs H1 p1 S1 rs => by
    unfold fList at q
    split at q
    · cases rs with | cons r rs => cases rs; cases r with | lst e1 n1 r1 =>
        exact ⟨_, _, rfl, .inl (.inl (.inl e1)), fun l hl =>
          have h := S.tj1 p1 S1 hl r1.um
          k _ _ q l _ _ h.1 h.2.1 h.2.2.1 h.2.2.2.1 h.2.2.2.2⟩
    · cases rs with | cons r rs => cases rs; cases r with | tup e1 r1 =>
        exact ⟨_, _, rfl, .inr (.inl (.inl e1)), fun l hl =>
          have h := S.tj1 p1 S1 hl r1.um
          k _ _ q l _ _ h.1 h.2.1 h.2.2.1 h.2.2.2.1 h.2.2.2.2⟩
    · exact q.elim⟩
def fRep : D → D → (D → Prop) → Prop
  | .list xs, .int j, Q => (-(2 ^ 63) ≤ j ∧ j < 2 ^ 63 ∧ xs.length * j.toNat ≤ sizeLine) ∧ Q (.list (List.replicate j.toNat xs).flatten)
  | _, _, _ => False
theorem J1_rep (ha : J X false Γ a ωa) (hb : J X false Γ c ωb) : J1 X Γ (.BinOp a .Mult c pos) (e2 fRep ωa ωb) :=
  PE.imp (pe_op L2.op_rep ha hb) fun σ H Q ⟨B, w, ρ, Qd, S, ω, k⟩ => ⟨B, w, ρ, _, S, ω, fun dx ρ1 q1 v1 H1 p1 S1 r1 => ⟨B, w, ρ1, _, S1, q1, fun dy ρ2 q2 v2 H2 p2 S2 r2 => by
    have r3 := r1.stp S1 p2
    unfold fRep at q2
    split at q2
    · rename_i zs j
      cases r3 with | lst e1 n1 t1 =>
        cases r2
        refine ⟨_, _, _, rfl, rfl, e1, q2.1.1, q2.1.2.1, by rw [t1.length]; exact q2.1.2.2, fun p hp => ?_⟩
        have h := S.tj1 (p1.trans p2) S2 hp (t1.flat1 j.toNat).um
        exact k _ _ q2.2 p _ _ h.1 h.2.1 h.2.2.1 h.2.2.2.1 h.2.2.2.2
    · exact q2.elim⟩⟩
theorem J1_if (hc : JT X Γ e ωt) (ha : J1 X Γ a ωa) (hb : J1 X Γ c ωb) : J1 X Γ (.IfExp e a c pos) (eIf ωt ωa ωb) :=
  PE.imp (pe_ifExp hc ha hb) fun σ H Q ⟨B, w, ρ, Qd, S, ω, k⟩ => ⟨B, w, ρ, _, S, ω, fun x ρ1 q H1 p1 S1 => by
    have fin : ∀ ds ρ', Qd (.list ds) ρ' → ∀ p xs H', H1 p = none → (∀ a o, a ≠ p → w a = none → H1 a = some o → H' a = some o) → ST X.K Γ (B.more p) w ρ' σ H' → H' p = some (.lst xs) → RDs X.K H' (T (B.more p).U w) xs ds → Q (.ref p) H' :=
      fun ds ρ' qd p xs H' hp st S' e r => k ds ρ' qd p xs H' (S1.earlier p1 hp) (fun a o ap wa e => st a o ap wa (p1 a o (.inr wa) e)) S' e r
    cases x with
    | true => rw [if_pos rfl] at q; exact iteT ⟨B, w, ρ1, Qd, S1, q, fin⟩
    | false => rw [if_neg Bool.false_ne_true] at q; exact iteF ⟨B, w, ρ1, Qd, S1, q, fin⟩⟩

/-! ### x = a new list -/
def sSetL (i : Nat) (ω : DE) : DS := fun de ρ => ω ρ fun d ρ1 => ∃ ds, d = .list ds ∧ de.nx (ρ1.set i (some (.list ds)))
theorem setL_imp {i : Nat} (hk : Γ[i]? = some .o1) : ∀ E σ H, tDS X.K Γ Γ Γl Γr (sSetL i ωa) E σ H → tAsg (tJ1 X.K Γ ωa) (gName i) E σ H :=
  fun E σ H ⟨B, w, ρ, de, S, q, kn, _⟩ => ⟨B, w, ρ, _, S, q, fun ds ρ1 ⟨ds', ed, q1⟩ p xs H1 hp st S1 e r => by
    cases ed
    have h := S.own (i := i) hk hp st S1 e r
    exact kn _ _ _ H1 q1 h.1 h.2⟩
theorem JS_setL {i : Nat} {x : Str} {pos' : Pos} (hN : X.N.Nodup) (h : J1 X Γ e ωa) (hi : X.N[i]? = some x := by rfl) (hk : Γ[i]? = some .o1 := by rfl) (hx : Loc X.env.scope x := by first | exact .inl rfl | exact .inr rfl)
    (hs : swapsWith e (some (.Name x pos')) pos.line X.env = pure false := by rfl) (hf : X.fn x = true ∨ X.env.scope.names.lookup x = some .local := by first | exact .inl rfl | exact .inr rfl | assumption) :
    JS X Γ Γ Γl Γr (.Assign [.Name x pos'] e pos) (sSetL i ωa) := PS.imp (ps_set hN hi hx h hs hf) (setL_imp hk)
/-! name = [.. for ..] on one line -/
section
variable {vs js : List Nat} {elt : Expr} {ifs : List Expr} {γ : DG} {ωi : DI} {ωe : DE} {scope : Scope} {own : List (Str × Nat)} {spos py : Pos} {kk i : Nat} {y : Str}
theorem JS_setLc (O : Ok X kk) (hN : X.N.Nodup) (hi : JI X Γ tg iter ωi) (ok : BlkOk X.N X.env.scope scope own)
    (hg : ∀ (s : Shared) (H : Hp) (C : Addr) (cl : List (Str × Addr)) (fp : List Addr), JG (X.blk s H scope (compEnvC scope cl C X.env) fp) Γ js tg γ)
    (ht : ∀ (s : Shared) (H : Hp) (C : Addr) (cl : List (Str × Addr)) (fp : List Addr), Ok (X.blk s H scope (compEnvC scope cl C X.env) fp) kk → JTs (X.blk s H scope (compEnvC scope cl C X.env) fp) Γ ifs ωt)
    (he : ∀ (s : Shared) (H : Hp) (C : Addr) (cl : List (Str × Addr)) (fp : List Addr), Ok (X.blk s H scope (compEnvC scope cl C X.env) fp) kk → J (X.blk s H scope (compEnvC scope cl C X.env) fp) false Γ elt ωb)
    (hy : X.N[i]? = some y := by rfl) (hk : Γ[i]? = some .fz := by rfl) (hyl : X.env.scope.names.lookup y = some .local := by rfl)
    (hsw : swapsWith (.ListComp elt [⟨tg, iter, ifs, 0⟩] scope pos) (some (.Name y py)) spos.line X.env = pure true := by exact sw_true rfl rfl rfl (by decide +kernel))
    (hj : ∀ i ∈ js, i ∈ own.map (·.2) := by decide) (hv : allFz Γ (own.map (·.2)) = true := by rfl) (hs : ∀ x, foldedSetIterable iter X.env x = pure x := by intro _; rfl) :
    JS X Γ Γ Γl Γr (.Assign [.Name y py] (.ListComp elt [⟨tg, iter, ifs, 0⟩] scope pos) spos) (sSet i (eLc (own.map (·.2)) ωi γ ωt ωb)) :=
  PS.imp (ps_setLc O.calm hN hy hyl hsw hi ok hg (fun s H C cl fp => ht s H C cl fp ⟨O.room, O.gd, O.calm⟩) (fun s H C cl fp => he s H C cl fp ⟨O.room, O.gd, O.calm⟩) hs)
    fun E σ H h => lc_imp hj (allFz_at hv) σ H _ (set_imp hk E σ H h)
theorem JS_setLcL (O : Ok X kk) (hN : X.N.Nodup) (hi : JI X Γ tg iter ωi) (ok : BlkOk X.N X.env.scope scope own)
    (hg : ∀ (s : Shared) (H : Hp) (C : Addr) (cl : List (Str × Addr)) (fp : List Addr), JG (X.blk s H scope (compEnvC scope cl C X.env) fp) Γ js tg γ)
    (ht : ∀ (s : Shared) (H : Hp) (C : Addr) (cl : List (Str × Addr)) (fp : List Addr), Ok (X.blk s H scope (compEnvC scope cl C X.env) fp) kk → JTs (X.blk s H scope (compEnvC scope cl C X.env) fp) Γ ifs ωt)
    (he : ∀ (s : Shared) (H : Hp) (C : Addr) (cl : List (Str × Addr)) (fp : List Addr), Ok (X.blk s H scope (compEnvC scope cl C X.env) fp) kk → J (X.blk s H scope (compEnvC scope cl C X.env) fp) false Γ elt ωb)
    (hy : X.N[i]? = some y := by rfl) (hk : Γ[i]? = some .o1 := by rfl) (hyl : X.env.scope.names.lookup y = some .local := by rfl)
    (hsw : swapsWith (.ListComp elt [⟨tg, iter, ifs, 0⟩] scope pos) (some (.Name y py)) spos.line X.env = pure true := by exact sw_true rfl rfl rfl (by decide +kernel))
    (hj : ∀ i ∈ js, i ∈ own.map (·.2) := by decide) (hv : allFz Γ (own.map (·.2)) = true := by rfl) (hs : ∀ x, foldedSetIterable iter X.env x = pure x := by intro _; rfl) :
    JS X Γ Γ Γl Γr (.Assign [.Name y py] (.ListComp elt [⟨tg, iter, ifs, 0⟩] scope pos) spos) (sSetL i (eLc (own.map (·.2)) ωi γ ωt ωb)) :=
  PS.imp (ps_setLc O.calm hN hy hyl hsw hi ok hg (fun s H C cl fp => ht s H C cl fp ⟨O.room, O.gd, O.calm⟩) (fun s H C cl fp => he s H C cl fp ⟨O.room, O.gd, O.calm⟩) hs)
    fun E σ H h => lc_imp1 hj (allFz_at hv) σ H _ (setL_imp hk E σ H h)
end

/-! x, y = a new list, a value -/
def sParL (i j : Nat) (ωa ωb : DE) : DS := fun de ρ => ωa ρ fun d ρ1 => ωb ρ1 fun d2 ρ2 => ∃ ds, d = .list ds ∧ de.nx ((ρ2.set i (some (.list ds))).set j (some d2))
theorem JS_parL {i j : Nat} {x y : Str} {a b : Expr} {px py pt : Pos} {kt k2 pt2} (hc : X.calm = true) (hN : X.N.Nodup) (ha : J1 X Γ a ωa) (hb : J X false Γ b ωb) (hi : X.N[i]? = some x := by rfl) (hj : X.N[j]? = some y := by rfl) (hij : i ≠ j := by decide)
    (hki : Γ[i]? = some .o1 := by rfl) (hkj : Γ[j]? = some .fz := by rfl)
    (hx : X.env.scope.names.lookup x = some .local := by rfl) (hy : X.env.scope.names.lookup y = some .local := by rfl)
    (hw : swappedStores [.Tuple [.Name x px, .Name y py] kt pt] (.Tuple [a, b] k2 pt2) X.env = pure (some [x, y]) := by rfl)
    (hs : swapsWithSole [.Tuple [.Name x px, .Name y py] kt pt] (.Tuple [a, b] k2 pt2) pos.line X.env = pure false := by rfl)
    (he : starEach [a, b] X.env = (false, eval a X.env) :: starEach [b] X.env := by rfl) (he2 : starEach [b] X.env = (false, eval b X.env) :: starEach [] X.env := by rfl) :
    JS X Γ Γ Γl Γr (.Assign [.Tuple [.Name x px, .Name y py] kt pt] (.Tuple [a, b] k2 pt2) pos) (sParL i j ωa ωb) :=
  PS.imp (ps_par hc hN hi hj hij hx hy (pa_cons ha (pa_cons hb pa_nil he2) he) hw hs) fun E σ H ⟨B, w, ρ, de, S, q, kn, _⟩ =>
    ⟨B, w, ρ, _, S, q, fun ds ρ1 q1 p xs H1 hp st S1 e r => ⟨B.more p, w, ρ1, _, S1, q1, fun d2 ρ2 ⟨ds', ed, q2⟩ v H2 p2 S2 r2 => ⟨_, _, rfl, by
      cases ed
      have wp := S.wnone hp
      have h := S.own (i := i) hki hp (fun a o ap wa e => p2 a o (.inr wa) (st a o ap wa e)) S2 (p2 _ _ (.inr wp) e) (RDs.lat (S1.stpLatT p2) _ _ r)
      have L2 : Lat H2 (T (B.more p).U w) H2 (T B.U (ownAs w i p)) := Lat.weak fun a z => by
        rcases z with z | z
        · exact .inl (.inl z)
        · unfold ownAs at z
          by_cases q : a = p
          · exact .inl (.inr q)
          · rw [if_neg q] at z
            exact .inr fun y => z (by rw [y, if_neg (by simp)])
      exact kn _ _ _ H2 q2 (h.1.put hkj (RD.lat L2 _ _ r2.um)) h.2⟩⟩⟩

/-! ### written -/
theorem ST.o1 {K : PySem.W.Frag} {B : Bx} {w : Own} {ρ : Rho} {σ : L2.St} {H : Hp} {i : Nat} {d : D} (S : ST K Γ B w ρ σ H) (hk : own1 Γ i) (h : ρ[i]? = some (some d)) :
    ∃ p xs ds, σ[i]? = some (some (.ref p)) ∧ d = .list ds ∧ w p = some i ∧ H p = some (.lst xs) ∧ RDs K H (T B.U w) xs ds := by
  rcases hk with hk | hk
  · obtain ⟨v, ev, p, xs, ds, e1, e2, e3, e4, r⟩ := S.sr.sl i .o1 d hk (fun z => nomatch z) h
    subst e1
    exact ⟨p, xs, ds, ev, e2, e3, e4, r⟩
  · obtain ⟨v, ev, p, xs, ds, e1, e2, e3, e4, r⟩ := S.sr.sl i .io d hk (fun z => nomatch z) h
    subst e1
    exact ⟨p, xs, ds, ev, e2, e3, e4, r⟩
def sApp (i : Nat) (ω : DE) : DS := fun de ρ => (∃ d0, ρ[i]? = some (some d0)) ∧ ω ρ fun d ρ1 => ∃ xs, ρ1[i]? = some (some (.list xs)) ∧ xs.length < sizeLine ∧ de.nx (ρ1.set i (some (.list (xs ++ [d]))))
theorem JS_append {i : Nat} {x : Str} {px apos cpos : Pos} (hp : PE X (.Name x px) (tVar i)) (h : J X false Γ e ωa) (hk : own1 Γ i := by first | exact .inl rfl | exact .inr rfl)
    (hs : swapsWith (.Call (.Attribute (.Name x px) "append" apos) [e] [] cpos) none pos.line X.env = pure false := by rfl)
    (hbase : attributeBase (.Name x px) "append" X.env (eval (.Name x px) X.env) = eval (.Name x px) X.env := by rfl)
    (hfew : ((backTo cpos (starEach [e] X.env)).all (fun x => !x.1) && (backToKw cpos (keywordEach [] X.env)).all (fun x => x.1.isSome)
      && decide ([e].length + ([] : List Keyword).length + (if ([] : List Keyword).isEmpty then 0 else 1) < 30)) = true := by rfl)
    (hline : (apos.endLine == cpos.line) = true := by rfl) (he : starEach [e] X.env = (false, eval e X.env) :: starEach [] X.env := by rfl) (hplain : (backTo cpos (starEach [] X.env)).any (·.1) = false := by rfl) :
    JS X Γ Γ Γl Γr (.Expr (.Call (.Attribute (.Name x px) "append" apos) [e] [] cpos) pos) (sApp i ωa) :=
  PS.imp (ps_expr (pe_bm PySem.F.plainAttrs_list PySem.F.slot_list_append PySem.F.type_list_append mt_append hp (pa_cons h pa_nil he) hbase hfew hline he hplain) hs)
    fun E σ H ⟨B, w, ρ, de, S, ⟨⟨d0, h0⟩, q⟩, kn, _⟩ => by
      obtain ⟨p, xs0, ds0, es, _, wp, eH, _⟩ := S.o1 hk h0
      refine ⟨_, es, .inl ⟨rfl, _, .inl (.inl eH)⟩, B, w, ρ, _, S, q, fun d ρ1 ⟨xs, h1, hl, q1⟩ v H1 p1 S1 r1 => ?_⟩
      obtain ⟨p', ys, ds', es', ed, wp', eH', rs⟩ := S1.o1 hk h1
      rw [es] at es'
      cases es'
      cases ed
      have hw := S1.wr hk es wp ⟨_, eH'⟩ (rs.append (.cons r1.um .nil))
      exact ⟨_, _, _, rfl, rfl, eH', by rw [rs.length]; exact hl, kn _ w σ _ q1 hw.1 ((S.stpLatT p1).trans hw.2)⟩
def sExt (i : Nat) (ω : DE) : DS := fun de ρ => (∃ d0, ρ[i]? = some (some d0)) ∧ ω ρ fun d ρ1 => ∃ xs zs, d = .list zs ∧ ρ1[i]? = some (some (.list xs)) ∧ xs.length + zs.length ≤ sizeLine ∧ de.nx (ρ1.set i (some (.list (xs ++ zs))))
theorem JS_extend {i : Nat} {x : Str} {px apos cpos : Pos} (hp : PE X (.Name x px) (tVar i)) (h : J X false Γ e ωa) (hk : own1 Γ i := by first | exact .inl rfl | exact .inr rfl)
    (hs : swapsWith (.Call (.Attribute (.Name x px) "extend" apos) [e] [] cpos) none pos.line X.env = pure false := by rfl)
    (hbase : attributeBase (.Name x px) "extend" X.env (eval (.Name x px) X.env) = eval (.Name x px) X.env := by rfl)
    (hfew : ((backTo cpos (starEach [e] X.env)).all (fun x => !x.1) && (backToKw cpos (keywordEach [] X.env)).all (fun x => x.1.isSome)
      && decide ([e].length + ([] : List Keyword).length + (if ([] : List Keyword).isEmpty then 0 else 1) < 30)) = true := by rfl)
    (hline : (apos.endLine == cpos.line) = true := by rfl) (he : starEach [e] X.env = (false, eval e X.env) :: starEach [] X.env := by rfl) (hplain : (backTo cpos (starEach [] X.env)).any (·.1) = false := by rfl) :
    JS X Γ Γ Γl Γr (.Expr (.Call (.Attribute (.Name x px) "extend" apos) [e] [] cpos) pos) (sExt i ωa) :=
  PS.imp (ps_expr (pe_bm PySem.F.plainAttrs_list PySem.F.slot_list_extend PySem.F.type_list_extend mt_extend hp (pa_cons h pa_nil he) hbase hfew hline he hplain) hs)
    fun E σ H ⟨B, w, ρ, de, S, ⟨⟨d0, h0⟩, q⟩, kn, _⟩ => by
      obtain ⟨p, xs0, ds0, es, _, wp, eH, _⟩ := S.o1 hk h0
      refine ⟨_, es, .inl ⟨rfl, _, .inl (.inl eH)⟩, B, w, ρ, _, S, q, fun d ρ1 ⟨xs, zs, ez, h1, hl, q1⟩ v H1 p1 S1 r1 => ?_⟩
      subst ez
      obtain ⟨p', ys, ds', es', ed, wp', eH', rs⟩ := S1.o1 hk h1
      rw [es] at es'
      cases es'
      cases ed
      cases r1 with | lst e1 n1 t1 =>
        have hw := S1.wr hk es wp ⟨_, eH'⟩ (rs.append t1.um)
        exact ⟨_, _, _, _, rfl, rfl, eH', e1, by rw [rs.length, t1.length]; exact hl, kn _ w σ _ q1 hw.1 ((S.stpLatT p1).trans hw.2)⟩
/-- x[k] = v -/
def sPut (i : Nat) (ωv ωk : DE) : DS := fun de ρ => ωv ρ fun d ρ1 => (∃ d0, ρ1[i]? = some (some d0)) ∧ ωk ρ1 fun dk ρ2 => ∃ xs n j, dk = .int n ∧ ρ2[i]? = some (some (.list xs)) ∧ ixN xs.length n = some j ∧ de.nx (ρ2.set i (some (.list (xs.set j d))))
theorem JS_put {i : Nat} {x : Str} {px tpos : Pos} (hp : PE X (.Name x px) (tVar i)) (hk : J X false Γ c ωb) (h : J X false Γ e ωa) (hki : own1 Γ i := by first | exact .inl rfl | exact .inr rfl)
    (ha : ∀ v, assign (.Subscript (.Name x px) c tpos) X.env v = (do
      let ov ← holding [v] (eval (.Name x px) X.env)
      let iv ← holding [v, ov] (eval c X.env)
      standAt tpos
      holding [v, ov, iv] (setItem ov iv v)
      release [v, ov, iv] []) := by intro _; rfl)
    (hs : swapsWithSole [.Subscript (.Name x px) c tpos] e pos.line X.env = pure false := by rfl) (hw : swappedStores [.Subscript (.Name x px) c tpos] e X.env = pure none := by rfl)
    (h1 : (assignEach [.Subscript (.Name x px) c tpos] X.env).map (·.2) = [assign (.Subscript (.Name x px) c tpos) X.env] := by rfl) :
    JS X Γ Γ Γl Γr (.Assign [.Subscript (.Name x px) c tpos] e pos) (sPut i ωa ωb) :=
  PS.imp (ps_asg h (pg_sub hp hk set_list ha) hs hw h1) fun E σ H ⟨B, w, ρ, de, S, q, kn, _⟩ =>
    ⟨B, w, ρ, _, S, q, fun d ρ1 ⟨⟨d0, h0⟩, q1⟩ v H1 p1 S1 r1 => by
      obtain ⟨p, xs0, ds0, es, _, wp, eH, _⟩ := S1.o1 hki h0
      refine ⟨_, es, B, w, ρ1, _, S1, q1, fun dk ρ2 ⟨xs, n, j, ek, h2, hj, q2⟩ u H2 p2 S2 r2 => ?_⟩
      subst ek
      cases r2
      obtain ⟨p', ys, ds', es', ed, wp', eH', rs⟩ := S2.o1 hki h2
      rw [es] at es'
      cases es'
      cases ed
      have hw := S2.wr hki es wp ⟨_, eH'⟩ (rs.set j (r1.stp S1 p2).um)
      exact ⟨_, _, _, j, rfl, rfl, eH', by rw [rs.length]; exact hj, kn _ w σ _ q2 hw.1 ((S.stpLatT (p1.trans p2)).trans hw.2)⟩⟩

/-! ### an item of one's own list -/
def eIxO (i : Nat) (ω : DE) : DE := fun ρ Q => (∃ d0, ρ[i]? = some (some d0)) ∧ ω ρ fun d ρ1 => ∃ dx, ρ1[i]? = some (some dx) ∧ fIx dx d fun v => Q v ρ1
theorem J_ixO {i : Nat} (hp : PE X e (tVar i)) (hc : J X false Γ c ωb) (hki : own1 Γ i := by first | exact .inl rfl | exact .inr rfl) (hs : PlainIx c := by exact fun _ _ => rfl) : J X false Γ (.Subscript e c pos) (eIxO i ωb) :=
  PE.imp (pe_ix ix_seq hp hc hs) fun σ H Q ⟨B, w, ρ, Qd, S, ⟨⟨d0, h0⟩, q⟩, k⟩ => by
    obtain ⟨p, xs0, ds0, es, _, wp, eH, _⟩ := S.o1 hki h0
    refine ⟨_, es, B, w, ρ, _, S, q, fun d ρ1 hq v H1 p1 S1 r1 => ?_⟩
    obtain ⟨dx, h1, q1⟩ := hq
    obtain ⟨p', ys, ds', es', ed, wp', eH', rs⟩ := S1.o1 hki h1
    rw [es] at es'
    cases es'
    subst ed
    cases d <;> try exact False.elim q1
    rename_i n
    obtain ⟨u, hu, q2⟩ := (show ∃ d, atI ds' n = some d ∧ Qd d ρ1 from q1)
    cases r1
    obtain ⟨v, ev, rv⟩ := rs.at hu
    exact .inl ⟨_, _, _, _, rfl, rfl, .inl (.inl eH'), ev, k _ _ q2 _ H1 p1 S1 (RD.umT rv)⟩
/-- a slice of the script -/
def eSlSc0 (i : Nat) (ωl ωh : DO) : DE := fun ρ Q => ωl ρ fun l ρ1 => ωh ρ1 fun h ρ2 => ∃ ns : List Int, ρ[i]? = some (some (.list (ns.map .int))) ∧ Q (.list ((cutD ns l h).map .int)) ρ2
theorem cutD_map {α β : Type} (f : α → β) (xs : List α) (l h : Option Int) : cutD (xs.map f) l h = (cutD xs l h).map f := by
  unfold cutD
  rw [List.length_map, List.map_take, List.map_drop]
theorem intsR {K : PySem.W.Frag} {H : Hp} {U : US} : ∀ ns : List Int, RDs K H U (ns.map V.int) (ns.map .int)
  | [] => .nil
  | n :: ns => .cons (.int n) (intsR ns)
theorem map_int_inj {a b : List Int} (h : a.map (PyData.int) = b.map .int) : a = b := by
  have h1 := intsD_map a
  rw [h, intsD_map b] at h1
  exact (Option.some.inj h1).symm
def eSlSc (i : Nat) (ωl ωh : DO) : DE := fun ρ Q => (∃ d0, ρ[i]? = some (some d0)) ∧ eSlSc0 i ωl ωh ρ Q
theorem J_sliceSc {i : Nat} {lo hi : Option Expr} {ωl ωh : DO} {p2 : Pos} (hp : PE X e (tVar i)) (hl : JP X false Γ lo ωl) (hh : JP X false Γ hi ωh) (hk : Γ[i]? = some .sc := by rfl) : J X false Γ (.Subscript e (.Slice lo hi none p2) pos) (eSlSc i ωl ωh) :=
  PE.imp (pe_slice sl_list hp hl hh) fun σ H Q ⟨B, w, ρ, Qd, S, ⟨⟨d0, h0⟩, q⟩, k⟩ => by
    obtain ⟨v, ev, a, ns, e1, e2, z⟩ := S.sr.sl i .sc d0 hk (fun z => nomatch z) h0
    subst e1
    refine ⟨_, ev, B, w, ρ, _, S, q, fun l ρ1 q1 H1 p1 S1 => ⟨B, w, ρ1, _, S1, q1, fun h ρ2 q2 H2 p2 S2 => ?_⟩⟩
    obtain ⟨ms, h1, q3⟩ := q2
    rw [h0] at h1
    cases h1
    have := map_int_inj (PyData.list.inj e2)
    subst this
    have L := (S.stpLatT p1).trans (S1.stpLatT p2)
    have sq : SqL X.K H2 a (ms.map V.int) := by
      rcases z with ⟨o, z⟩ | z
      · exact .inl (.inr ⟨o, L.im _ _ z fun y => y⟩)
      · exact Same.seq (fun _ _ y => by cases y) z
    refine ⟨a, _, rfl, sq, fun p hp => ?_⟩
    have ec : cutV (ms.map V.int) l h = (cutD ms l h).map V.int := cutD_map V.int ms l h
    rw [ec]
    have q4 := new_lst (K := X.K) (S2.upm (b := false)) hp (intsR (cutD ms l h))
    exact k _ _ q3 _ _ ((p1.trans p2).trans (Stp.of q4.1)) (S2.same q4.1) q4.2

/-! ### x += v, x[k] += v -/
structure AugOk (X : Cx) (op : Operator) (f : D → D → (D → Prop) → Prop) : Prop where
  ex : ∃ g : Int → Int → Int, PIp X op (ipI g) ∧ ∀ x y Q, f x y Q → ∃ i j, x = .int i ∧ y = .int j ∧ Q (.int (g i j))
theorem aug_add : AugOk X .Add (fun x y Q => ∃ i j, x = .int i ∧ y = .int j ∧ Q (.int (i + j))) := ⟨_, ip_add, fun _ _ _ h => h⟩
theorem aug_sub : AugOk X .Sub (fun x y Q => ∃ i j, x = .int i ∧ y = .int j ∧ Q (.int (i - j))) := ⟨_, ip_sub, fun _ _ _ h => h⟩
abbrev fAugAdd : D → D → (D → Prop) → Prop := fun x y Q => ∃ i j, x = .int i ∧ y = .int j ∧ Q (.int (i + j))
abbrev fAugSub : D → D → (D → Prop) → Prop := fun x y Q => ∃ i j, x = .int i ∧ y = .int j ∧ Q (.int (i - j))
def sAug (i : Nat) (f : D → D → (D → Prop) → Prop) (ω : DE) : DS := fun de ρ => ∃ d0, ρ[i]? = some (some d0) ∧ ω ρ fun d ρ1 => f d0 d fun v => de.nx (ρ1.set i (some v))
theorem JS_aug {i : Nat} {x : Str} {op : Operator} {f : D → D → (D → Prop) → Prop} {pos' : Pos} (hN : X.N.Nodup) (ho : AugOk X op f) (h : J X false Γ e ωa) (hi : X.N[i]? = some x := by rfl) (hk : Γ[i]? = some .fz := by rfl) (hx : Loc X.env.scope x := by first | exact .inl rfl | exact .inr rfl)
    (hf : X.fn x = true ∨ X.env.scope.names.lookup x = some .local := by first | exact .inl rfl | exact .inr rfl | assumption) : JS X Γ Γ Γl Γr (.AugAssign (.Name x pos') op e pos) (sAug i f ωa) := by
  obtain ⟨g, hg, hfg⟩ := ho.ex
  refine PS.imp (ps_aug hN hi hx h hg hf) fun E σ H ⟨B, w, ρ, de, S, ⟨d0, h0, q⟩, kn, _⟩ => ?_
  obtain ⟨v0, e0, r0⟩ := S.sr.sl i .fz d0 hk (fun z => nomatch z) h0
  refine ⟨v0, e0, B, w, ρ, _, S, q, fun d ρ1 q1 v H1 p1 S1 r1 => ?_⟩
  obtain ⟨a, b, rfl, rfl, q2⟩ := hfg _ _ _ q1
  cases r1
  have r0' : RD X.K H (T B.U w) v0 (.int a) := r0
  cases r0'
  exact ⟨a, b, rfl, rfl, kn _ w _ H1 q2 (S1.put hk (.int _)) (S.stpLatT p1)⟩
def rGet0 (K : PySem.W.Frag) : R2 := fun x y H Q => ∃ p xs i v, x = .ref p ∧ y = .int i ∧ 0 ≤ i ∧ SqL K H p xs ∧ atI xs i = some v ∧ Q v H
theorem get_list : PGet X (rGet0 X.K) := by
  intro pins s σ H o i ov iv Q I ro ri h
  obtain ⟨p, xs, n, v, rfl, rfl, h0, hq, hat, q⟩ := h
  cases ro
  obtain ⟨t, rfl⟩ := ri
  obtain ⟨its, rv, pl, hz⟩ := I.list hq
  obtain ⟨j, hj, hx, hlt, h1, h2⟩ := atI_get hat
  obtain ⟨u, hu, ru⟩ := rv.get hx
  have hl := rv.length
  have h63 := line63
  have ej : n.toNat = j := by
    rw [seqIndex_of h0 h2] at hj
    exact Option.some.inj hj
  exact wpAny_getItem_list pl.isList h0 (by omega) (by rw [ej]; simpa using hu) ⟨v, H, I, ru, q⟩
def sAugPut (i : Nat) (f : D → D → (D → Prop) → Prop) (ωk ωv : DE) : DS := fun de ρ => (∃ d0, ρ[i]? = some (some d0)) ∧ ωk ρ fun dk ρ1 => ∃ xs n x, dk = .int n ∧ ρ1[i]? = some (some (.list xs)) ∧ 0 ≤ n ∧ atI xs n = some (.int x) ∧
  ωv ρ1 fun dv ρ2 => ∃ ys j, ρ2[i]? = some (some (.list ys)) ∧ ixN ys.length n = some j ∧ f (.int x) dv fun z => de.nx (ρ2.set i (some (.list (ys.set j z))))
theorem JS_augPut {i : Nat} {x : Str} {op : Operator} {f : D → D → (D → Prop) → Prop} {px tpos : Pos} (ho : AugOk X op f) (hp : PE X (.Name x px) (tVar i)) (hk : J X false Γ c ωb) (h : J X false Γ e ωa) (hki : own1 Γ i := by first | exact .inl rfl | exact .inr rfl)

    (ha : ∀ ov iv new, augStore c ov iv new = (do holding [new, ov, iv] (setItem ov iv new); release [new, ov, iv] []; pure .next) := by intros; rfl) :
    JS X Γ Γ Γl Γr (.AugAssign (.Subscript (.Name x px) c tpos) op e pos) (sAugPut i f ωb ωa) := by
  obtain ⟨g, hg, hfg⟩ := ho.ex
  refine PS.imp (ps_augS hp hk get_list h hg set_list ha) fun E σ H ⟨B, w, ρ, de, S, ⟨⟨d0, h0⟩, q⟩, kn, _⟩ => ?_
  obtain ⟨p, xs0, ds0, es, _, wp, eH, _⟩ := S.o1 hki h0
  refine ⟨_, es, B, w, ρ, _, S, q, fun dk ρ1 ⟨xs, n, xi, ek, h1, n0, hat, q1⟩ u H1 p1 S1 r1 => ?_⟩
  subst ek
  cases r1
  obtain ⟨p', ys, ds', es', ed, wp', eH', rs⟩ := S1.o1 hki h1
  rw [es] at es'
  cases es'
  cases ed
  obtain ⟨v, ev, rv⟩ := rs.at hat
  cases rv
  refine ⟨_, _, _, _, rfl, rfl, n0, .inl (.inl eH'), ev, B, w, ρ1, _, S1, q1, fun dv ρ2 ⟨zs, j, h2, hj, q2⟩ v2 H2 p2 S2 r2 => ?_⟩
  obtain ⟨za, zb, ea, ezb, q3⟩ := hfg _ _ _ q2
  cases ea
  subst ezb
  cases r2
  obtain ⟨p2', ys2, ds2', es2', ed2, wp2', eH2', rs2⟩ := S2.o1 hki h2
  rw [es] at es2'
  cases es2'
  cases ed2
  have hw := S2.wr hki es wp ⟨_, eH2'⟩ (rs2.set j (RD.int (U := T B.U w) (g xi zb)))
  exact ⟨xi, zb, rfl, rfl, _, _, _, j, rfl, rfl, eH2', by rw [rs2.length]; exact hj, kn _ w σ _ q3 hw.1 ((S.stpLatT (p1.trans p2)).trans hw.2)⟩

/-! ### lists two deep -/
theorem ST.wr2 {K : PySem.W.Frag} {B : Bx} {w : Own} {ρ : Rho} {σ : L2.St} {H : Hp} {i j1 : Nat} {xs : List V} {ds : List D} {a b : Addr} {as : List Addr} {dss : List (List D)} (S : ST K Γ B w ρ σ H) (hk : Γ[i]? = some .o2) (hv : σ[i]? = some (some (.ref a)))
    (e3 : w a = some i) (e4 : H a = some (.lst (as.map .ref))) (n1 : a ∉ as) (n2 : as.Nodup) (el : as.length = dss.length)
    (rr : ∀ (j : Nat) (b : Addr), as[j]? = some b → w b = some i ∧ ∃ xs ds, dss[j]? = some ds ∧ H b = some (.lst xs) ∧ RDs K H (T B.U w) xs ds) (hb : as[j1]? = some b) (r : RDs K H (T B.U w) xs ds) :
    ST K Γ B w (ρ.set i (some (.list ((dss.set j1 ds).map .list)))) σ (upd H b (.lst xs)) ∧ Lat H (T B.U w) (upd H b (.lst xs)) (T B.U w) := by
  obtain ⟨wb, ys, ds0, _, h0, _⟩ := rr j1 b hb
  have L : Lat H (T B.U w) (upd H b (.lst xs)) (T B.U w) := lat_hid h0 (.inr (by rw [wb]; simp))
  have hi : i < Γ.length := (List.getElem?_eq_some_iff.mp hk).1
  have ab : a ≠ b := fun z => n1 (z ▸ List.mem_of_getElem? hb)
  have hj1 : j1 < dss.length := by rw [← el]; exact (List.getElem?_eq_some_iff.mp hb).1
  refine ⟨⟨⟨fun j k d h1 h2 h3 => ?_, fun c j q => ?_, fun c h => ?_, S.sr.ow, by rw [List.length_set]; exact S.sr.lr, S.sr.ls⟩, fun c o h1 h2 => ?_, S.b2, S.fx, S.b3⟩, L⟩
  · by_cases q : i = j
    · subst q
      rw [List.getElem?_set_self (by rw [S.sr.lr]; exact hi)] at h3
      cases h3
      rw [hk] at h1
      cases h1
      refine ⟨.ref a, hv, a, as, dss.set j1 ds, rfl, rfl, e3, by rw [upd_ne ab]; exact e4, n1, n2, by rw [List.length_set]; exact el, fun l c hc => ?_⟩
      obtain ⟨q1, zs, es, q2, q3, q4⟩ := rr l c hc
      refine ⟨q1, ?_⟩
      by_cases z : l = j1
      · subst z
        rw [hb] at hc
        cases hc
        exact ⟨xs, ds, List.getElem?_set_self hj1, upd_same, RDs.lat L _ _ r⟩
      · have cb : c ≠ b := fun y => by
          subst y
          exact z (nd_ix n2 hc hb)
        exact ⟨zs, es, by rw [List.getElem?_set_ne (Ne.symm z)]; exact q2, by rw [upd_ne cb]; exact q3, RDs.lat L _ _ q4⟩
    · rw [List.getElem?_set_ne q] at h3
      obtain ⟨v, e', r⟩ := S.sr.sl j k d h1 h2 h3
      refine ⟨v, e', r.mono L fun c h => ⟨h, fun zs e => ?_⟩⟩
      rw [upd_ne (fun z => by rw [z, wb] at h; exact q (Option.some.inj h))]
      exact e
  · by_cases z : c = b
    · subst z; exact ⟨⟨_, upd_same⟩, (S.sr.pr c j q).2⟩
    · rw [upd_ne z]; exact S.sr.pr c j q
  · by_cases z : c = b
    · subst z; exact ⟨_, upd_same⟩
    · rw [upd_ne z]; exact S.sr.up c h
  · by_cases z : c = b
    · subst z
      rcases S.b2 c i wb with q | q
      · exact absurd h2 q
      · rw [q] at h1; cases h1
    · rw [upd_ne z]; exact S.b1 c o h1 h2
def sPut2 (i : Nat) (ωv ωk1 ωk2 : DE) : DS := fun de ρ => ωv ρ fun d ρ1 => (∃ d0, ρ1[i]? = some (some d0)) ∧ ωk1 ρ1 fun k1 ρ2 => ∃ (dss : List (List D)) (n1 : Int) (j1 : Nat) (ds : List D), k1 = .int n1 ∧ ρ2[i]? = some (some (.list (dss.map .list))) ∧ ixN dss.length n1 = some j1 ∧ dss[j1]? = some ds ∧
  ωk2 ρ2 fun k2 ρ3 => ∃ (n2 : Int) (j2 : Nat), k2 = .int n2 ∧ ρ3[i]? = some (some (.list (dss.map .list))) ∧ ixN ds.length n2 = some j2 ∧ de.nx (ρ3.set i (some (.list ((dss.set j1 (ds.set j2 d)).map .list))))
theorem ST.o2 {K : PySem.W.Frag} {B : Bx} {w : Own} {ρ : Rho} {σ : L2.St} {H : Hp} {i : Nat} {d : D} (S : ST K Γ B w ρ σ H) (hk : Γ[i]? = some .o2) (h : ρ[i]? = some (some d)) :
    ∃ (a : Addr) (as : List Addr) (dss : List (List D)), σ[i]? = some (some (.ref a)) ∧ d = .list (dss.map .list) ∧ w a = some i ∧ H a = some (.lst (as.map .ref)) ∧ a ∉ as ∧ as.Nodup ∧ as.length = dss.length ∧
      ∀ (j : Nat) (b : Addr), as[j]? = some b → w b = some i ∧ ∃ xs ds, dss[j]? = some ds ∧ H b = some (.lst xs) ∧ RDs K H (T B.U w) xs ds := by
  obtain ⟨v, ev, a, as, dss, e1, e2, e3, e4, n1, n2, el, r⟩ := S.sr.sl i .o2 d hk (fun z => nomatch z) h
  subst e1
  exact ⟨a, as, dss, ev, e2, e3, e4, n1, n2, el, r⟩
theorem map_list_inj : ∀ {a b : List (List D)}, a.map PyData.list = b.map .list → a = b
  | [], [], _ => rfl
  | [], _ :: _, h => by simp at h
  | _ :: _, [], h => by simp at h
  | x :: xs, y :: ys, h => by
    simp only [List.map_cons, List.cons.injEq, PyData.list.injEq] at h
    rw [h.1, map_list_inj h.2]
theorem map_ref_inj : ∀ {a b : List Addr}, a.map V.ref = b.map .ref → a = b
  | [], [], _ => rfl
  | [], _ :: _, h => by simp at h
  | _ :: _, [], h => by simp at h
  | x :: xs, y :: ys, h => by
    simp only [List.map_cons, List.cons.injEq, V.ref.injEq] at h
    rw [h.1, map_ref_inj h.2]
theorem JS_put2 {i : Nat} {x : Str} {c2 : Expr} {ωk2 : DE} {px tpos p3 : Pos} (hp : PE X (.Name x px) (tVar i)) (hk : J X true Γ c ωb) (hk2 : J X true Γ c2 ωk2) (h : J X false Γ e ωa) (hki : Γ[i]? = some .o2 := by rfl)
    (hix : PlainIx c := by exact fun _ _ => rfl)
    (ha : ∀ v, assign (.Subscript (.Subscript (.Name x px) c p3) c2 tpos) X.env v = (do
      let ov ← holding [v] (eval (.Subscript (.Name x px) c p3) X.env)
      let iv ← holding [v, ov] (eval c2 X.env)
      standAt tpos
      holding [v, ov, iv] (setItem ov iv v)
      release [v, ov, iv] []) := by intro _; rfl)
    (hs : swapsWithSole [.Subscript (.Subscript (.Name x px) c p3) c2 tpos] e pos.line X.env = pure false := by rfl) (hw : swappedStores [.Subscript (.Subscript (.Name x px) c p3) c2 tpos] e X.env = pure none := by rfl)
    (h1 : (assignEach [.Subscript (.Subscript (.Name x px) c p3) c2 tpos] X.env).map (·.2) = [assign (.Subscript (.Subscript (.Name x px) c p3) c2 tpos) X.env] := by rfl) :
    JS X Γ Γ Γl Γr (.Assign [.Subscript (.Subscript (.Name x px) c p3) c2 tpos] e pos) (sPut2 i ωa ωb ωk2) :=
  PS.imp (ps_asg h (pg_sub (pe_ix ix_list hp hk hix) hk2 set_list ha) hs hw h1) fun E σ H ⟨B, w, ρ, de, S, q, kn, _⟩ =>
    ⟨B, w, ρ, _, S, q, fun d ρ1 ⟨⟨d0, h0⟩, q1⟩ v H1 p1 S1 r1 => by
      obtain ⟨a, as0, dss0, es, _⟩ := S1.o2 hki h0
      refine ⟨_, es, B, w, ρ1, _, S1, q1, fun k1 ρ2 ⟨dss, n1, j1, ds, ek, h2, hj, hd, q2⟩ u1 H2 p2 S2 r2 => ?_⟩
      subst ek
      cases r2
      obtain ⟨a', as, dss', es', ed, wa, eH, m1, m2, el, rr⟩ := S2.o2 hki h2
      rw [es] at es'
      cases es'
      have := map_list_inj (PyData.list.inj ed)
      subst this
      have hlt : j1 < as.length := by rw [el]; exact (List.getElem?_eq_some_iff.mp hd).1
      have hb : as[j1]? = some as[j1] := List.getElem?_eq_getElem hlt
      have hat : atI (as.map V.ref) n1 = some (.ref as[j1]) := by
        unfold atI
        rw [List.length_map, el, hj]
        show (as.map V.ref)[j1]? = _
        rw [List.getElem?_map, hb]
        rfl
      refine ⟨a, _, n1, _, rfl, rfl, .inl (.inl eH), hat, B, w, ρ2, _, S2, q2, fun k2 ρ3 ⟨n2, j2, ek2, h3, hj2, q3⟩ u2 H3 p3 S3 r3 => ?_⟩
      subst ek2
      cases r3
      obtain ⟨a'', as3, dss3, es3, ed3, wa3, eH3, m13, m23, el3, rr3⟩ := S3.o2 hki h3
      rw [es] at es3
      cases es3
      have := map_list_inj (PyData.list.inj ed3)
      subst this
      have e3 := p3 a _ (.inl rfl) eH
      rw [eH3] at e3
      have := map_ref_inj (HO.lst.inj (Option.some.inj e3))
      subst this
      obtain ⟨wb, xs, ds3, hd3, eb, rs⟩ := rr3 j1 _ hb
      rw [hd] at hd3
      cases hd3
      have L := (S1.stpLatT p2).trans (S2.stpLatT p3)
      have hw := S3.wr2 hki es wa eH3 m13 m23 el3 rr3 hb (rs.set j2 (RD.lat L _ _ r1.um))
      exact ⟨_, xs, n2, j2, rfl, rfl, eb, by rw [rs.length]; exact hj2, kn _ w σ _ q3 hw.1 (((S.stpLatT p1).trans L).trans hw.2)⟩⟩
end
end DD

set_option Elab.async false
set_option linter.all false
set_option maxRecDepth 100000
set_option maxHeartbeats 4000000
/-! DD, part 6b: x = [list(y) for y in e], two deep one's own -/
namespace DD
open PySem PySem.Spec PyProof.Rows L2
def ownAll (w : Own) (i : Nat) (ps : List Addr) : Own := fun b => if b ∈ ps then some i else if w b = some i then none else w b
section
variable {K : PySem.W.Frag} {Γ : List Kd} {B : Bx} {w : Own} {ρ ρ' : Rho} {σ : L2.St} {H H' : Hp} {i : Nat}
/-- new cells become a slot's own -/
theorem ST.own2 {a : Addr} {as : List Addr} {dss : List (List D)} (S : ST K Γ B w ρ σ H) (hk : Γ[i]? = some .o2) (s : Same H H') (hn : ∀ b ∈ a :: as, H b = none) (ea : H' a = some (.lst (as.map .ref))) (n1 : a ∉ as) (n2 : as.Nodup) (el : as.length = dss.length)
    (rr : ∀ (l : Nat) (b : Addr), as[l]? = some b → ∃ xs ds, dss[l]? = some ds ∧ H' b = some (.lst xs) ∧ RDs K H' (fun c => T B.U w c ∨ c ∈ a :: as) xs ds) :
    ST K Γ B (ownAll w i (a :: as)) (ρ.set i (some (.list (dss.map .list)))) (σ.set i (some (.ref a))) H' ∧ Lat H (T B.U w) H' (T B.U (ownAll w i (a :: as))) := by
  have hi : i < Γ.length := (List.getElem?_eq_some_iff.mp hk).1
  have tr : ∀ c o, H c = some o → c ∉ a :: as := fun c o e z => by rw [hn c z] at e; cases e
  have tT : ∀ c, T B.U (ownAll w i (a :: as)) c → T B.U w c ∨ c ∈ a :: as := fun c h => by
    rcases h with h | h
    · exact .inl (.inl h)
    · unfold ownAll at h
      by_cases q : c ∈ a :: as
      · exact .inr q
      · rw [if_neg q] at h
        exact .inl (.inr fun z => h (by rw [z, if_neg (by simp)]))
  have L : Lat H (T B.U w) H' (T B.U (ownAll w i (a :: as))) := ⟨fun c o e n => ⟨s _ _ e, fun z => (tT c z).elim n (tr c o e)⟩, fun c o e _ => s _ _ e⟩
  have LW : Lat H' (fun c => T B.U w c ∨ c ∈ a :: as) H' (T B.U (ownAll w i (a :: as))) := Lat.weak tT
  have w1 : ∀ c j, w c = some j → j ≠ i → ownAll w i (a :: as) c = some j := fun c j e n => by
    obtain ⟨⟨xs, z⟩, _⟩ := S.sr.pr c j e
    unfold ownAll
    rw [if_neg (tr c _ z), if_neg (by rw [e]; exact fun z => n (Option.some.inj z))]
    exact e
  have w2 : ∀ c ∈ a :: as, ownAll w i (a :: as) c = some i := fun c h => by unfold ownAll; rw [if_pos h]
  have wi : ∀ c j, ownAll w i (a :: as) c = some j → (c ∈ a :: as ∧ j = i) ∨ (w c = some j ∧ c ∉ a :: as) := fun c j h => by
    unfold ownAll at h
    by_cases q : c ∈ a :: as
    · rw [if_pos q] at h; cases h; exact .inl ⟨q, rfl⟩
    · rw [if_neg q] at h
      split at h
      · cases h
      · exact .inr ⟨h, q⟩
  have hc : ∀ c ∈ a :: as, ∃ xs, H' c = some (.lst xs) := fun c h => by
    rcases List.mem_cons.mp h with h | h
    · subst h; exact ⟨_, ea⟩
    · obtain ⟨l, hl, e⟩ := List.getElem_of_mem h
      obtain ⟨xs, ds, _, q, _⟩ := rr l c (by rw [List.getElem?_eq_getElem hl, e])
      exact ⟨xs, q⟩
  refine ⟨⟨⟨fun j k d h1 h2 h3 => ?_, fun c j q => ?_, fun c h => ?_, fun c j q => ?_, by rw [List.length_set]; exact S.sr.lr, by rw [List.length_set]; exact S.sr.ls⟩, fun c o h1 h2 => s _ _ (S.b1 c o h1 h2), fun c j q => ?_, fun j hj => ?_, fun c j q => ?_⟩, L⟩
  · by_cases q : i = j
    · subst q
      rw [hk] at h1
      cases h1
      rw [List.getElem?_set_self (by rw [S.sr.lr]; exact hi)] at h3
      cases h3
      refine ⟨.ref a, List.getElem?_set_self (by rw [S.sr.ls]; exact hi), a, as, dss, rfl, rfl, w2 a (by simp), ea, n1, n2, el, fun l c hc => ?_⟩
      obtain ⟨xs, ds, q1, q2, q3⟩ := rr l c hc
      exact ⟨w2 c (List.mem_cons_of_mem _ (List.mem_of_getElem? hc)), xs, ds, q1, q2, RDs.lat LW _ _ q3⟩
    · rw [List.getElem?_set_ne q] at h3 ⊢
      obtain ⟨v, e', r⟩ := S.sr.sl j k d h1 h2 h3
      exact ⟨v, e', r.mono L fun c h => ⟨w1 c j h (Ne.symm q), fun xs z => s _ _ z⟩⟩
  · rcases wi c j q with ⟨z, _⟩ | ⟨z, _⟩
    · exact ⟨hc c z, fun y => by obtain ⟨o, e⟩ := S.sr.up c y; rw [hn c z] at e; cases e⟩
    · obtain ⟨⟨xs, e⟩, n⟩ := S.sr.pr c j z
      exact ⟨⟨xs, s _ _ e⟩, n⟩
  · obtain ⟨o, e⟩ := S.sr.up c h
    exact ⟨o, s _ _ e⟩
  · rcases wi c j q with ⟨_, z⟩ | ⟨z, _⟩
    · subst z; exact ⟨_, hk, rfl⟩
    · exact S.sr.ow c j z
  · rcases wi c j q with ⟨z, _⟩ | ⟨z, _⟩
    · cases q0 : B.H0 c with
      | none => exact .inr rfl
      | some o => exact .inl fun q1 => by have := S.b1 c o q0 q1; rw [hn c z] at this; cases this
    · exact S.b2 c j z
  · rw [List.getElem?_set_ne (fun e => by subst e; rcases hj with h | h <;> (rw [hk] at h; cases h))]
    exact S.fx j hj
  · obtain ⟨q1, q2⟩ := S.b3 c j q
    exact ⟨w1 c j q1 (fun z => by subst z; rw [hk] at q2; cases q2), q2⟩
end
section
variable {X : Cx} {Γ Γo Γl : List Kd} {Γr : Rt} {k i j : Nat} {iter : Expr} {ωi : DI}
def sSet2 (i j : Nat) (ωi : DI) : DS := fun de ρ => ωi ρ fun ds ρ1 => ∃ dss : List (List D), ds = dss.map .list ∧ dss.length ≤ 1000 ∧ de.nx (ρ1.set i (some (.list (dss.map .list))))
def rList (K : PySem.W.Frag) : List V → Hp → VK → Prop := fun xs H Q => ∃ p ys, xs = [.ref p] ∧ (SqL K H p ys ∨ SqT K H p ys) ∧ ∀ l, H l = none → Q (.ref l) (upd H l (.lst ys))
theorem set2_imp (hki : Γ[i]? = some .o2) (hkj : Γ[j]? = some .fz) : ∀ E σ H, tDS X.K Γ Γ Γl Γr (sSet2 i j ωi) E σ H →
    tLc (tJI X.K Γ ωi) (gName j) tYes (tCB (rList X.K) (tCons (tVar j) tNil)) [j] σ H (fun x H1 => gName i x σ H1 E.nx) := by
  rintro E σ H ⟨B, w, ρ, de, S, q, kn, _⟩
  refine ⟨B, w, ρ, _, S, q, fun ds ρ1 ⟨dss, eds, hlen, q1⟩ Jt H1 p1 S1 it Dn hD => ?_⟩
  subst eds
  have hj : j < σ.length := by rw [S.sr.ls]; exact (List.getElem?_eq_some_iff.mp hkj).1
  refine ⟨fun n m Hh => ∃ as : List Addr, as.length = n ∧ n ≤ dss.length ∧ m = dss.length - n ∧ Hh Dn = some (.lst (as.map .ref)) ∧ (∀ b ∈ as, H1 b = none ∧ b ≠ Dn) ∧ as.Nodup ∧ (∀ a o, H1 a = some o → Hh a = some o) ∧
      ∀ (l : Nat) (b : Addr), as[l]? = some b → ∃ xs ds, dss[l]? = some ds ∧ Hh b = some (.lst xs) ∧ RDs X.K Hh (fun c => T B.U w c ∨ c ∈ Dn :: as) xs ds, ⟨dss.length, [], rfl, Nat.zero_le _, by simp, upd_same, by simp, List.nodup_nil, Same.new hD, by simp⟩, ?_⟩
  rintro n m Hh ⟨as, hn, hle, em, eD, na, nd, sm, rr⟩
  have tr : ∀ c o, H1 c = some o → c ∉ Dn :: as := fun c o e z => by
    rcases List.mem_cons.mp z with z | z
    · subst z; rw [hD] at e; cases e
    · rw [(na c z).1] at e; cases e
  have LL : Lat H1 (T B.U w) Hh (fun c => T B.U w c ∨ c ∈ Dn :: as) := ⟨fun a o e nu => ⟨sm a o e, fun z => z.elim nu (tr a o e)⟩, fun a o e _ => sm a o e⟩
  have upU : ∀ a, (T B.U w a ∨ a ∈ Dn :: as) → Hh a ≠ none := fun a h z => by
    rcases h with (h | h) | h
    · obtain ⟨o, e⟩ := S1.sr.up a h; rw [sm a o e] at z; cases z
    · cases q : w a with
      | none => exact h q
      | some l => obtain ⟨⟨xs, e⟩, _⟩ := S1.sr.pr a l q; rw [sm a _ e] at z; cases z
    · rcases List.mem_cons.mp h with h | h
      · subst h; rw [eD] at z; cases z
      · obtain ⟨l, hl, e⟩ := List.getElem_of_mem h
        obtain ⟨xs, ds, _, e', _⟩ := rr l a (by rw [List.getElem?_eq_getElem hl, e])
        rw [e'] at z; cases z
  obtain ⟨st, turn⟩ := it Hh _ LL upU
  rw [List.length_map] at st
  by_cases hlt : n < dss.length
  · right
    obtain ⟨g1, g2⟩ := turn n (.list dss[n]) (by rw [List.getElem?_map, List.getElem?_eq_getElem hlt]; rfl)
    refine ⟨g1, fun H' => ∃ m', m' < m ∧ ∃ as : List Addr, as.length = n + 1 ∧ n + 1 ≤ dss.length ∧ m' = dss.length - (n + 1) ∧ H' Dn = some (.lst (as.map .ref)) ∧ (∀ b ∈ as, H1 b = none ∧ b ≠ Dn) ∧ as.Nodup ∧ (∀ a o, H1 a = some o → H' a = some o) ∧
      ∀ (l : Nat) (b : Addr), as[l]? = some b → ∃ xs ds, dss[l]? = some ds ∧ H' b = some (.lst xs) ∧ RDs X.K H' (fun c => T B.U w c ∨ c ∈ Dn :: as) xs ds, fun H' z => z, fun x H2 y => ?_⟩
    obtain ⟨s2, rx⟩ := g2 x H2 y
    cases rx with | @lst l zs _ e1 n1 t1 =>
    refine ⟨?_, ?_⟩
    · apply List.ext_getElem?
      intro a
      rw [wipe_get, wipe_get]
      have el : ((wipe σ [j]).set j (some (V.ref l))).length = σ.length := by rw [List.length_set, wipe_length]
      rw [el]
      by_cases z : a ∈ [j] ∧ a < σ.length
      · rw [if_pos z, if_pos z]
      · rw [if_neg z, if_neg z]
        by_cases y : j = a
        · subst y; exact absurd ⟨by simp, hj⟩ z
        · rw [List.getElem?_set_ne y, wipe_get, if_neg z]
    simp only [tYes, if_true]
    refine ⟨.ref l, List.getElem?_set_self (by rw [wipe_length]; exact hj), l, zs, rfl, .inl (.inl (.inl e1)), fun p hp => ?_⟩
    have eD2 : H2 Dn = some (.lst (as.map .ref)) := s2 _ _ eD
    have pD : p ≠ Dn := fun z => by rw [z, eD2] at hp; cases hp
    have pas : p ∉ as := fun z => by
      obtain ⟨l', hl', e⟩ := List.getElem_of_mem z
      obtain ⟨xs, ds, _, e', _⟩ := rr l' p (by rw [List.getElem?_eq_getElem hl', e])
      rw [s2 _ _ e'] at hp; cases hp
    have hp1 : H1 p = none := by
      cases q : H1 p with
      | none => rfl
      | some o => rw [s2 _ _ (sm p o q)] at hp; cases hp
    have hh : Hh p = none := by
      cases q : Hh p with
      | none => rfl
      | some o => rw [s2 _ _ q] at hp; cases hp
    have keep : ∀ a o, a ≠ Dn → a ≠ p → H2 a = some o → upd (upd H2 p (.lst zs)) Dn (.lst (as.map V.ref ++ [V.ref p])) a = some o := fun a o h1 h2 e => by
      rw [upd_ne h1, upd_ne h2]; exact e
    have L2 : Lat H2 (fun c => T B.U w c ∨ c ∈ Dn :: as) (upd (upd H2 p (.lst zs)) Dn (.lst (as.map V.ref ++ [V.ref p]))) (fun c => T B.U w c ∨ c ∈ Dn :: (as ++ [p])) := by
      refine ⟨fun a o e nu => ?_, fun a o e nm => ?_⟩
      · have h1 : a ≠ Dn := fun z => nu (.inr (by rw [z]; simp))
        have h2 : a ≠ p := fun z => by rw [z, hp] at e; cases e
        refine ⟨keep a o h1 h2 e, fun z => ?_⟩
        rcases z with z | z
        · exact nu (.inl z)
        · simp only [List.mem_cons, List.mem_append, List.not_mem_nil, or_false] at z
          rcases z with z | z | z
          · exact h1 z
          · exact nu (.inr (List.mem_cons_of_mem _ z))
          · exact h2 z
      · exact keep a o (fun z => by rw [z, eD2] at e; cases e; exact nm trivial) (fun z => by rw [z, hp] at e; cases e) e
    refine ⟨as.map .ref, by rw [upd_ne (Ne.symm pD)]; exact eD2, ?_, m - 1, by omega, as ++ [p], by rw [List.length_append]; simp [hn], hlt, by omega, ?_, ?_, ?_, ?_, ?_⟩
    · rw [List.length_map]; exact small1000 (by omega)
    · rw [upd_same, List.map_append]; rfl
    · intro b hb
      rcases List.mem_append.mp hb with hb | hb
      · exact na b hb
      · have : b = p := by simpa using hb
        subst this
        exact ⟨hp1, pD⟩
    · rw [List.nodup_append]
      refine ⟨nd, by simp, fun a ha b hb => ?_⟩
      have : b = p := by simpa using hb
      subst this
      exact fun z => pas (z ▸ ha)
    · exact fun a o e => keep a o (fun z => by rw [z, hD] at e; cases e) (fun z => by rw [z, hp1] at e; cases e) (s2 _ _ (sm a o e))
    · intro l' b hb
      by_cases z : l' < as.length
      · rw [List.getElem?_append_left z] at hb
        obtain ⟨xs, ds, q1, q2, q3⟩ := rr l' b hb
        have hbm := List.mem_of_getElem? hb
        exact ⟨xs, ds, q1, keep b _ (na b hbm).2 (fun y => pas (y ▸ hbm)) (s2 _ _ q2), RDs.lat ((Lat.same s2 fun _ z => z).trans L2) _ _ q3⟩
      · rw [List.getElem?_append_right (by omega)] at hb
        have hl' : l' = n := by
          have := (List.getElem?_eq_some_iff.mp hb).1
          simp at this
          omega
        subst hl'
        rw [show l' - as.length = 0 by omega] at hb
        cases hb
        exact ⟨zs, dss[l'], List.getElem?_eq_getElem hlt, by rw [upd_ne pD, upd_same], RDs.lat L2 _ _ t1⟩
  · left
    have en : n = dss.length := by omega
    subst en
    refine ⟨st, ?_⟩
    have h := S1.own2 (a := Dn) (as := as) (dss := dss) hki sm (fun b hb => ?_) eD (fun z => (na Dn z).2 rfl) nd hn rr
    · exact kn _ _ _ Hh q1 h.1 ((S.stpLatT p1).trans h.2)
    · rcases List.mem_cons.mp hb with z | z
      · subst z; exact hD
      · exact (na b z).1
theorem JS_set2 {y yi : Str} {py p p2 p3 p4 pos spos : Pos} {scope : Scope} {kk : Nat} (O : Ok X kk) (hN : X.N.Nodup) (hm : X.mg "list" = none) (hi : JI X Γ (.Name y p) iter ωi) (ok : BlkOk X.N X.env.scope scope [(y, j)])
    (hg : ∀ (s : Shared) (H : Hp) (C : Addr) (cl : List (Str × Addr)) (fp : List Addr), PG (X.blk s H scope (compEnvC scope cl C X.env) fp) (.Name y p) (gName j) := by exact fun _ _ _ _ _ => pg_name (by assumption) rfl (Or.inl rfl))
    (he : ∀ (hm' : X.mg "list" = none) (s : Shared) (H : Hp) (C : Addr) (cl : List (Str × Addr)) (fp : List Addr), PE (X.blk s H scope (compEnvC scope cl C X.env) fp) (.Call (.Name "list" p2) [.Name y p3] [] p4) (tCB (rList X.K) (tCons (tVar j) tNil)) := by exact fun hm' _ _ _ _ _ => pe_callTy call_list_of rfl hm' (by decide +kernel) (pa_cons (pv _) pa_nil))
    (hy : X.N[i]? = some yi := by rfl) (hki : Γ[i]? = some .o2 := by rfl) (hkj : Γ[j]? = some .fz := by rfl) (hyl : X.env.scope.names.lookup yi = some .local := by rfl)
    (hsw : swapsWith (.ListComp (.Call (.Name "list" p2) [.Name y p3] [] p4) [⟨.Name y p, iter, [], 0⟩] scope pos) (some (.Name yi py)) spos.line X.env = pure true := by exact sw_true rfl rfl rfl (by decide +kernel))
    (hs : ∀ x, foldedSetIterable iter X.env x = pure x := by intro _; rfl) :
    JS X Γ Γ Γl Γr (.Assign [.Name yi py] (.ListComp (.Call (.Name "list" p2) [.Name y p3] [] p4) [⟨.Name y p, iter, [], 0⟩] scope pos) spos) (sSet2 i j ωi) :=
  PS.imp (ps_setLc (own := [(y, j)]) O.calm hN hy hyl hsw hi ok hg (fun _ _ _ _ _ => pts_nil) (he hm) hs) (set2_imp hki hkj)
theorem JS_set2c {y yi : Str} {py p p2 p3 p4 pos spos : Pos} {scope : Scope} {kk : Nat} (O : Ok X kk) (hN : X.N.Nodup) (hm : X.mg "list" = none) (hi : JI X Γ (.Name y p) iter ωi) (ok : BlkOk X.N X.env.scope scope [(y, j)])
    (hg : ∀ (s : Shared) (H : Hp) (C : Addr) (cl : List (Str × Addr)) (fp : List Addr), PG (X.blk s H scope (compEnvC scope cl C X.env) fp) (.Name y p) (gName j) := by exact fun _ _ _ _ _ => pg_name (by assumption) rfl (Or.inl rfl))
    (he : ∀ (hm' : X.mg "list" = none) (s : Shared) (H : Hp) (C : Addr) (cl : List (Str × Addr)) (fp : List Addr), PE (X.blk s H scope (compEnvC scope cl C X.env) fp) (.Call (.Name "list" p2) [.Name y p3] [] p4) (tCB (rList X.K) (tCons (tVar j) tNil)) := by exact fun hm' _ _ _ _ _ => pe_callTy call_list_of rfl hm' (by decide +kernel) (pa_cons (pv _) pa_nil))
    (hy : X.N[i]? = some yi := by rfl) (hki : Γ[i]? = some .o2 := by rfl) (hkj : Γ[j]? = some .fz := by rfl) (hx : Loc X.env.scope yi := by first | exact .inl rfl | exact .inr rfl)
    (hsw : swapsWith (.ListComp (.Call (.Name "list" p2) [.Name y p3] [] p4) [⟨.Name y p, iter, [], 0⟩] scope pos) (some (.Name yi py)) spos.line X.env = pure false := by rfl) (hf : X.fn yi = true ∨ X.env.scope.names.lookup yi = some .local := by first | exact .inl rfl | exact .inr rfl | assumption)
    (hs : ∀ x, foldedSetIterable iter X.env x = pure x := by intro _; rfl) :
    JS X Γ Γ Γl Γr (.Assign [.Name yi py] (.ListComp (.Call (.Name "list" p2) [.Name y p3] [] p4) [⟨.Name y p, iter, [], 0⟩] scope pos) spos) (sSet2 i j ωi) :=
  PS.imp (ps_set hN hy hx (pe_lc (own := [(y, j)]) O.calm hN hi ok hg (fun _ _ _ _ _ => pts_nil) (he hm) hs) hsw hf) (set2_imp hki hkj)
end
end DD

set_option Elab.async false
set_option linter.all false
set_option maxRecDepth 100000
set_option maxHeartbeats 4000000
/-! DD, part 7: defs, their promises, calls -/
namespace DD
open PySem PySem.Spec PyProof.Rows L2

abbrev GSp := List V → Hp → VK → Prop
/-- the def keeps its promise wherever nothing is being shown (repr) -/
structure FnG (P : Program) (w : World) (K : PySem.W.Frag) (mg : Str → Option Value) (base : Heap) (k : Nat) (f : Addr) (fd : FuncData) (ps : List Str) (sp : GSp) : Prop where
  len : ∀ vs H Q, sp vs H Q → vs.length = ps.length
  run : ∀ (A : Around) (outer : List Env) (s : Shared) (H : Hp) (args : Args) (us : List Value) (vs : List V) (Q : VK), Room k A → A.guards = some [] → Env0 P w K mg base A outer s H →
    BindsTo s fd args (ps.zip us) → Vals vs us → sp vs H Q → codeAny (model P w) A (.call (.ref f) args) (CR CX0 outer P w H s Q E0) s
section
variable {P : Program} {w : World} {K : PySem.W.Frag} {mg : Str → Option Value} {base : Heap} {j k : Nat} {f : Addr} {fd : FuncData} {ps : List Str} {sp sp' : GSp}
theorem FnG.up (F : FnG P w K mg base j f fd ps sp) (h : j ≤ k) : FnG P w K mg base k f fd ps sp :=
  ⟨F.len, fun A outer s H args us vs Q hr => F.run A outer s H args us vs Q (hr.mono h)⟩
theorem FnG.imp (F : FnG P w K mg base k f fd ps sp) (h : ∀ vs H Q, sp' vs H Q → sp vs H Q) : FnG P w K mg base k f fd ps sp' :=
  ⟨fun vs H Q q => F.len vs H Q (h _ _ _ q), fun A outer s H args us vs Q a b c d e g => F.run A outer s H args us vs Q a b c d e (h _ _ _ g)⟩
abbrev bX (P : Program) (w : World) (K : PySem.W.Frag) (mg : Str → Option Value) (base : Heap) (N : List Str) (qual : Str) (sc : Scope) (f : Addr) (cd : Value) (A : Around) (outer : List Env) (s : Shared) (H : Hp) : Cx := (cxOf CX0 P w K mg base N qual sc f cd A outer s H E0).nox
theorem fun_okG {x qual : Str} {st : Stmt} {N : List Str} (F : Fun K x qual st f fd) (S : FnScope N ps (defScope st)) (len : ∀ vs H Q, sp vs H Q → vs.length = ps.length)
    (hbody : ∀ (cd : Value) (A : Around) (outer : List Env) (s : Shared) (H0 : Hp), Ok (bX P w K mg base N qual (defScope st) f cd A outer s H0) k →
      ∀ (vs : List V) (Q : VK), sp vs H0 Q → ∃ t, PSs (bX P w K mg base N qual (defScope st) f cd A outer s H0) (defBody st) t ∧ t { nx := fun _ H' => Q .non H', rt := Q } (L2.start N vs) H0) : FnG P w K mg base (k + 1) f fd ps sp := by
  obtain ⟨oc, od, kV, doc, pm, an, cdv, ct, osl, rfl, lk, hcd⟩ := F.ex
  refine ⟨len, fun A outer s H args us vs Q hr hg e0 hb r q => ?_⟩
  have ln := len _ _ _ q
  have kin : K.In s.heap := e0.mod.kin.keeps fun b o e => (e0.bs b o e).1
  have nl : s.heap.NoLimit := e0.mod.nolimit.keeps fun b o e => (e0.bs b o e).1
  have kinds : ∀ z ∈ ps.zip us, (defScope st).names.lookup z.1 = some .local ∨ ((defScope st).names.lookup z.1 = some .cell ∧ ((cellsFrom (s.heap.objs.size + 1) (defScope st).names []).lookup z.1).isSome = true) := by
    rintro ⟨n, u⟩ hz
    have hp := S.par n (List.of_mem_zip hz).1
    exact hp.imp id fun c => ⟨c, PySem.W.cellsFrom_some _ _ _ (.inl c)⟩
  refine codeAny_call_function hr.depth (kin _ _ lk) rfl S.co S.gen rfl (PySem.W.codeRec_of kin hcd) (hb _ _ _ _ ?_)
  refine wpAny_newFunctionEnv_cells S.kind kinds fun env he s1 x => ?_
  subst he
  refine ⟨nl.keeps x.toInCall.keep, codeAny_func ?_⟩
  have I := inv_start (CX := CX0) (mg := mg) (E := E0) S hr.hd e0 ln r x
  obtain ⟨t, ht, hq⟩ := hbody cdv A outer s H ⟨hr.deeper _, hg, rfl⟩ vs Q q
  refine wpAny_mono (ht.nox.run [] s1 (L2.start N vs) H _ I hq) (fun fl s' hs => ?_) fun e s' hs => hs
  cases fl with
  | ret u => obtain ⟨v, σ', H', Jv, rv, q'⟩ := hs; exact ⟨v, H', Jv.os, Jv.bare, Jv.base, Jv.hok, rv, q'⟩
  | next => obtain ⟨σ', H', Jv, q'⟩ := hs; exact ⟨.non, H', Jv.os, Jv.bare, Jv.base, Jv.hok, rfl, q'⟩
  | brk => obtain ⟨_, _, _, q'⟩ := hs; exact q'.elim
  | cont => obtain ⟨_, _, _, q'⟩ := hs; exact q'.elim
end

section
variable {X : Cx} {b : Bool} {Γ : List Kd} {k : Nat} {f : Addr} {fd : FuncData} {ps : List Str} {sp : GSp} {x : Str} {p pos : Pos} {e : Expr} {es : List Expr} {t : TA} {ωs : DA}
def tCallG (sp : GSp) (t : TA) : TE := fun σ H Q => t σ H fun vs H1 => sp vs H1 Q
theorem runG {pins : List (Addr × Obj)} {σ : L2.St} {H : Hp} {s : Shared} {Q : VK} {us : List Value} {vs : List V} (F : FnG X.prog X.w X.K X.mg X.base k f fd ps sp) (O : Ok X k) (hb : Binds X.K fd ps []) (I : Inv X pins σ H s) (r : Vals vs us) (h : sp vs H Q) :
    wpAny (model X.prog X.w) X.A (call (.ref f) us) (EP X pins σ Q) X.xe s := by
  have hl : (us ++ []).length = ps.length := by rw [List.append_nil, ← r.length]; exact F.len _ _ _ h
  have hB := hb s us I.kIn hl
  rw [List.append_nil] at hB
  refine wpAny_call (codeAny_mono (F.run X.A X.stack s H ⟨us, []⟩ us vs Q O.room O.gd I.env0 hB r h) fun res s' hq => ?_)
  cases res with
  | error _ => exact hq.elim
  | ok fl =>
    cases fl with
    | ret _ => exact I.after hq
    | next => exact hq.elim
    | brk => exact hq.elim
    | cont => exact hq.elim
theorem pe_callG (O : Ok X k) (F : FnG X.prog X.w X.K X.mg X.base k f fd ps sp) (hm : X.mg x = some (.ref f)) (hk : PySem.W.keepIn X.K (.ref f) = true) (hb : Binds X.K fd ps []) (ha : PA X (e :: es) t) (hg : Gl X x := by rfl)
    (hdb : (x == ("__debug__" : Str)) = false := by decide) (he : starEach (e :: es) X.env = (false, eval e X.env) :: starEach es X.env := by rfl) (hpl : (backTo pos (starEach es X.env)).any (·.1) = false := by rfl) :
    PE X (.Call (.Name x p) (e :: es) [] pos) (tCallG sp t) := by
  refine ⟨fun pins s σ H Q I h => ?_⟩
  refine wpAny_Call_Name_kw (ld_glob I hg hm ?_ hdb)
  exact PySem.W.callWith_K (h₀ := X.base) I.ok.mod.kin hk (thn (ha.run pos pins s σ H _ I h) fun us s1 ⟨vs, H1, I1, r, q⟩ => ⟨I1.kIn, runG F O hb I1 r q⟩) he hpl

/-- a promise about data alone: F of the arguments, then what comes back -/
def spP (K : PySem.W.Frag) (n : Nat) (fr : Bool) (F : List D → (D → Prop) → Prop) : GSp := fun vs H Q => ∃ (U : US) (ds : List D) (Qd : D → Prop), (∀ a, U a → H a ≠ none) ∧ RDs K H U vs ds ∧ ds.length = n ∧ F ds Qd ∧
  ∀ r, Qd r → ∀ v H', Same H H' → Res K fr H U H' v r → Q v H'
/-- a def that stands in the module by its name -/
structure Hd (P : Program) (w : World) (K : PySem.W.Frag) (mg : Str → Option Value) (base : Heap) (k : Nat) (x : Str) (sp : GSp) : Prop where
  ex : ∃ (f : Addr) (fd : FuncData) (ps : List Str), FnG P w K mg base k f fd ps sp ∧ mg x = some (.ref f) ∧ PySem.W.keepIn K (.ref f) = true ∧ Binds K fd ps []
theorem Hd.up {P : Program} {w : World} {K : PySem.W.Frag} {mg : Str → Option Value} {base : Heap} {j k : Nat} {x : Str} {sp : GSp} (h : Hd P w K mg base j x sp) (l : j ≤ k) : Hd P w K mg base k x sp :=
  let ⟨f, fd, ps, F, a⟩ := h.ex
  ⟨f, fd, ps, F.up l, a⟩
abbrev HdX (X : Cx) (k : Nat) (x : Str) (sp : GSp) : Prop := Hd X.prog X.w X.K X.mg X.base k x sp
def eCall (n : Nat) (F : List D → (D → Prop) → Prop) (ωs : DA) : DE := fun ρ Q => ωs ρ fun ds ρ1 => ds.length = n ∧ F ds fun d => Q d ρ1
theorem J_call {n : Nat} {fr : Bool} {F : List D → (D → Prop) → Prop} (O : Ok X k) (Df : HdX X k x (spP X.K n fr F)) (ha : JA X b Γ (e :: es) ωs) (hg : Gl X x := by rfl)
    (hdb : (x == ("__debug__" : Str)) = false := by decide) (he : starEach (e :: es) X.env = (false, eval e X.env) :: starEach es X.env := by rfl) (hpl : (backTo pos (starEach es X.env)).any (·.1) = false := by rfl) :
    J X b Γ (.Call (.Name x p) (e :: es) [] pos) (eCall n F ωs) := by
  obtain ⟨f, fd, ps, Fg, hm, hk, hb⟩ := Df.ex
  exact PE.imp (pe_callG O Fg hm hk hb ha hg hdb he hpl) fun σ H Q ⟨B, w, ρ, Qd, S, ω, k⟩ => ⟨B, w, ρ, _, S, ω, fun ds ρ1 ⟨hl, q⟩ vs H1 p1 S1 r1 =>
    ⟨Um b B.U w, ds, _, S1.upm, r1, hl, q, fun r qr v H' s rv => k r ρ1 qr v H' (p1.trans (Stp.of s)) (S1.same s) (rv.rd S1.upm)⟩⟩

theorem ST.moreN {K : PySem.W.Frag} {Γ : List Kd} {B : Bx} {w : Own} {ρ : Rho} {σ : L2.St} {H H' : Hp} {p : Addr} {xs : List V} (S : ST K Γ B w ρ σ H) (s : Same H H') (hp : H p = none) (e : H' p = some (.lst xs)) : ST K Γ (B.more p) w ρ σ H' := by
  have L : Lat H (T B.U w) H' (T (B.more p).U w) := ⟨fun a o h n => ⟨s _ _ h, fun z => by
    rcases z with (z | z) | z
    · exact n (.inl z)
    · rw [z, hp] at h; cases h
    · exact n (.inr z)⟩, fun a o h _ => s _ _ h⟩
  refine ⟨⟨fun i k d h1 h2 h3 => ?_, fun a i q => ?_, fun a h => ?_, S.sr.ow, S.sr.lr, S.sr.ls⟩, fun b o h1 h2 => s _ _ (S.b1 b o h1 h2), S.b2, S.fx, S.b3⟩
  · obtain ⟨v, ev, r⟩ := S.sr.sl i k d h1 h2 h3
    exact ⟨v, ev, r.mono L fun a q => ⟨q, fun ys z => s _ _ z⟩⟩
  · obtain ⟨⟨ys, z⟩, n⟩ := S.sr.pr a i q
    exact ⟨⟨ys, s _ _ z⟩, fun y => y.elim n fun y => by rw [y, hp] at z; cases z⟩
  · rcases h with h | h
    · obtain ⟨o, z⟩ := S.sr.up a h; exact ⟨o, s _ _ z⟩
    · subst h; exact ⟨_, e⟩
theorem J1_call {n : Nat} {F : List D → (D → Prop) → Prop} (O : Ok X k) (Df : HdX X k x (spP X.K n true F)) (ha : JA X false Γ (e :: es) ωs) (hg : Gl X x := by rfl)
    (hdb : (x == ("__debug__" : Str)) = false := by decide) (he : starEach (e :: es) X.env = (false, eval e X.env) :: starEach es X.env := by rfl) (hpl : (backTo pos (starEach es X.env)).any (·.1) = false := by rfl) :
    J1 X Γ (.Call (.Name x p) (e :: es) [] pos) (eCall n F ωs) := by
  obtain ⟨f, fd, ps, Fg, hm, hk, hb⟩ := Df.ex
  refine PE.imp (pe_callG O Fg hm hk hb ha hg hdb he hpl) fun σ H Q ⟨B, w, ρ, Qd, S, ω, k⟩ => ⟨B, w, ρ, _, S, ω, fun ds ρ1 ⟨hl, q⟩ vs H1 p1 S1 r1 =>
    ⟨Um false B.U w, ds, _, S1.upm, r1, hl, q, fun r qr v H' s rv => ?_⟩⟩
  obtain ⟨p, xs, dd, rfl, rfl, hp, ep, rs⟩ := rv
  refine k dd ρ1 qr p xs H' (S1.earlier p1 hp) (fun a o ap wa z => s _ _ (p1 a o (.inr wa) z)) (S1.moreN s hp ep) ep (RDs.lat (Lat.weak fun a z => ?_) _ _ rs)
  rcases z with (z | z) | z
  · exact .inl ⟨rfl, .inl z⟩
  · exact .inr z
  · exact .inl ⟨rfl, .inr z⟩
/-- a promise of a def whose first argument is a list that it may change (or the script) -/
def spI (K : PySem.W.Frag) (kd : Kd) (n : Nat) (fr : Bool) (F : D → List D → (D → D → Prop) → Prop) : GSp := fun vs H Q => ∃ (U : US) (w : Own) (d : D) (ds : List D) (v0 : V) (vs1 : List V) (Qd : D → D → Prop), vs = v0 :: vs1 ∧ SR K [kd] U w [some d] [some v0] H ∧ RDs K H (T U w) vs1 ds ∧ ds.length = n ∧ F d ds Qd ∧
  ∀ r d', Qd r d' → ∀ v H', Stp false w H H' → SR K [kd] U w [some d'] [some v0] H' → Res K fr H (T U w) H' v r → Q v H'
def eCallI (i n : Nat) (F : D → List D → (D → D → Prop) → Prop) (ωs : DA) : DE := fun ρ Q => (∃ d0, ρ[i]? = some (some d0)) ∧ ωs ρ fun ds ρ1 => ∃ d, ρ1[i]? = some (some d) ∧ ds.length = n ∧ F d ds fun r d' => Q r (ρ1.set i (some d'))
/-- what the callee sees of one's own -/
def lentU (U : US) (w : Own) (i : Nat) : US := fun a => T U w a ∧ w a ≠ some i
def lentW (w : Own) (i : Nat) : Own := fun a => if w a = some i then some 0 else none
theorem lentT {U : US} {w : Own} {i : Nat} (nu : ∀ a j, w a = some j → ¬ U a) (a : Addr) : T (lentU U w i) (lentW w i) a ↔ T U w a := by
  unfold T lentU lentW
  constructor
  · rintro (⟨h, _⟩ | h)
    · exact h
    · by_cases q : w a = some i
      · exact .inr (by rw [q]; simp)
      · rw [if_neg q] at h; exact absurd rfl h
  · intro h
    by_cases q : w a = some i
    · exact .inr (by rw [if_pos q]; simp)
    · exact .inl ⟨h, q⟩
theorem callI_core {i n : Nat} {fr : Bool} {kc kd : Kd} {F : D → List D → (D → D → Prop) → Prop} {y : Str} {py : Pos} (O : Ok X k) (Df : HdX X k x (spI X.K kd n fr F)) (hy : PE X (.Name y py) (tVar i)) (ha : JA X false Γ es ωs) (hcv : ∀ (K : PySem.W.Frag) H U w i v d, KR K H U w i kc v d ↔ KR K H U w i kd v d := by intros; exact Iff.rfl) (hki : Γ[i]? = some kc := by rfl) (hkc : kc ≠ .no := by decide) (hkd : kd ≠ .no := by decide) (hco : ownable kc = true → ownable kd = true := by decide) (hg : Gl X x := by rfl)
    (hdb : (x == ("__debug__" : Str)) = false := by decide) (he : starEach (.Name y py :: es) X.env = (false, eval (.Name y py) X.env) :: starEach es X.env := by rfl) (hpl : (backTo pos (starEach es X.env)).any (·.1) = false := by rfl) :
    PE X (.Call (.Name x p) (.Name y py :: es) [] pos) (fun σ H Q => ∃ B w ρ Qd, ST X.K Γ B w ρ σ H ∧ eCallI i n F ωs ρ Qd ∧ ∀ d ρ', Qd d ρ' → ∀ v H' H1 ρ1, Stp false w H H1 → ST X.K Γ B w ρ1 σ H1 → Stp false w H1 H' → ST X.K Γ B w ρ' σ H' → Res X.K fr H1 (T B.U w) H' v d → Q v H') := by
  obtain ⟨f, fd, ps, Fg, hm, hk, hb⟩ := Df.ex
  refine PE.imp (pe_callG O Fg hm hk hb (pa_cons hy ha he) hg hdb he hpl) fun σ H Q ⟨B, w, ρ, Qd, S, ⟨⟨d0, h0⟩, ω⟩, k⟩ => ?_
  obtain ⟨v0, e0, _⟩ := S.sr.sl i kc d0 hki hkc h0
  refine ⟨v0, e0, B, w, ρ, _, S, ω, fun ds ρ1 ⟨d, h1, hl, q⟩ vs H1 p1 S1 r1 => ?_⟩
  obtain ⟨v1, e1, kr⟩ := S1.sr.sl i kc d hki hkc h1
  rw [e0] at e1
  cases e1
  have nu : ∀ a j, w a = some j → ¬ B.U a := fun a j h => (S1.sr.pr a j h).2
  have hi : i < Γ.length := (List.getElem?_eq_some_iff.mp hki).1
  have LT : ∀ Hh : Hp, Lat Hh (T B.U w) Hh (T (lentU B.U w i) (lentW w i)) := fun Hh => Lat.weak fun a h => (lentT nu a).mp h
  have LT' : ∀ Hh : Hp, Lat Hh (T (lentU B.U w i) (lentW w i)) Hh (T B.U w) := fun Hh => Lat.weak fun a h => (lentT nu a).mpr h
  refine ⟨lentU B.U w i, lentW w i, d, ds, v0, vs, _, rfl, ⟨fun j k' d' g1 g2 g3 => ?_, fun a j h => ?_, fun a h => ?_, fun a j h => ?_, rfl, rfl⟩, RDs.lat (LT H1) _ _ r1.um, hl, q, fun r d' qr v H' st sr rv => ?_⟩
  · cases j with
    | succ j => simp at g1
    | zero =>
      simp at g1 g3
      subst g1 g3
      exact ⟨v0, rfl, ((hcv _ _ _ _ _ _ _).mp kr).mono (LT H1) fun a h => ⟨by unfold lentW; rw [if_pos h], fun _ z => z⟩⟩
  · unfold lentW at h
    split at h
    · rename_i q
      obtain ⟨z1, z2⟩ := S1.sr.pr a i q
      exact ⟨z1, fun z => z.2 q⟩
    · cases h
  · rcases h.1 with h | h
    · exact S1.sr.up a h
    · cases q : w a with
      | none => exact absurd q h
      | some j => obtain ⟨⟨xs, z⟩, _⟩ := S1.sr.pr a j q; exact ⟨_, z⟩
  · unfold lentW at h
    split at h
    · rename_i q
      cases h
      obtain ⟨k2, z1, z2⟩ := S1.sr.ow a i q
      rw [hki] at z1
      cases z1
      exact ⟨kd, rfl, hco z2⟩
    · cases h
  · have stw : ∀ a o, w a ≠ some i → H1 a = some o → H' a = some o := fun a o n e => st a o (.inr (by unfold lentW; rw [if_neg n])) e
    have p2 : Stp false w H1 H' := fun a o h e => stw a o (by rw [h.resolve_left (by simp)]; simp) e
    have L := S1.stpLatT p2
    refine k _ _ qr v H' H1 ρ1 p1 S1 p2 ⟨⟨fun j k' d2 g1 g2 g3 => ?_, fun a j h => ?_, fun a h => ?_, S1.sr.ow, by rw [List.length_set]; exact S1.sr.lr, S1.sr.ls⟩, fun bb o h1 h2 => ?_, S1.b2, S1.fx, S1.b3⟩ (rv.weak fun a h => (lentT nu a).mpr h)
    · by_cases q : i = j
      · subst q
        rw [hki] at g1
        cases g1
        rw [List.getElem?_set_self (by rw [S1.sr.lr]; exact hi)] at g3
        cases g3
        obtain ⟨v2, z1, z2⟩ := sr.sl 0 kd d' rfl hkd rfl
        cases z1
        refine ⟨v0, e0, ((hcv _ _ _ _ _ _ _).mpr z2).mono (LT' H') fun a h => ⟨?_, fun _ z => z⟩⟩
        unfold lentW at h
        split at h
        · assumption
        · cases h
      · rw [List.getElem?_set_ne q] at g3
        obtain ⟨v2, z1, z2⟩ := S1.sr.sl j k' d2 g1 g2 g3
        exact ⟨v2, z1, z2.mono L fun a h => ⟨h, fun xs z => stw a _ (by rw [h]; exact fun y => q (Option.some.inj y).symm) z⟩⟩
    · by_cases q : w a = some i
      · obtain ⟨z1, _⟩ := sr.pr a 0 (by unfold lentW; rw [if_pos q])
        exact ⟨z1, nu a j h⟩
      · obtain ⟨⟨xs, z⟩, n⟩ := S1.sr.pr a j h
        exact ⟨⟨xs, stw a _ q z⟩, n⟩
    · obtain ⟨o, z⟩ := S1.sr.up a h
      exact ⟨o, stw a o (fun q => nu a i q h) z⟩
    · have e := S1.b1 bb o h1 h2
      by_cases q : w bb = some i
      · rcases S1.b2 bb i q with z | z
        · exact absurd h2 z
        · rw [z] at h1; cases h1
      · exact stw bb o q e
theorem J_callI {i n : Nat} {fr : Bool} {kc kd : Kd} {F : D → List D → (D → D → Prop) → Prop} {y : Str} {py : Pos} (O : Ok X k) (Df : HdX X k x (spI X.K kd n fr F)) (hy : PE X (.Name y py) (tVar i)) (ha : JA X false Γ es ωs) (hcv : ∀ (K : PySem.W.Frag) H U w i v d, KR K H U w i kc v d ↔ KR K H U w i kd v d := by intros; exact Iff.rfl) (hki : Γ[i]? = some kc := by rfl) (hkc : kc ≠ .no := by decide) (hkd : kd ≠ .no := by decide) (hco : ownable kc = true → ownable kd = true := by decide) (hg : Gl X x := by rfl)
    (hdb : (x == ("__debug__" : Str)) = false := by decide) (he : starEach (.Name y py :: es) X.env = (false, eval (.Name y py) X.env) :: starEach es X.env := by rfl) (hpl : (backTo pos (starEach es X.env)).any (·.1) = false := by rfl) :
    J X false Γ (.Call (.Name x p) (.Name y py :: es) [] pos) (eCallI i n F ωs) :=
  PE.imp (callI_core O Df hy ha hcv hki hkc hkd hco hg hdb he hpl) fun σ H Q ⟨B, w, ρ, Qd, S, ω, k⟩ => ⟨B, w, ρ, Qd, S, ω, fun d ρ' qd v H' H1 ρ1 p1 S1 p2 S' r =>
    k d ρ' qd v H' (p1.trans p2) S' (RD.umT (r.rd fun a h => by
      rcases h with h | h
      · obtain ⟨o, z⟩ := S1.sr.up a h; rw [z]; simp
      · cases q : w a with
        | none => exact absurd q h
        | some j => obtain ⟨⟨xs, z⟩, _⟩ := S1.sr.pr a j q; rw [z]; simp))⟩

/-- a promise of a def whose first argument is the script -/
def ScR (K : PySem.W.Frag) (H : Hp) (v : V) (ns : List Int) : Prop := ∃ a : Addr, v = .ref a ∧ ((∃ o, H a = some (.frz o (.lst (ns.map V.int)))) ∨ SqL K (fun _ => none) a (ns.map V.int))
def spS (K : PySem.W.Frag) (n : Nat) (fr : Bool) (F : List Int → List D → (D → Prop) → Prop) : GSp := fun vs H Q => ∃ (U : US) (ns : List Int) (ds : List D) (v0 : V) (vs1 : List V) (Qd : D → Prop), vs = v0 :: vs1 ∧ ScR K H v0 ns ∧ (∀ a, U a → H a ≠ none) ∧ RDs K H U vs1 ds ∧ ds.length = n ∧ F ns ds Qd ∧
  ∀ r, Qd r → ∀ v H', Same H H' → Res K fr H U H' v r → Q v H'
def eCallS (i n : Nat) (F : List Int → List D → (D → Prop) → Prop) (ωs : DA) : DE := fun ρ Q => ∃ ns : List Int, ρ[i]? = some (some (.list (ns.map .int))) ∧ ωs ρ fun ds ρ1 => ds.length = n ∧ F ns ds fun d => Q d ρ1
theorem ST.sc {K : PySem.W.Frag} {Γ : List Kd} {B : Bx} {w : Own} {ρ : Rho} {σ : L2.St} {H : Hp} {i : Nat} {ns : List Int} (S : ST K Γ B w ρ σ H) (hk : Γ[i]? = some .sc) (h : ρ[i]? = some (some (.list (ns.map .int)))) : ∃ v, σ[i]? = some (some v) ∧ ScR K H v ns := by
  obtain ⟨v, ev, a, ms, e1, e2, z⟩ := S.sr.sl i .sc _ hk (fun z => nomatch z) h
  have := map_int_inj (PyData.list.inj e2)
  subst this
  exact ⟨v, ev, a, e1, z⟩
theorem ScR.lat {K : PySem.W.Frag} {H H' : Hp} {U U' : US} {v : V} {ns : List Int} (L : Lat H U H' U') (h : ScR K H v ns) : ScR K H' v ns := by
  obtain ⟨a, e, z⟩ := h
  refine ⟨a, e, z.imp ?_ id⟩
  rintro ⟨o, z⟩
  exact ⟨o, L.im _ _ z fun y => y⟩
theorem callS_core {i n : Nat} {fr : Bool} {F : List Int → List D → (D → Prop) → Prop} {y : Str} {py : Pos} (O : Ok X k) (Df : HdX X k x (spS X.K n fr F)) (hy : PE X (.Name y py) (tVar i)) (ha : JA X false Γ es ωs) (hki : Γ[i]? = some .sc := by rfl) (hg : Gl X x := by rfl)
    (hdb : (x == ("__debug__" : Str)) = false := by decide) (he : starEach (.Name y py :: es) X.env = (false, eval (.Name y py) X.env) :: starEach es X.env := by rfl) (hpl : (backTo pos (starEach es X.env)).any (·.1) = false := by rfl) :
    PE X (.Call (.Name x p) (.Name y py :: es) [] pos) (fun σ H Q => ∃ B w ρ Qd, ST X.K Γ B w ρ σ H ∧ eCallS i n F ωs ρ Qd ∧ ∀ d ρ1, Qd d ρ1 → ∀ v H' H1, Stp false w H H1 → ST X.K Γ B w ρ1 σ H1 → Same H1 H' → Res X.K fr H1 (Um false B.U w) H' v d → Q v H') := by
  obtain ⟨f, fd, ps, Fg, hm, hk, hb⟩ := Df.ex
  refine PE.imp (pe_callG O Fg hm hk hb (pa_cons hy ha he) hg hdb he hpl) fun σ H Q ⟨B, w, ρ, Qd, S, ⟨ns, h0, ω⟩, k⟩ => ?_
  obtain ⟨v0, e0, sc⟩ := S.sc hki h0
  exact ⟨v0, e0, B, w, ρ, _, S, ω, fun ds ρ1 ⟨hl, q⟩ vs H1 p1 S1 r1 => ⟨Um false B.U w, ns, ds, v0, vs, _, rfl, sc.lat (S.stpLatT p1), S1.upm, r1, hl, q, fun r qr v H' s rv => k r ρ1 qr v H' H1 p1 S1 s rv⟩⟩
theorem J_callS {i n : Nat} {fr : Bool} {F : List Int → List D → (D → Prop) → Prop} {y : Str} {py : Pos} (O : Ok X k) (Df : HdX X k x (spS X.K n fr F)) (hy : PE X (.Name y py) (tVar i)) (ha : JA X false Γ es ωs) (hki : Γ[i]? = some .sc := by rfl) (hg : Gl X x := by rfl)
    (hdb : (x == ("__debug__" : Str)) = false := by decide) (he : starEach (.Name y py :: es) X.env = (false, eval (.Name y py) X.env) :: starEach es X.env := by rfl) (hpl : (backTo pos (starEach es X.env)).any (·.1) = false := by rfl) :
    J X false Γ (.Call (.Name x p) (.Name y py :: es) [] pos) (eCallS i n F ωs) :=
  PE.imp (callS_core O Df hy ha hki hg hdb he hpl) fun σ H Q ⟨B, w, ρ, Qd, S, ω, k⟩ => ⟨B, w, ρ, Qd, S, ω, fun d ρ1 qd v H' H1 p1 S1 s r => k d ρ1 qd v H' (p1.trans (Stp.of s)) (S1.same s) (r.rd S1.upm)⟩
theorem J1_callS {i n : Nat} {F : List Int → List D → (D → Prop) → Prop} {y : Str} {py : Pos} (O : Ok X k) (Df : HdX X k x (spS X.K n true F)) (hy : PE X (.Name y py) (tVar i)) (ha : JA X false Γ es ωs) (hki : Γ[i]? = some .sc := by rfl) (hg : Gl X x := by rfl)
    (hdb : (x == ("__debug__" : Str)) = false := by decide) (he : starEach (.Name y py :: es) X.env = (false, eval (.Name y py) X.env) :: starEach es X.env := by rfl) (hpl : (backTo pos (starEach es X.env)).any (·.1) = false := by rfl) :
    J1 X Γ (.Call (.Name x p) (.Name y py :: es) [] pos) (eCallS i n F ωs) :=
  PE.imp (callS_core O Df hy ha hki hg hdb he hpl) fun σ H Q ⟨B, w, ρ, Qd, S, ω, k⟩ => ⟨B, w, ρ, Qd, S, ω, fun d ρ1 qd v H' H1 p1 S1 s r => by
    obtain ⟨p, xs, dd, rfl, rfl, hp, ep, rs⟩ := r
    refine k dd ρ1 qd p xs H' (S1.earlier p1 hp) (fun a o ap wa z => s _ _ (p1 a o (.inr wa) z)) (S1.moreN s hp ep) ep (RDs.lat (Lat.weak fun a z => ?_) _ _ rs)
    rcases z with (z | z) | z
    · exact .inl ⟨rfl, .inl z⟩
    · exact .inr z
    · exact .inl ⟨rfl, .inr z⟩⟩
end

/-! ### a def's promise by its body -/
section
variable {P : Program} {w : World} {K : PySem.W.Frag} {mg : Str → Option Value} {base : Heap} {k n : Nat} {f : Addr} {fd : FuncData} {ps N : List Str} {x qual : Str} {st : Stmt} {Γ Γo Γl : List Kd} {Γr : Rt} {ω : DS}
def endsP (fr : Bool) (Q : D → Prop) : DEnds := ⟨fun _ => Q .none ∧ fr = false, fun d _ => Q d, fun _ => False, fun _ => False⟩
def rho0 (ds : List D) (m : Nat) : Rho := ds.map some ++ List.replicate m none
theorem rho0_get {ds : List D} {m i : Nat} {d : D} (h : (rho0 ds m)[i]? = some (some d)) : ds[i]? = some d := by
  unfold rho0 at h
  by_cases hi : i < ds.length
  · rw [List.getElem?_append_left (by simpa using hi), List.getElem?_map] at h
    cases q : ds[i]? with
    | none => rw [q] at h; cases h
    | some e => rw [q] at h; simpa using h
  · rw [List.getElem?_append_right (by simpa using Nat.le_of_not_lt hi)] at h
    rw [List.getElem?_replicate] at h
    split at h <;> cases h
theorem start_get {vs : List V} {i : Nat} {v : V} (h : vs[i]? = some v) : (L2.start N vs)[i]? = some (some v) := by
  unfold L2.start
  have hi : i < vs.length := (List.getElem?_eq_some_iff.mp h).1
  rw [List.getElem?_append_left (by simpa using hi), List.getElem?_map, h]
  rfl
theorem fun_okP {Fs : List D → (D → Prop) → Prop} (F : Fun K x qual st f fd) (S : FnScope N ps (defScope st)) (hn : ps.length = n) (hN : n ≤ N.length) (hΓ : Γ.length = N.length) (hz : ∀ i, i < n → Γ[i]? = some .fz)
    (hw : ∀ ds Q, ds.length = n → Fs ds Q → ω (endsP Γr.fr Q) (rho0 ds (N.length - n)))
    (hbody : ∀ (cd : Value) (A : Around) (outer : List Env) (s : Shared) (H0 : Hp), Ok (bX P w K mg base N qual (defScope st) f cd A outer s H0) k →
      JSs (bX P w K mg base N qual (defScope st) f cd A outer s H0) Γ Γo Γl Γr (defBody st) ω) : FnG P w K mg base (k + 1) f fd ps (spP K n Γr.fr Fs) := by
  refine fun_okG F S (fun vs H Q ⟨U, ds, Qd, up, r, hl, _⟩ => by rw [r.length, hl, hn]) fun cd A outer s H0 O vs Q ⟨U, ds, Qd, up, r, hl, hf, kk⟩ => ?_
  have hv : vs.length = n := by rw [r.length, hl]
  refine ⟨_, hbody cd A outer s H0 O, ⟨H0, fun _ => none, U, L2.start N vs⟩, fun _ => none, rho0 ds (N.length - n), endsP Γr.fr Qd, ⟨⟨fun i k' d h1 h2 h3 => ?_, fun a i e => (by cases e), fun a h => ?_, fun a i e => (by cases e), ?_, ?_⟩, fun b o h _ => h, fun b i e => (by cases e), fun i _ => rfl, fun b i e => (by cases e)⟩, hw ds Qd hl hf, ?_, ?_, ?_, ?_⟩
  · have hd := rho0_get h3
    have hi : i < n := by rw [← hl]; exact (List.getElem?_eq_some_iff.mp hd).1
    rw [hz i hi] at h1
    cases h1
    obtain ⟨v, ev, rv⟩ := r.get hd
    exact ⟨v, start_get ev, RD.lat (Lat.weak fun a h => h.elim id fun z => absurd rfl z) _ _ rv⟩
  · cases q : H0 a with
    | none => exact absurd q (up a h)
    | some o => exact ⟨o, rfl⟩
  · simp only [rho0, List.length_append, List.length_map, List.length_replicate]; omega
  · simp only [L2.start, List.length_append, List.length_map, List.length_replicate]; omega
  · exact fun ρ' w' σ' H' q S' _ => kk _ q.1 .non H' (fun b o e => S'.b1 b o e rfl) (by rw [q.2]; exact .non)
  · exact fun d ρ' w' σ' v H' q S' rv => kk _ q v H' (fun b o e => S'.b1 b o e rfl) (rv.weak fun a h => .inl h)
  · exact fun ρ' w' σ' H' q _ _ => q.elim
  · exact fun ρ' w' σ' H' q _ _ => q.elim
def endsI (Q : D → D → Prop) : DEnds := ⟨fun ρ => ∃ d, ρ[0]? = some (some d) ∧ Q .none d, fun r ρ => ∃ d, ρ[0]? = some (some d) ∧ Q r d, fun _ => False, fun _ => False⟩
theorem fun_okI {Fs : D → List D → (D → D → Prop) → Prop} (F : Fun K x qual st f fd) (S : FnScope N ps (defScope st)) (hn : ps.length = n + 1) (hN : n + 1 ≤ N.length) (hΓ : Γ.length = N.length) (hΓ0 : Γ[0]? = some .io) (hz : ∀ i, i < n → Γ[i + 1]? = some .fz)
    (hr : Γr = ⟨Γ.map frzK, false⟩) (ho : Γo[0]? = some .io)
    (hw : ∀ d ds Q, ds.length = n → Fs d ds Q → ω (endsI Q) (rho0 (d :: ds) (N.length - (n + 1))))
    (hbody : ∀ (cd : Value) (A : Around) (outer : List Env) (s : Shared) (H0 : Hp), Ok (bX P w K mg base N qual (defScope st) f cd A outer s H0) k →
      JSs (bX P w K mg base N qual (defScope st) f cd A outer s H0) Γ Γo Γl Γr (defBody st) ω) : FnG P w K mg base (k + 1) f fd ps (spI K .io n false Fs) := by
  refine fun_okG F S (fun vs H Q ⟨U, w, d, ds, v0, vs1, Qd, ev, _, r, hl, _⟩ => by rw [ev, List.length_cons, r.length, hl, hn]) fun cd A outer s H0 O vs Q ⟨U, w, d, ds, v0, vs1, Qd, ev, sr, r, hl, hf, kk⟩ => ?_
  subst ev
  have hv : (v0 :: vs1).length = n + 1 := by rw [List.length_cons, r.length, hl]
  obtain ⟨v0', e0, k0⟩ := sr.sl 0 .io d rfl (by decide) rfl
  cases e0
  have s0 : (L2.start N (v0 :: vs1))[0]? = some (some v0) := start_get rfl
  have w0 : ∀ a i, w a = some i → i = 0 := fun a i e => by
    obtain ⟨k', z, _⟩ := sr.ow a i e
    cases i with
    | zero => rfl
    | succ i => simp at z
  have tw : ∀ {Γ' : List Kd} {ρ' w' σ' H'}, ST K Γ' ⟨H0, w, U, L2.start N (v0 :: vs1)⟩ w' ρ' σ' H' → ∀ a, T U w a → T U w' a := fun {Γ' ρ' w' σ' H'} S' a h => by
    rcases h with h | h
    · exact .inl h
    · cases q : w a with
      | none => exact absurd q h
      | some i => exact .inr (by rw [(S'.b3 a i q).1]; simp)
  have fin : ∀ {Γ' : List Kd} {ρ' w' σ' H' d'}, Γ'[0]? = some .io → ρ'[0]? = some (some d') → ST K Γ' ⟨H0, w, U, L2.start N (v0 :: vs1)⟩ w' ρ' σ' H' →
      Stp false w H0 H' ∧ SR K [.io] U w [some d'] [some v0] H' := fun {Γ' ρ' w' σ' H' d'} hg hr S' => by
    have st : Stp false w H0 H' := fun a o h e => S'.b1 a o e (h.resolve_left (by simp))
    refine ⟨st, ⟨fun i k' d2 h1 h2 h3 => ?_, fun a i e => S'.sr.pr a i (S'.b3 a i e).1, fun a h => S'.sr.up a h, sr.ow, rfl, rfl⟩⟩
    cases i with
    | succ i => simp at h1
    | zero =>
      simp at h1 h3
      subst h1 h3
      refine ⟨v0, rfl, ?_⟩
      obtain ⟨v, ev, kr⟩ := S'.sr.sl 0 .io d' hg (by decide) hr
      have := S'.fx 0 (.inl hg)
      rw [ev] at this
      have e2 := this.trans s0
      cases e2
      obtain ⟨a, xs, dd, e1, e2, e3, e4, rs⟩ := kr
      obtain ⟨a', xs', dd', e1', e2', e3', e4', rs'⟩ := k0
      rw [e1] at e1'
      cases e1'
      exact ⟨a, xs, dd, e1, e2, e3', e4, RDs.lat (Lat.weak (tw S')) _ _ rs⟩
  refine ⟨_, hbody cd A outer s H0 O, ⟨H0, w, U, L2.start N (v0 :: vs1)⟩, w, rho0 (d :: ds) (N.length - (n + 1)), endsI Qd, ⟨⟨fun i k' d2 h1 h2 h3 => ?_, sr.pr, sr.up, fun a i e => ?_, ?_, ?_⟩, fun b o h _ => h, fun b i e => .inl (by show w b ≠ none; rw [e]; simp), fun i _ => rfl, fun b i e => ⟨e, ?_⟩⟩, hw d ds Qd hl hf, ?_, ?_, ?_, ?_⟩
  · cases i with
    | zero =>
      have hd := rho0_get h3
      simp at hd
      subst hd
      rw [hΓ0] at h1
      cases h1
      exact ⟨v0, s0, k0⟩
    | succ i =>
      have hd := rho0_get h3
      simp at hd
      have hi : i < n := by rw [← hl]; exact (List.getElem?_eq_some_iff.mp hd).1
      rw [hz i hi] at h1
      cases h1
      obtain ⟨v, ev, rv⟩ := r.get hd
      exact ⟨v, start_get (i := i + 1) ev, rv⟩
  · obtain ⟨k2, z1, z2⟩ := sr.ow a i e
    rw [w0 a i e] at z1 ⊢
    cases z1
    exact ⟨.io, hΓ0, z2⟩
  · simp only [rho0, List.length_append, List.length_map, List.length_replicate, List.length_cons]; omega
  · simp only [L2.start, List.length_append, List.length_map, List.length_replicate] at hv ⊢; omega
  · rw [w0 b i e, hΓ0]
  · exact fun ρ' w' σ' H' ⟨d', hd', q⟩ S' _ => by
      obtain ⟨st, sr'⟩ := fin ho hd' S'
      exact kk _ _ q .non H' st sr' (RD.non (K := K))
  · exact fun r' ρ' w' σ' v H' ⟨d', hd', q⟩ S' rv => by
      obtain ⟨st, sr'⟩ := fin (by rw [hr]; show (Γ.map frzK)[0]? = _; rw [List.getElem?_map, hΓ0]; rfl) hd' S'
      subst hr
      exact kk _ _ q v H' st sr' (RD.lat (Lat.weak (tw S')) _ _ rv)
  · exact fun ρ' w' σ' H' q _ _ => q.elim
  · exact fun ρ' w' σ' H' q _ _ => q.elim
theorem fun_okS {Fs : List Int → List D → (D → Prop) → Prop} (F : Fun K x qual st f fd) (S : FnScope N ps (defScope st)) (hn : ps.length = n + 1) (hN : n + 1 ≤ N.length) (hΓ : Γ.length = N.length) (hΓ0 : Γ[0]? = some .sc) (hz : ∀ i, i < n → Γ[i + 1]? = some .fz)
    (hw : ∀ ns ds Q, ds.length = n → Fs ns ds Q → ω (endsP Γr.fr Q) (rho0 (.list (ns.map .int) :: ds) (N.length - (n + 1))))
    (hbody : ∀ (cd : Value) (A : Around) (outer : List Env) (s : Shared) (H0 : Hp), Ok (bX P w K mg base N qual (defScope st) f cd A outer s H0) k →
      JSs (bX P w K mg base N qual (defScope st) f cd A outer s H0) Γ Γo Γl Γr (defBody st) ω) : FnG P w K mg base (k + 1) f fd ps (spS K n Γr.fr Fs) := by
  refine fun_okG F S (fun vs H Q ⟨U, ns, ds, v0, vs1, Qd, ev, _, _, r, hl, _⟩ => by rw [ev, List.length_cons, r.length, hl, hn]) fun cd A outer s H0 O vs Q ⟨U, ns, ds, v0, vs1, Qd, ev, sc, up, r, hl, hf, kk⟩ => ?_
  subst ev
  have hv : (v0 :: vs1).length = n + 1 := by rw [List.length_cons, r.length, hl]
  refine ⟨_, hbody cd A outer s H0 O, ⟨H0, fun _ => none, U, L2.start N (v0 :: vs1)⟩, fun _ => none, rho0 (.list (ns.map .int) :: ds) (N.length - (n + 1)), endsP Γr.fr Qd, ⟨⟨fun i k' d h1 h2 h3 => ?_, fun a i e => (by cases e), fun a h => ?_, fun a i e => (by cases e), ?_, ?_⟩, fun b o h _ => h, fun b i e => (by cases e), fun i _ => rfl, fun b i e => (by cases e)⟩, hw ns ds Qd hl hf, ?_, ?_, ?_, ?_⟩
  · have hd := rho0_get h3
    cases i with
    | zero =>
      simp at hd
      subst hd
      rw [hΓ0] at h1
      cases h1
      obtain ⟨a, e, z⟩ := sc
      exact ⟨v0, start_get rfl, a, ns, e, rfl, z⟩
    | succ i =>
      simp at hd
      have hi : i < n := by rw [← hl]; exact (List.getElem?_eq_some_iff.mp hd).1
      rw [hz i hi] at h1
      cases h1
      obtain ⟨v, ev, rv⟩ := r.get hd
      exact ⟨v, start_get (i := i + 1) ev, RD.lat (Lat.weak fun a h => h.elim id fun z => absurd rfl z) _ _ rv⟩
  · cases q : H0 a with
    | none => exact absurd q (up a h)
    | some o => exact ⟨o, rfl⟩
  · simp only [rho0, List.length_append, List.length_map, List.length_replicate, List.length_cons]; omega
  · simp only [L2.start, List.length_append, List.length_map, List.length_replicate] at hv ⊢; omega
  · exact fun ρ' w' σ' H' q S' _ => kk _ q.1 .non H' (fun b o e => S'.b1 b o e rfl) (by rw [q.2]; exact .non)
  · exact fun d ρ' w' σ' v H' q S' rv => kk _ q v H' (fun b o e => S'.b1 b o e rfl) (rv.weak fun a h => .inl h)
  · exact fun ρ' w' σ' H' q _ _ => q.elim
  · exact fun ρ' w' σ' H' q _ _ => q.elim
end
end DD

set_option Elab.async false
set_option linter.all false
set_option maxRecDepth 100000
set_option maxHeartbeats 4000000
/-! DD, part 8: isinstance, repr, the law's own end -/
namespace DD
open PySem PySem.Spec PyProof.Rows L2

/-- one statement, then the others: not unfolded with the rest -/
def sCut (a b : DS) : DS := sSeq a b
theorem JSs_cut {X : Cx} {Γ Γm Γo Γl : List Kd} {Γr : Rt} {st : Stmt} {sts : List Stmt} {ω1 ω2 : DS} (h : JS X Γ Γm Γl Γr st ω1) (hs : JSs X Γm Γo Γl Γr sts ω2) : JSs X Γ Γo Γl Γr (st :: sts) (sCut ω1 ω2) := JSs_cons h hs
theorem cut_eq {a b : DS} {de : DEnds} {ρ : Rho} : sCut a b de ρ = a { nx := fun ρ1 => b de ρ1, rt := de.rt, bk := de.bk, ct := de.ct } ρ := rfl
theorem cut_of {a b : DS} {de : DEnds} {ρ : Rho} (P : Rho → Prop) (h2 : ∀ ρ1, P ρ1 → b de ρ1) (h1 : ∀ nx : Rho → Prop, (∀ ρ1, P ρ1 → nx ρ1) → a { nx := nx, rt := de.rt, bk := de.bk, ct := de.ct } ρ) : sCut a b de ρ := h1 _ h2

/-! ### isinstance(e, T) -/
def tyN : D → String
  | .none => "NoneType"
  | .bool _ => "bool"
  | .int _ => "int"
  | .str _ => "str"
  | .list _ => "list"
  | .tuple _ => "tuple"
  | .dict _ => "dict"
def tyNames : List String := ["NoneType", "bool", "int", "str", "list", "tuple", "dict"]
def isN (t n : String) : Bool := t == n || (t == "int" && n == "bool")
def isT (t : String) (d : D) : Bool := isN t (tyN d)
theorem tyN_mem (d : D) : tyN d ∈ tyNames := by cases d <;> simp [tyN, tyNames]
def allKnown (t : String) : Bool := tyNames.all fun n => kitB n t == some (isN t n)
def knownT (t : String) : Prop := ∀ d, kitB (tyN d) t = some (isT t d)
theorem known_of {t : String} (h : allKnown t = true) : knownT t := fun d => by
  have := List.all_eq_true.mp h (tyN d) (tyN_mem d)
  exact eq_of_beq this
theorem known_int : knownT "int" := known_of (by decide +kernel)
theorem known_bool : knownT "bool" := known_of (by decide +kernel)
theorem known_list : knownT "list" := known_of (by decide +kernel)
theorem known_tuple : knownT "tuple" := known_of (by decide +kernel)
theorem known_str : knownT "str" := known_of (by decide +kernel)
theorem RD.ty {K : PySem.W.Frag} {H : Hp} {U : US} {v : V} {d : D} (r : RD K H U v d) : TyX K H v (.type (tyN d)) := by
  cases r with
  | non => exact .base .non
  | bl b => exact .base (.bl b)
  | int i => exact .base (.int i)
  | str x => exact .base (.str x)
  | lst e _ _ => exact .base (.lst e)
  | tup e _ => exact .base (.tup e)
section
variable {X : Cx} {b : Bool} {Γ : List Kd} {k : Nat} {e a : Expr} {es : List Expr} {pos p p2 : Pos} {ωa : DE} {ωs : DA}
def fIsT (t : String) : D → (D → Prop) → Prop := fun d Q => Q (.bool (isT t d))
theorem isi_imp {t : String} (kt : knownT t) : ∀ σ H Q, tJ X.K b Γ (e1 (fIsT t) ωa) σ H Q → tCB (rIsi X.K) (tCons (tJ X.K b Γ ωa) (tCons (tC (.ty t)) tNil)) σ H Q :=
  fun σ H Q ⟨B, w, ρ, Qd, S, ω, k⟩ => ⟨B, w, ρ, _, S, ω, fun d ρ1 q v H1 p1 S1 r1 => ⟨v, .ty t, .type (tyN d), .type t, isT t d, rfl, .ty t, r1.ty, kit_ty (kt d), k _ _ q _ H1 p1 S1 (.bl _)⟩⟩
theorem J_isi {t : Str} {ts : String} (kt : knownT ts) (hm : X.mg "isinstance" = none) (hmt : X.mg t = none) (hv : bootBuiltins t = some (.type ts)) (ha : J X b Γ a ωa) (hg : Gl X "isinstance" := by rfl) (hgt : Gl X t := by rfl) (hn : t ≠ "__name__" := by decide) (hd : (t == ("__debug__" : Str)) = false := by decide)
    (he : starEach [a, .Name t p2] X.env = (false, eval a X.env) :: starEach [.Name t p2] X.env := by rfl) (he2 : starEach [.Name t p2] X.env = (false, eval (.Name t p2) X.env) :: starEach [] X.env := by rfl) (hpl : (backTo pos (starEach [.Name t p2] X.env)).any (·.1) = false := by rfl) :
    J X b Γ (.Call (.Name "isinstance" p) [a, .Name t p2] [] pos) (e1 (fIsT ts) ωa) :=
  PE.imp (pe_callB call_isi hg hm (by decide +kernel) (pa_cons ha (pa_cons (pe_bltn (v := .ty ts) hgt hmt hv rfl hn hd) pa_nil he2) he) (he := he) (hpl := hpl)) (isi_imp kt)
end

/-! ### repr -/
mutual
def small : D → Bool
  | .none => true
  | .bool _ => true
  | .int i => decide (i.natAbs < 10 ^ 60)
  | .str _ => false
  | .list ds => smalls ds
  | .tuple ds => smalls ds
  | .dict _ => false
def smalls : List D → Bool
  | [] => true
  | d :: ds => small d && smalls ds
end
mutual
def sz : D → Nat
  | .none => 5
  | .bool _ => 5
  | .int _ => 61
  | .str _ => 0
  | .list ds => szs ds + 3
  | .tuple ds => szs ds + 3
  | .dict _ => 0
def szs : List D → Nat
  | [] => 0
  | d :: ds => sz d + 2 + szs ds
end
theorem log2_60 {n : Nat} (h : n < 10 ^ 60) : n.log2 < 1920 := by
  by_cases h0 : n = 0
  · subst h0; decide
  · exact (Nat.log2_lt h0).mpr (Nat.lt_of_lt_of_le h (by decide))
mutual
theorem small_lay : ∀ d : D, small d = true → d.canLay0 = true ∧ d.showable = true
  | .none, _ => by simp [PyData.canLay0, PyData.showable]
  | .bool _, _ => by simp [PyData.canLay0, PyData.showable]
  | .int i, h => by
    rw [small, decide_eq_true_eq] at h
    simp [PyData.canLay0, PyData.showable, log2_60 h]
  | .str _, h => by rw [small] at h; cases h
  | .list ds, h => by rw [small] at h; simpa [PyData.canLay0, PyData.showable] using smalls_lay ds h
  | .tuple ds, h => by rw [small] at h; simpa [PyData.canLay0, PyData.showable] using smalls_lay ds h
  | .dict _, h => by rw [small] at h; cases h
theorem smalls_lay : ∀ ds : List D, smalls ds = true → PyData.canLayAll0 ds = true ∧ PyData.showableAll ds = true
  | [], _ => by simp [PyData.canLayAll0, PyData.showableAll]
  | d :: ds, h => by
    rw [smalls, Bool.and_eq_true] at h
    have h1 := small_lay d h.1
    have h2 := smalls_lay ds h.2
    simp [PyData.canLayAll0, PyData.showableAll, h1, h2]
end
mutual
theorem small_len : ∀ d : D, small d = true → d.shown.length ≤ sz d
  | .none, _ => by decide +kernel
  | .bool b, _ => by cases b <;> decide +kernel
  | .int i, h => by
    rw [small, decide_eq_true_eq] at h
    rw [PyData.shown, sz]
    show (Str.ofString (toString i)).length ≤ 61
    have := int_text_length_le10 (k := 60) (by decide) h
    rw [PySem.ofString_length]
    exact this
  | .str _, h => by rw [small] at h; cases h
  | .list ds, h => by
    rw [small] at h
    have h1 := smalls_len ds h
    have h2 := listText_len_le (PyData.shownAll ds)
    rw [PyData.shown, sz]
    omega
  | .tuple ds, h => by
    rw [small] at h
    have h1 := smalls_len ds h
    have h2 := tupleText_len_le (PyData.shownAll ds)
    rw [PyData.shown, sz]
    omega
  | .dict _, h => by rw [small] at h; cases h
theorem smalls_len : ∀ ds : List D, smalls ds = true → ((PyData.shownAll ds).map (·.length)).sum + 2 * (PyData.shownAll ds).length ≤ szs ds
  | [], _ => by simp [PyData.shownAll, szs]
  | d :: ds, h => by
    rw [smalls, Bool.and_eq_true] at h
    have h1 := small_len d h.1
    have h2 := smalls_len ds h.2
    rw [PyData.shownAll, szs, List.map_cons, List.sum_cons, List.length_cons]
    omega
end
def shown1 (d : D) : Prop := small d = true ∧ sz d ≤ sizeLine ∧ d.depth ≤ 64
theorem call_repr {X : Cx} {k : Nat} (O : Ok X k) : CallR X (.builtin "repr") (fun xs H Q => ∃ x d, xs = [x] ∧ Dp X.K H x d ∧ shown1 d ∧ Q (.str d.shown) H) := by
  intro pins s σ H xs us Q I r h
  obtain ⟨x, d, rfl, hd, ⟨h1, h2, h3⟩, q⟩ := h
  obtain ⟨u, rfl, rx⟩ := vals1 r
  obtain ⟨lay, sh⟩ := small_lay d h1
  have len : d.shown.length ≤ sizeLine := Nat.le_trans (small_len d h1) h2
  have fin : ∀ (h' : Heap) (tk tk' : Nat), (∀ b o, s.heap.get? b = some o → h'.get? b = some o) → EP X pins σ Q (.str d.shown tk) { s with heap := h', toks := tk' } := fun h' tk tk' kp => ⟨.str d.shown, H, I.kept kp, ⟨tk, rfl⟩, q⟩
  cases hd with
  | non => cases rx; exact PySem.P.repr_of_none (fin s.heap _ _ fun _ _ z => z)
  | bl b => cases rx; exact PySem.P.repr_of_bool (by cases b <;> exact fin s.heap _ _ fun _ _ z => z)
  | int i =>
    obtain ⟨t, rfl⟩ := rx
    rw [small, decide_eq_true_eq] at h1
    exact PySem.P.repr_of_int (log2_60 h1) (fin s.heap _ _ fun _ _ z => z)
  | str x => rw [small] at h1; cases h1
  | lst hs ha =>
    obtain ⟨as, rr⟩ := Dp.reads I _ _ u (.lst hs ha) rx
    cases rx
    exact repr_of_reads' rr sh (PyData.noDict_hsm (PyData.hasDict_of_canLay _ lay)) O.gd (by have := O.u65; omega) (fun _ _ z => z) (fun h' tk tk' kp => fin h' tk tk' kp) len
  | tup hs ha =>
    obtain ⟨as, rr⟩ := Dp.reads I _ _ u (.tup hs ha) rx
    cases rx
    exact repr_of_reads' rr sh (PyData.noDict_hsm (PyData.hasDict_of_canLay _ lay)) O.gd (by have := O.u65; omega) (fun _ _ z => z) (fun h' tk tk' kp => fin h' tk tk' kp) len

/-! ### `_law_alike`: two data that are one -/
section
variable {X : Cx} {b : Bool} {Γ : List Kd} {k : Nat} {a c x y : Expr} {pos p : Pos} {ωa ωb : DE}
def fRepr : List D → (D → Prop) → Prop
  | [d], Q => shown1 d ∧ Q (.str d.shown)
  | _, _ => False
theorem o_repr {K : PySem.W.Frag} : OpN K (fun xs H Q => ∃ x d, xs = [x] ∧ Dp K H x d ∧ shown1 d ∧ Q (.str d.shown) H) fRepr := by
  intro U H xs ds Qd Q up rs hf k
  unfold fRepr at hf
  split at hf
  · cases rs with | cons r rs =>
      cases rs
      exact ⟨_, _, rfl, RD.dp _ _ r, hf.1, k _ _ _ hf.2 (Same.refl _) (.str _)⟩
  · exact hf.elim
theorem J_repr {es : List Expr} {ωs : DA} (O : Ok X k) (hm : X.mg "repr" = none) (ha : JA X b Γ (a :: es) ωs) (hg : Gl X "repr" := by rfl) (he : starEach (a :: es) X.env = (false, eval a X.env) :: starEach es X.env := by rfl) (hpl : (backTo pos (starEach es X.env)).any (·.1) = false := by rfl) :
    J X b Γ (.Call (.Name "repr" p) (a :: es) [] pos) (eN fRepr ωs) := J_opN o_repr (pe_callB (call_repr O) hg hm (by decide +kernel) ha (he := he) (hpl := hpl))
/-- == of two texts, whatever they hold -/
def fEqS : D → D → (D → Prop) → Prop
  | .str s, .str t, Q => Q (.bool (decide (s = t)))
  | _, _, _ => False
theorem o_eqS {K : PySem.W.Frag} : Op2 K rEq fEqS := by
  intro U H x y dx dy Qd Q up rx ry hf k
  unfold fEqS at hf
  split at hf
  · cases rx; cases ry
    rename_i s t
    refine ⟨rfl, ?_⟩
    have : decide (V.str s = V.str t) = decide (s = t) := by simp
    rw [this]
    exact k _ _ _ hf (Same.refl _) (.bl _)
  · exact hf.elim
theorem J_eqS (ha : J X b Γ a ωa) (hb : J X b Γ c ωb) : J X b Γ (.Compare a [.Eq] [c] pos) (e2 fEqS ωa ωb) := J_op o_eqS (pe_cmpR op_eq ha hb (nomark _))
end

/-! ### the law's own end -/
theorem law_callG {P : Program} {w : World} {K : PySem.W.Frag} {mg mb : Str → Option Value} {k : Nat} {fa a : Addr} {fd : FuncData} {x : Str} {Fl : List Int → List D → (D → Prop) → Prop} {s₁ : Shared} {vs : List Value} {ns : List Int}
    (KX : K.In s₁.heap) (hns : s₁.heap.Ns mainGlobals mg) (hb : s₁.heap.Ns builtinsNs mb) (hbb : ∀ x : Str, x ≠ "__name__" → mb x = bootBuiltins x) (hlim : s₁.heap.NoLimit) (hg : s₁.gens = #[])
    (ha : s₁.heap.get? a = some { cls := .type "list", data := .seq vs.toArray }) (hi : IntsAre vs ns) (hl : ns.length ≤ sizeLine) (hr : Room k callerA)
    (F : ∀ base : Heap, K.In base → base.Ns mainGlobals mg → FnG P w K mg base k fa fd [x] (spS K 0 false Fl)) (hbind : ∀ (s : Shared) (u : Value), BindsTo s fd ⟨[u], []⟩ [(x, u)])
    (hF : ∀ Q : D → Prop, Q (.bool true) → Fl ns [] Q) :
    codeAny (model P w) callerA (.call (.ref fa) ⟨[.ref a], []⟩) (fun r s' => r = .ok (.ret (.bool true)) ∧ OldK s₁.heap s'.heap ∧ s'.os = s₁.os ∧ AllBare s'.gens) s₁ := by
  have go : ∀ H : Hp, (∀ b o, H b = some o → b = a ∧ ∃ ob xs, o = .frz ob (.lst xs)) → HOk P w H s₁.heap → (H a ≠ none → K.lookup a = none) →
      ((∃ o, H a = some (.frz o (.lst (ns.map V.int)))) ∨ SqL K (fun _ => none) a (ns.map V.int)) →
      codeAny (model P w) callerA (.call (.ref fa) ⟨[.ref a], []⟩) (fun r s' => r = .ok (.ret (.bool true)) ∧ OldK s₁.heap s'.heap ∧ s'.os = s₁.os ∧ AllBare s'.gens) s₁ := by
    intro H only hok hK hS
    have un : ∀ {b : Addr} {o : Obj} {es : Array DictEntry} {ep : Nat}, s₁.heap.get? b = some o → o.data = .dict es ep → H b = none := fun {b o es ep} e d => by
      cases q : H b with
      | none => rfl
      | some u =>
        obtain ⟨rfl, _⟩ := only b u q
        rw [ha] at e
        cases e
        cases d
    have ns' : ∀ {b : Addr} {m : Str → Option Value}, s₁.heap.Ns b m → (hidT s₁.heap H).Ns b m := fun {b m} ⟨o, es, ep, e, d, r⟩ => ⟨o, es, ep, hidT_get e (un e d), d, r⟩
    have kb : K.In (hidT s₁.heap H) := fun b o e => hidT_get (KX b o e) (by
      cases q : H b with
      | none => rfl
      | some u =>
        obtain ⟨rfl, _⟩ := only b u q
        rw [hK (by rw [q]; simp)] at e; cases e)
    have md : Mod K mg (hidT s₁.heap H) := ⟨kb, ns' hns, ⟨mb, ns' hb, hbb⟩, let ⟨mc, z1, z2⟩ := hlim; ⟨mc, ns' z1, z2⟩⟩
    have e0 : Env0 P w K mg (hidT s₁.heap H) callerA [] s₁ H := ⟨rfl, md, fun b o e => of_hidT e, Nat.le_of_eq (hidT_size _ _), trivial, fun b hb => absurd (show b ∈ ([] : List Addr) from hb) (by simp), hok, .of_eq hg⟩
    have sp : spS K 0 false Fl [.ref a] H (fun v _ => v = .bl true) :=
      ⟨fun _ => False, ns, [], .ref a, [], fun r => r = .bool true, rfl, ⟨a, rfl, hS⟩, fun b e => False.elim e, .nil, rfl, hF _ rfl, fun r e v H' _ rv => by
        subst e
        cases (show RD K H' (fun _ => False) v (.bool true) from rv)
        rfl⟩
    refine codeAny_mono ((F _ kb (ns' hns)).run callerA [] s₁ H ⟨[.ref a], []⟩ [.ref a] [.ref a] _ hr rfl e0 (hbind s₁ (.ref a)) (.cons rfl .nil) sp) fun r s' h => ?_
    cases r with
    | error _ => exact h.elim
    | ok fl =>
      cases fl with
      | next => exact h.elim
      | brk => exact h.elim
      | cont => exact h.elim
      | ret u =>
        obtain ⟨v, H', os, bare, un', hok', r', q⟩ := h
        have q : v = .bl true := q
        subst q
        obtain rfl : u = Value.bool true := r'
        refine ⟨rfl, OldK.of_keep fun b o e => ?_, os, bare⟩
        cases q : H b with
        | none => exact un'.keep b o e q (by simp [frs]) (by simp)
        | some u =>
          obtain ⟨_, ob, xs, rfl⟩ := only b u q
          have e1 := (hok b _ q).1
          have e2 := (hok' b _ (un'.frzs b ob _ q)).1
          rw [e] at e1
          cases e1
          exact e2
  have rv := vals_ints hi
  cases hk : K.lookup a with
  | some o =>
    have e := KX a o hk
    rw [ha] at e
    cases e
    exact go (fun _ => none) (fun _ _ z => by cases z) (fun _ _ z => by cases z) (fun z => absurd rfl z) (.inr (.inr ⟨_, vs.toArray, _, hk, rfl, rfl, rfl, by rw [List.size_toArray, hi.length]; exact hl, by simpa using rv⟩))
  | none =>
    refine go (fun b => if b = a then some (.frz { cls := .type "list", data := .seq vs.toArray } (.lst (ns.map V.int))) else none) (fun b o z => ?_) (fun b o z => ?_) (fun _ => hk) (.inl ⟨{ cls := .type "list", data := .seq vs.toArray }, if_pos rfl⟩)
    · by_cases q : b = a
      · have z : (if b = a then some _ else none) = some o := z
        rw [if_pos q] at z
        cases z
        exact ⟨q, _, _, rfl⟩
      · have z : (if b = a then some _ else none) = some o := z
        rw [if_neg q] at z
        cases z
    · by_cases q : b = a
      · have z : (if b = a then some _ else none) = some o := z
        rw [if_pos q] at z
        cases z
        subst q
        exact ⟨ha, by rw [List.length_map]; exact hl, vs, _, rv, ha⟩
      · have z : (if b = a then some _ else none) = some o := z
        rw [if_neg q] at z
        cases z
theorem walkG {l : PySem.W.OpenLaw} {n k : Nat} {q : Program} {loose : List Str} {XP : (Str → Option Value) → Heap → Prop} {YP : World → Heap → Prop} {d : DefRec} {K : Params → PySem.W.Frag} {x : Str} {Fl : List Int → List D → (D → Prop) → Prop}
    (hn : l.most = some n) (hn2 : n ≤ sizeLine) (hdf : d.params.defaults = []) (hr : Room k callerA)
    (hY : ∀ (w : World) (h : Heap), YP w h → (K w.params).In h)
    (F : ∀ (w : World) (mg : Str → Option Value) (fa : Addr) (h : Heap), (K w.params).In h → h.Ns mainGlobals mg → mg d.name = some (.ref fa) →
      ∃ fd : FuncData, (∀ (s : Shared) (u : Value), BindsTo s fd ⟨[u], []⟩ [(x, u)]) ∧
        ∀ base : Heap, (K w.params).In base → base.Ns mainGlobals mg → FnG l.prog w (K w.params) mg base k fa fd [x] (spS (K w.params) 0 false Fl))
    (hF : ∀ ns : List Int, ns.length ≤ n → ∀ Q : D → Prop, Q (.bool true) → Fl ns [] Q) :
    PySem.W.WalkO q loose XP YP l.row.toRowW d [] (fun f vs => PySem.call f vs) := by
  refine Att.attach_call hn hdf fun w s0 s1 mg mb fa o pm cd doc a vs ns G Y ho hd hcd hmg hobj hints hlen hg => ?_
  have kx := hY w _ Y
  obtain ⟨fd, hb, hf⟩ := F w mg fa _ kx G.T.g hmg
  exact law_callG kx G.T.g G.T.b G.T.builtins G.T.nolimit hg hobj hints (Nat.le_trans hlen hn2) hr hf hb (hF ns hlen)
end DD

set_option Elab.async false
set_option linter.all false
set_option maxRecDepth 100000
set_option maxHeartbeats 4000000
/-! DM, part 1: plain data, loops, comprehensions -/
namespace DD
open PySem PySem.Spec PyProof.Rows L2

/-! ### plain data: none, whole numbers below 10 ** 60, lists and tuples, so deep -/
def gd : Nat → D → Bool
  | _, .none => true
  | _, .int i => decide (i.natAbs < 10 ^ 60)
  | n + 1, .list xs => xs.all (gd n)
  | n + 1, .tuple xs => xs.all (gd n)
  | _, _ => false
theorem smalls_all {xs : List D} (h : ∀ x ∈ xs, small x = true) : smalls xs = true := by
  induction xs with
  | nil => rfl
  | cons x xs ih => rw [smalls, h x (by simp), ih fun y hy => h y (by simp [hy])]; rfl
theorem depthAll_le {xs : List D} {n : Nat} (h : ∀ x ∈ xs, x.depth ≤ n) : PyData.depthAll xs ≤ n := by
  induction xs with
  | nil => simp [PyData.depthAll]
  | cons x xs ih =>
    have h1 := h x (by simp)
    have h2 := ih fun y hy => h y (by simp [hy])
    rw [PyData.depthAll]; omega
theorem gd_ok : ∀ (n : Nat) (d : D), gd n d = true → small d = true ∧ d.depth ≤ n
  | n, .none, _ => by simp [small, PyData.depth]
  | n, .bool _, h => by cases n <;> cases h
  | n, .int i, h => by
    have : decide (i.natAbs < 10 ^ 60) = true := by cases n <;> exact h
    exact ⟨this, by simp [PyData.depth]⟩
  | n, .str _, h => by cases n <;> cases h
  | n, .dict _, h => by cases n <;> cases h
  | 0, .list xs, h => by cases h
  | 0, .tuple xs, h => by cases h
  | n + 1, .list xs, h => by
    have h : xs.all (gd n) = true := h
    rw [List.all_eq_true] at h
    refine ⟨by rw [small]; exact smalls_all fun x hx => (gd_ok n x (h x hx)).1, ?_⟩
    have := depthAll_le fun x hx => (gd_ok n x (h x hx)).2
    rw [PyData.depth]; omega
  | n + 1, .tuple xs, h => by
    have h : xs.all (gd n) = true := h
    rw [List.all_eq_true] at h
    refine ⟨by rw [small]; exact smalls_all fun x hx => (gd_ok n x (h x hx)).1, ?_⟩
    have := depthAll_le fun x hx => (gd_ok n x (h x hx)).2
    rw [PyData.depth]; omega
theorem gd_mono : ∀ {n m : Nat} {d : D}, n ≤ m → gd n d = true → gd m d = true
  | n, m, .none, _, _ => by cases m <;> rfl
  | n, m, .bool _, _, h => by cases n <;> cases h
  | n, m, .int i, _, h => by cases n <;> cases m <;> exact h
  | n, m, .str _, _, h => by cases n <;> cases h
  | n, m, .dict _, _, h => by cases n <;> cases h
  | 0, m, .list xs, _, h => by cases h
  | 0, m, .tuple xs, _, h => by cases h
  | n + 1, m + 1, .list xs, l, h => by
    have h : xs.all (gd n) = true := h
    show xs.all (gd m) = true
    rw [List.all_eq_true] at h ⊢
    exact fun x hx => gd_mono (by omega) (h x hx)
  | n + 1, m + 1, .tuple xs, l, h => by
    have h : xs.all (gd n) = true := h
    show xs.all (gd m) = true
    rw [List.all_eq_true] at h ⊢
    exact fun x hx => gd_mono (by omega) (h x hx)
theorem gd_shaped {n : Nat} {d : D} (hn : n ≤ 64) (h : gd n d = true) : SeqAt.shaped d = true := by
  obtain ⟨h1, h2⟩ := gd_ok n d h
  unfold SeqAt.shaped
  rw [(small_lay d h1).1, Bool.true_and, decide_eq_true_eq]
  omega
theorem gd_shown {n : Nat} {d : D} (hn : n ≤ 64) (h : gd n d = true) (hs : sz d ≤ sizeLine) : shown1 d := by
  obtain ⟨h1, h2⟩ := gd_ok n d h
  exact ⟨h1, hs, by omega⟩
theorem eqvAll_iff : ∀ {xs ys : List D}, (∀ x ∈ xs, ∀ y ∈ ys, (PyData.eqv x y = true ↔ x = y)) → (PyData.eqvAll xs ys = true ↔ xs = ys)
  | [], [], _ => by simp [PyData.eqvAll]
  | [], y :: ys, _ => by simp [PyData.eqvAll]
  | x :: xs, [], _ => by simp [PyData.eqvAll]
  | x :: xs, y :: ys, h => by
    rw [PyData.eqvAll, Bool.and_eq_true, h x (by simp) y (by simp), eqvAll_iff fun a ha b hb => h a (by simp [ha]) b (by simp [hb]), List.cons.injEq]
theorem gd_eqv : ∀ (n m : Nat) (d e : D), gd n d = true → gd m e = true → (PyData.eqv d e = true ↔ d = e) := by
  intro n
  induction n with
  | zero =>
    intro m d e h1 h2
    cases d <;> try (cases h1; done)
    all_goals cases e <;> try (cases m <;> cases h2; done)
    all_goals first | (simp [PyData.eqv]; done) | (cases m <;> simp [PyData.eqv])
  | succ n ih =>
    intro m d e h1 h2
    cases d <;> try (cases h1; done)
    all_goals cases e <;> try (cases m <;> cases h2; done)
    all_goals try (simp [PyData.eqv]; done)
    all_goals
      cases m with
      | zero => cases h2
      | succ m =>
        rename_i xs ys
        have h1 : xs.all (gd n) = true := h1
        have h2 : ys.all (gd m) = true := h2
        rw [List.all_eq_true] at h1 h2
        rw [PyData.eqv, eqvAll_iff fun x hx y hy => ih m x y (h1 x hx) (h2 y hy)]
        simp
theorem gd_eqv_of {n m : Nat} {d e : D} (h1 : gd n d = true) (h2 : gd m e = true) {b : Bool} (h : b = true ↔ d = e) : PyData.eqv d e = b := by
  rw [Bool.eq_iff_iff, gd_eqv n m d e h1 h2, h]
theorem eqv_nil (xs : List D) : PyData.eqv (.list xs) (.list []) = xs.isEmpty := by cases xs <;> simp [PyData.eqv, PyData.eqvAll]
theorem eqv_int (i j : Int) : PyData.eqv (.int i) (.int j) = decide (i = j) := by simp [PyData.eqv, Bool.beq_eq_decide_eq]
theorem shaped_int {i : Int} (h : i.natAbs < 10 ^ 60) : SeqAt.shaped (.int i) = true := gd_shaped (n := 0) (by decide) (by simp [gd, h])
theorem shaped_nil : SeqAt.shaped (.list []) = true := by decide
theorem szs_le {xs : List D} {b : Nat} (h : ∀ x ∈ xs, sz x ≤ b) : szs xs ≤ xs.length * (b + 2) := by
  induction xs with
  | nil => simp [szs]
  | cons x xs ih =>
    have h1 := h x (by simp)
    have h2 := ih fun y hy => h y (by simp [hy])
    rw [szs, List.length_cons, Nat.add_mul]; omega
theorem sz_list {xs : List D} {b : Nat} (h : ∀ x ∈ xs, sz x ≤ b) : sz (.list xs) ≤ xs.length * (b + 2) + 3 := by rw [sz]; have := szs_le h; omega
theorem sz_tuple {xs : List D} {b : Nat} (h : ∀ x ∈ xs, sz x ≤ b) : sz (.tuple xs) ≤ xs.length * (b + 2) + 3 := by rw [sz]; have := szs_le h; omega
theorem gd_list {n : Nat} {xs : List D} (h : ∀ x ∈ xs, gd n x = true) : gd (n + 1) (.list xs) = true := List.all_eq_true.mpr h
theorem gd_tuple {n : Nat} {xs : List D} (h : ∀ x ∈ xs, gd n x = true) : gd (n + 1) (.tuple xs) = true := List.all_eq_true.mpr h
theorem gd_int {n : Nat} {i : Int} (h : i.natAbs < 10 ^ 60) : gd n (.int i) = true := by cases n <;> simp [gd, h]
theorem gd_none {n : Nat} : gd n .none = true := by cases n <;> rfl

/-! ### tables -/
abbrev tab {α : Type} (n : Nat) (f : Nat → α) : List α := (List.range n).map f
theorem tab_len {α : Type} (n : Nat) (f : Nat → α) : (tab n f).length = n := by simp [tab]
theorem tab_get {α : Type} {n i : Nat} {f : Nat → α} (h : i < n) : (tab n f)[i]? = some (f i) := by simp [tab, h]
theorem tab_snoc {α : Type} (n : Nat) (f : Nat → α) : tab n f ++ [f n] = tab (n + 1) f := by simp [tab, List.range_succ]
theorem tab_congr {α : Type} {n : Nat} {f g : Nat → α} (h : ∀ i, i < n → f i = g i) : tab n f = tab n g := List.map_congr_left fun i hi => h i (List.mem_range.mp hi)
theorem tab_inj {α : Type} {n : Nat} {f g : Nat → α} (h : tab n f = tab n g) : ∀ i, i < n → f i = g i := fun i hi => by
  have : (tab n f)[i]? = (tab n g)[i]? := by rw [h]
  rw [tab_get hi, tab_get hi] at this
  exact Option.some.inj this
theorem tab_mem {α : Type} {n : Nat} {f : Nat → α} {x : α} (h : x ∈ tab n f) : ∃ i, i < n ∧ f i = x := by simpa [tab] using h
theorem tab_set {α : Type} {n i : Nat} {f : Nat → α} {x : α} : (tab n f).set i x = tab n fun j => if j = i then x else f j := by
  apply List.ext_getElem?
  intro j
  rw [List.getElem?_set]
  by_cases hj : j < n
  · rw [tab_get hj, tab_get hj, tab_len]
    by_cases q : i = j
    · subst q; rw [if_pos rfl, if_pos hj, if_pos rfl]
    · rw [if_neg q, if_neg (Ne.symm q)]
  · rw [List.getElem?_eq_none (l := tab n fun j => if j = i then x else f j) (by rw [tab_len]; omega), tab_len]
    by_cases q : i = j
    · subst q; rw [if_pos rfl, if_neg hj]
    · rw [if_neg q, List.getElem?_eq_none (by rw [tab_len]; omega)]
theorem tab_map {α β : Type} (n : Nat) (f : Nat → α) (g : α → β) : (tab n f).map g = tab n fun i => g (f i) := by simp [tab, List.map_map, Function.comp_def]
theorem ixN_nat {n i : Nat} (h : i < n) : ixN n (i : Int) = some i := by
  unfold ixN
  rw [if_pos (by omega), if_pos (by omega)]
  simp
theorem ixN_last {n : Nat} (h : 0 < n) : ixN n (-1) = some (n - 1) := by
  unfold ixN
  rw [if_neg (by omega), if_pos (by omega)]
  congr 1
  omega
theorem atI_nat {α : Type} {xs : List α} {i : Nat} {x : α} (h : xs[i]? = some x) : atI xs (i : Int) = some x := by
  unfold atI
  rw [ixN_nat (List.getElem?_eq_some_iff.mp h).1]
  exact h
theorem atI_tab {α : Type} {n i : Nat} {f : Nat → α} (h : i < n) : atI (tab n f) (i : Int) = some (f i) := atI_nat (tab_get h)
theorem atI_last {α : Type} {n : Nat} {f : Nat → α} : atI (tab (n + 1) f) (-1) = some (f n) := by
  unfold atI
  rw [tab_len, ixN_last (by omega)]
  exact tab_get (by omega)
theorem atI_0 {α : Type} {x : α} {xs : List α} : atI (x :: xs) 0 = some x := atI_nat (i := 0) rfl
theorem atI_1 {α : Type} {x y : α} {xs : List α} : atI (x :: y :: xs) 1 = some y := atI_nat (i := 1) rfl
theorem atI_2 {α : Type} {x y z : α} {xs : List α} : atI (x :: y :: z :: xs) 2 = some z := atI_nat (i := 2) rfl
theorem atI_3 {α : Type} {x y z u : α} {xs : List α} : atI (x :: y :: z :: u :: xs) 3 = some u := atI_nat (i := 3) rfl
theorem rngD_tab (n : Nat) : rngD 0 n = tab n fun i => .int (i : Int) := by simp [rngD, tab]

/-! ### the value functions, at what they get -/
section
variable {Q : D → Prop} {i j : Int} {xs ys : List D} {k : Bool} {d e : D} {p : Int → Int → Bool} {lo hi : Option Int}
theorem fAdd_i : fAdd (.int i) (.int j) Q = Q (.int (i + j)) := rfl
theorem fAdd_l : fAdd (.list xs) (.list ys) Q = (xs.length + ys.length ≤ sizeLine ∧ Q (.list (xs ++ ys))) := rfl
theorem fSub_i : fSub (.int i) (.int j) Q = Q (.int (i - j)) := rfl
theorem fMul_i : fMul (.int i) (.int j) Q = (CMulW i j ∧ Q (.int (i * j))) := rfl
theorem fMul_l : fMul (.list xs) (.int j) Q = ((-(2 ^ 63) ≤ j ∧ j < 2 ^ 63 ∧ xs.length * j.toNat ≤ sizeLine) ∧ Q (.list (List.replicate j.toNat xs).flatten)) := rfl
theorem fRep_l : fRep (.list xs) (.int j) Q = ((-(2 ^ 63) ≤ j ∧ j < 2 ^ 63 ∧ xs.length * j.toNat ≤ sizeLine) ∧ Q (.list (List.replicate j.toNat xs).flatten)) := rfl
theorem fDiv_i : fDiv (.int i) (.int j) Q = (CDivW i j ∧ Q (.int (i / j))) := rfl
theorem fMod_i : fMod (.int i) (.int j) Q = (0 < j ∧ Q (.int (i % j))) := rfl
theorem fPow_i : fPow (.int i) (.int j) Q = (CPow i j ∧ Q (.int (i ^ j.toNat))) := rfl
theorem fNeg_i : fNeg (.int i) Q = Q (.int (-i)) := rfl
theorem fCmp_i : fCmp p (.int i) (.int j) Q = Q (.bool (p i j)) := rfl
theorem fLen_l : fLen [.list xs] Q = Q (.int xs.length) := rfl
theorem fLen_t : fLen [.tuple xs] Q = Q (.int xs.length) := rfl
theorem fInt_i : fInt [.int i] Q = Q (.int i) := rfl
theorem fInt_b : fInt [.bool k] Q = Q (.int (if k = true then 1 else 0)) := rfl
theorem fAbs_i : fAbs [.int i] Q = Q (.int i.natAbs) := rfl
theorem fMax_i : fMaxL [.int i, .int j] Q = Q (.int (max i j)) := rfl
theorem fMax_l : fMaxL [.list xs] Q = ∃ ns, intsD xs = some ns ∧ ns ≠ [] ∧ Q (.int (maxI ns)) := rfl
theorem fMin_i : fMinL [.int i, .int j] Q = Q (.int (min i j)) := rfl
theorem fSum_l : fSum [.list xs] Q = ∃ ns, intsD xs = some ns ∧ Q (.int ns.sum) := rfl
theorem fList_l : fList [.list xs] Q = Q (.list xs) := rfl
theorem fList_t : fList [.tuple xs] Q = Q (.list xs) := rfl
theorem fRev_l : fRev (.list xs) Q = Q (.list xs.reverse) := rfl
theorem fSl_l : fSl (.list xs) lo hi Q = Q (.list (cutD xs lo hi)) := rfl
theorem fIx_l : fIx (.list xs) (.int i) Q = ∃ d, atI xs i = some d ∧ Q d := rfl
theorem fIx_t : fIx (.tuple xs) (.int i) Q = ∃ d, atI xs i = some d ∧ Q d := rfl
theorem fIs_n : fIs d .none Q = Q (.bool (isNone d)) := by cases d <;> rfl
theorem fIsNot_n : fIsNot d .none Q = Q (.bool (!isNone d)) := by cases d <;> rfl
theorem fIs_b {a b : Bool} : fIs (.bool a) (.bool b) Q = Q (.bool (decide (a = b))) := rfl
theorem fIsNot_b {a b : Bool} : fIsNot (.bool a) (.bool b) Q = Q (.bool (!decide (a = b))) := rfl
theorem isNone_n : isNone .none = true := rfl
theorem isNone_i : isNone (.int i) = false := rfl
theorem isNone_l : isNone (.list xs) = false := rfl
theorem isNone_t : isNone (.tuple xs) = false := rfl
theorem isT_tt : isT "tuple" (.tuple xs) = true := (by decide +kernel : isN "tuple" "tuple" = true)
theorem isT_ii : isT "int" (.int i) = true := (by decide +kernel : isN "int" "int" = true)
theorem isT_bi : isT "bool" (.int i) = false := (by decide +kernel : isN "bool" "int" = false)
theorem isT_ll : isT "list" (.list xs) = true := (by decide +kernel : isN "list" "list" = true)
end

/-! ### loops -/
theorem forGo_rule {γ : DG} {ωb : DS} {de : DEnds} (ds : List D) (Inv : Nat → Rho → Prop) {ρ : Rho} (h0 : Inv 0 ρ) (hn : ∀ ρ', Inv ds.length ρ' → de.nx ρ')
    (hs : ∀ i d, ds[i]? = some d → ∀ ρ, Inv i ρ → ∀ nx : Rho → Prop, (∀ ρ', Inv (i + 1) ρ' → nx ρ') → γ d ρ fun ρ1 => ωb { nx := nx, rt := de.rt, bk := de.nx, ct := nx } ρ1) : forGo γ ωb ds de ρ := by
  induction ds generalizing Inv ρ with
  | nil => exact hn ρ h0
  | cons d ds ih =>
    rw [forGo]
    exact hs 0 d rfl ρ h0 _ fun ρ' h => ih (fun i => Inv (i + 1)) h hn fun i e hi ρ2 h2 nx hnx => hs (i + 1) e (by simpa using hi) ρ2 h2 nx hnx
theorem while_rule {t : DT} {ωb : DS} {de : DEnds} (Inv : Nat → Rho → Prop) {ρ : Rho} (n : Nat) (h0 : Inv n ρ)
    (hs : ∀ n ρ, Inv n ρ → ∀ nx : Rho → Prop, (∀ m ρ', n = m + 1 → Inv m ρ' → nx ρ') → t ρ fun x ρ1 => if x = true then ωb { nx := nx, rt := de.rt, bk := de.nx, ct := nx } ρ1 else de.nx ρ1) : sWhile t ωb de ρ := by
  refine ⟨n + 1, ?_⟩
  induction n generalizing ρ with
  | zero => exact hs 0 ρ h0 _ fun m ρ' e _ => by cases e
  | succ n ih => exact hs (n + 1) ρ h0 _ fun m ρ' e h => by cases e; exact ih h
theorem lcGo_map {vs : List Nat} {γ : DG} {ωt : DT} {ωe : DE} {ρw : Rho} {Q : D → Rho → Prop} (f : D → D) (ds acc : List D) (hl : acc.length + ds.length ≤ sizeLine)
    (h : ∀ d ∈ ds, ∀ (K : D → Rho → Prop) (F : Rho → Prop), (∀ ρ3, wipeR ρ3 vs = ρw → K (f d) ρ3) → γ d ρw fun ρ1 => ωt ρ1 fun x ρ2 => if x = true then ωe ρ2 K else F ρ2) (q : Q (.list (acc ++ ds.map f)) ρw) : lcGo vs γ ωt ωe ds acc ρw Q := by
  induction ds generalizing acc with
  | nil => rw [lcGo]; simpa using q
  | cons d ds ih =>
    rw [lcGo]
    refine h d (by simp) _ _ fun ρ3 e => ⟨by simp at hl; omega, ?_⟩
    rw [e]
    exact ih (acc ++ [f d]) (by simp at hl ⊢; omega) (fun d' hd => h d' (by simp [hd])) (by simpa using q)
theorem lcGo_filter {vs : List Nat} {γ : DG} {ωt : DT} {ωe : DE} {ρw : Rho} {Q : D → Rho → Prop} (p : D → Bool) (f : D → D) (ds acc : List D) (hl : acc.length + ds.length ≤ sizeLine)
    (h : ∀ d ∈ ds, ∀ (K : D → Rho → Prop) (F : Rho → Prop), (p d = true → ∀ ρ3, wipeR ρ3 vs = ρw → K (f d) ρ3) → (p d = false → ∀ ρ3, wipeR ρ3 vs = ρw → F ρ3) → γ d ρw fun ρ1 => ωt ρ1 fun x ρ2 => if x = true then ωe ρ2 K else F ρ2) (q : Q (.list (acc ++ (ds.filter p).map f)) ρw) : lcGo vs γ ωt ωe ds acc ρw Q := by
  induction ds generalizing acc with
  | nil => rw [lcGo]; simpa using q
  | cons d ds ih =>
    rw [lcGo]
    refine h d (by simp) _ _ (fun hp ρ3 e => ⟨by simp at hl; omega, ?_⟩) fun hp ρ3 e => ?_
    · rw [e]
      exact ih (acc ++ [f d]) (by simp at hl ⊢; omega) (fun d' hd => h d' (by simp [hd])) (by simpa [List.filter_cons, hp] using q)
    · rw [e]
      exact ih acc (by simp at hl ⊢; omega) (fun d' hd => h d' (by simp [hd])) (by simpa [List.filter_cons, hp] using q)
/-- a comprehension with a state that goes on (the bag) -/
theorem lcGo_inv {vs : List Nat} {γ : DG} {ωt : DT} {ωe : DE} {Q : D → Rho → Prop} (Inv : List D → Rho → Prop) (ds acc : List D) {ρ : Rho} (hl : acc.length + ds.length ≤ sizeLine) (h0 : Inv acc ρ)
    (h : ∀ d ∈ ds, ∀ (acc : List D) (ρ : Rho), Inv acc ρ → ∀ (K : D → Rho → Prop) (F : Rho → Prop), (∀ y ρ3, Inv (acc ++ [y]) (wipeR ρ3 vs) → K y ρ3) → γ d ρ fun ρ1 => ωt ρ1 fun x ρ2 => if x = true then ωe ρ2 K else F ρ2)
    (q : ∀ ys ρ', ys.length = acc.length + ds.length → Inv ys ρ' → Q (.list ys) ρ') : lcGo vs γ ωt ωe ds acc ρ Q := by
  induction ds generalizing acc ρ with
  | nil => rw [lcGo]; exact q acc ρ rfl h0
  | cons d ds ih =>
    rw [lcGo]
    refine h d (by simp) acc ρ h0 _ _ fun y ρ3 e => ⟨by simp at hl; omega, ?_⟩
    exact ih (acc ++ [y]) (by simp at hl ⊢; omega) e (fun d' hd => h d' (by simp [hd])) (fun ys ρ' hl2 => q ys ρ' (by simp at hl2 ⊢; omega))
theorem forGo_tab {γ : DG} {ωb : DS} {de : DEnds} (n : Nat) (F : Nat → D) (Inv : Nat → Rho → Prop) {ρ : Rho} (h0 : Inv 0 ρ) (hn : ∀ ρ', Inv n ρ' → de.nx ρ')
    (hs : ∀ i, i < n → ∀ ρ, Inv i ρ → ∀ nx : Rho → Prop, (∀ ρ', Inv (i + 1) ρ' → nx ρ') → γ (F i) ρ fun ρ1 => ωb { nx := nx, rt := de.rt, bk := de.nx, ct := nx } ρ1) : forGo γ ωb (tab n F) de ρ := by
  refine forGo_rule _ Inv h0 (by rw [tab_len]; exact hn) fun i d hd ρ h nx hnx => ?_
  have hi : i < n := by
    have := (List.getElem?_eq_some_iff.mp hd).1
    rwa [tab_len] at this
  rw [tab_get hi] at hd
  cases hd
  exact hs i hi ρ h nx hnx
theorem forGo_on {α : Type} {γ : DG} {ωb : DS} {de : DEnds} (js : List α) (F : α → D) (Inv : List α → Rho → Prop) {ρ : Rho} (h0 : Inv [] ρ) (hn : ∀ ρ', Inv js ρ' → de.nx ρ')
    (hs : ∀ pre x post, js = pre ++ x :: post → ∀ ρ, Inv pre ρ → ∀ nx : Rho → Prop, (∀ ρ', Inv (pre ++ [x]) ρ' → nx ρ') → γ (F x) ρ fun ρ1 => ωb { nx := nx, rt := de.rt, bk := de.nx, ct := nx } ρ1) : forGo γ ωb (js.map F) de ρ := by
  refine forGo_rule _ (fun i => Inv (js.take i)) (by simpa using h0) (by rw [List.length_map, List.take_length]; exact hn) fun i d hd ρ h nx hnx => ?_
  rw [List.getElem?_map] at hd
  cases q : js[i]? with
  | none => rw [q] at hd; cases hd
  | some x =>
    rw [q] at hd
    cases hd
    have hi := (List.getElem?_eq_some_iff.mp q).1
    have e : js = js.take i ++ x :: js.drop (i + 1) := by
      have h1 := (List.getElem?_eq_some_iff.mp q).2
      rw [← h1, List.getElem_cons_drop, List.take_append_drop]
    refine hs _ x _ e ρ h nx fun ρ' h' => hnx ρ' ?_
    rw [List.take_succ, q]
    exact h'
theorem lcGo_on {α : Type} {vs : List Nat} {γ : DG} {ωt : DT} {ωe : DE} {ρw : Rho} {Q : D → Rho → Prop} (js : List α) (F E : α → D) (P : α → Bool) (acc : List D) (hl : acc.length + js.length ≤ sizeLine)
    (h : ∀ j ∈ js, ∀ (K : D → Rho → Prop) (Fl : Rho → Prop), (P j = true → ∀ ρ3, wipeR ρ3 vs = ρw → K (E j) ρ3) → (P j = false → ∀ ρ3, wipeR ρ3 vs = ρw → Fl ρ3) → γ (F j) ρw fun ρ1 => ωt ρ1 fun x ρ2 => if x = true then ωe ρ2 K else Fl ρ2) (q : Q (.list (acc ++ (js.filter P).map E)) ρw) : lcGo vs γ ωt ωe (js.map F) acc ρw Q := by
  induction js generalizing acc with
  | nil => rw [List.map_nil, lcGo]; simpa using q
  | cons d ds ih =>
    rw [List.map_cons, lcGo]
    refine h d (by simp) _ _ (fun hp ρ3 e => ⟨by simp at hl; omega, ?_⟩) fun hp ρ3 e => ?_
    · rw [e]
      exact ih (acc ++ [E d]) (by simp at hl ⊢; omega) (fun d' hd => h d' (by simp [hd])) (by simpa [List.filter_cons, hp] using q)
    · rw [e]
      exact ih acc (by simp at hl ⊢; omega) (fun d' hd => h d' (by simp [hd])) (by simpa [List.filter_cons, hp] using q)
theorem lcGo_onm {α : Type} {vs : List Nat} {γ : DG} {ωt : DT} {ωe : DE} {ρw : Rho} {Q : D → Rho → Prop} (js : List α) (F E : α → D) (acc : List D) (hl : acc.length + js.length ≤ sizeLine)
    (h : ∀ j ∈ js, ∀ (K : D → Rho → Prop) (Fl : Rho → Prop), (∀ ρ3, wipeR ρ3 vs = ρw → K (E j) ρ3) → γ (F j) ρw fun ρ1 => ωt ρ1 fun x ρ2 => if x = true then ωe ρ2 K else Fl ρ2) (q : Q (.list (acc ++ js.map E)) ρw) : lcGo vs γ ωt ωe (js.map F) acc ρw Q :=
  lcGo_on js F E (fun _ => true) acc hl (fun j hj K Fl hK _ => h j hj K Fl (hK rfl)) (by rw [List.filter_eq_self.mpr (fun _ _ => rfl)]; exact q)
end DD

set_option Elab.async false
set_option linter.all false
set_option maxRecDepth 100000
set_option maxHeartbeats 4000000
/-! DM, part 2: shapes -/
namespace DD
open PySem PySem.Spec PyProof.Rows L2

/-! ### counts of nodes -/
def cl (p w : Nat) : Nat := (p + w - 1) / w
theorem lt_cl {i p w : Nat} (h : 0 < w) : i < cl p w ↔ i * w < p := by
  unfold cl
  rw [← Nat.succ_le_iff, Nat.le_div_iff_mul_le h, Nat.succ_mul]
  omega
theorem cl_eq {a b : Nat} (h : ∀ i, i < a ↔ i < b) : a = b := by
  have h1 := h a
  have h2 := h b
  omega
def cnt (f p l : Nat) : Nat := cl p (f ^ l)
theorem pw_pos {f l : Nat} (h : 2 ≤ f) : 0 < f ^ l := Nat.pow_pos (by omega)
theorem lt_cnt {f p l i : Nat} (h : 2 ≤ f) : i < cnt f p l ↔ i * f ^ l < p := lt_cl (pw_pos h)
theorem cnt_zero (f p : Nat) : cnt f p 0 = p := by simp [cnt, cl]
theorem cnt_succ {f p l : Nat} (h : 2 ≤ f) : cnt f p (l + 1) = cl (cnt f p l) f := cl_eq fun i => by
  rw [lt_cnt h, lt_cl (by omega), lt_cnt h, Nat.pow_succ, Nat.mul_comm (f ^ l) f, Nat.mul_assoc]
theorem cnt_le {f p l : Nat} (h : 2 ≤ f) : cnt f p l ≤ p := by
  by_cases q : cnt f p l ≤ p
  · exact q
  · have := (lt_cnt (p := p) (l := l) (i := p) h).mp (by omega)
    have h1 : p * 1 ≤ p * f ^ l := Nat.mul_le_mul_left _ (pw_pos h)
    omega
theorem cnt_pos {f p l : Nat} (h : 2 ≤ f) (hp : 0 < p) : 0 < cnt f p l := (lt_cnt h).mpr (by omega)
def hts (f p : Nat) : Nat → Nat → Nat
  | 0, l => l
  | k + 1, l => if f ^ l < p then hts f p k (l + 1) else l
def ht (f p : Nat) : Nat := hts f p p 0
theorem hts_spec {f p : Nat} (h : 2 ≤ f) : ∀ k l, p ≤ k + l → (∀ j, j < l → f ^ j < p) → (p ≤ f ^ hts f p k l ∧ ∀ j, j < hts f p k l → f ^ j < p)
  | 0, l, hk, hj => ⟨by rw [hts]; exact Nat.le_trans (by omega) (Nat.le_of_lt (Nat.lt_pow_self (by omega))), hj⟩
  | k + 1, l, hk, hj => by
    rw [hts]
    split
    · rename_i q
      exact hts_spec h k (l + 1) (by omega) fun j hl => by
        by_cases e : j = l
        · subst e; exact q
        · exact hj j (by omega)
    · rename_i q
      exact ⟨by omega, hj⟩
theorem ht_top {f p : Nat} (h : 2 ≤ f) : p ≤ f ^ ht f p := (hts_spec h p 0 (by omega) (by omega)).1
theorem ht_low {f p j : Nat} (h : 2 ≤ f) (hj : j < ht f p) : f ^ j < p := (hts_spec h p 0 (by omega) (by omega)).2 j hj
theorem cnt_gt1 {f p l : Nat} (h : 2 ≤ f) : 1 < cnt f p l ↔ f ^ l < p := by rw [lt_cnt h, Nat.one_mul]
theorem lt_ht {f p l : Nat} (h : 2 ≤ f) : f ^ l < p ↔ l < ht f p := by
  refine ⟨fun q => ?_, ht_low h⟩
  by_cases e : l < ht f p
  · exact e
  · have := Nat.pow_le_pow_right (n := f) (by omega) (show ht f p ≤ l by omega)
    have := ht_top (p := p) h
    omega
theorem cnt_ht {f p : Nat} (h : 2 ≤ f) (hp : 0 < p) : cnt f p (ht f p) = 1 := by
  have h1 : ¬ 1 < cnt f p (ht f p) := by rw [cnt_gt1 h]; have := ht_top (p := p) h; omega
  have := cnt_pos (l := ht f p) h hp
  omega
/-- how many levels -/
def lvN (f p : Nat) : Nat := if p = 0 then 0 else ht f p + 1
theorem lvN_pos {f p : Nat} (hp : 0 < p) : lvN f p = ht f p + 1 := by unfold lvN; rw [if_neg (by omega)]
theorem lvN_lt {f p l : Nat} (h : l < lvN f p) : 0 < p ∧ l ≤ ht f p := by unfold lvN at h; split at h <;> omega
structure Shp (f p : Nat) : Prop where
  f2 : 2 ≤ f
  fb : f ≤ 2 ^ 20
  pb : p ≤ 2 ^ 20
theorem Shp.ht20 {f p : Nat} (S : Shp f p) : ht f p ≤ 20 := by
  by_cases q : ht f p ≤ 20
  · exact q
  · have h1 := ht_low S.f2 (show 20 < ht f p by omega)
    have h2 : (2 : Nat) ^ 20 ≤ f ^ 20 := Nat.pow_le_pow_left S.f2 20
    have := S.pb
    omega
theorem Shp.pw {f p l : Nat} (S : Shp f p) (h : l ≤ ht f p) : f ^ l ≤ 2 ^ 40 := by
  have hf := S.f2
  have hb := S.fb
  have hp := S.pb
  cases l with
  | zero => simp
  | succ l =>
    have h1 := ht_low hf (show l < ht f p by omega)
    rw [Nat.pow_succ]
    calc f ^ l * f ≤ 2 ^ 20 * 2 ^ 20 := Nat.mul_le_mul (by omega) hb
      _ = 2 ^ 40 := by decide
theorem mulW {i j : Int} (hi : i.natAbs < 2 ^ 200) (hj : j.natAbs < 2 ^ 200) : CMulW i j := by
  have key : ∀ n : Nat, n < 2 ^ 200 → n.log2 < 200 := fun n hn => by
    by_cases q : n = 0
    · subst q; decide
    · exact (Nat.log2_lt q).mpr hn
  have h1 := key _ hi
  have h2 := key _ hj
  unfold CMulW
  omega
theorem divW {i j : Int} (h0 : 0 < j) (hj : j.natAbs < 2 ^ 200) : CDivW i j := by
  refine ⟨h0, ?_⟩
  by_cases q : j.natAbs = 0
  · rw [q]; decide
  · have := (Nat.log2_lt q).mpr hj
    omega

/-! ### data -/
abbrev dN (l i : Nat) : D := .tuple [.int (l : Int), .int (i : Int)]
abbrev dSh (p f : Nat) : D := .tuple [.int (p : Int), .int (f : Int)]
abbrev dRow (n : Nat) (r : Nat → Int) : D := .list (tab n fun i => .int (r i))
def dT (f p : Nat) (g : Nat → Nat → Int) : D := .list (tab (lvN f p) fun l => dRow (cnt f p l) (g l))
def dLv (f p : Nat) : D := .list (tab (lvN f p) fun l => .int (cnt f p l : Int))
def OnT (f p l i : Nat) : Prop := l < lvN f p ∧ i < cnt f p l

def sp_is_whole (ds : List D) (Q : D → Prop) : Prop := ∃ n : Int, ds = [.int n] ∧ Q (.bool true)
def w_is_whole : DS := (sRet (eAnd (e1 (fIsT "int") (eVar 0)) (eNot (e1 (fIsT "bool") (eVar 0)))))
theorem m_is_whole : ∀ ds Q, ds.length = 1 → sp_is_whole ds Q → w_is_whole (endsP false Q) (rho0 ds 0) := by
  rintro ds Q - ⟨n, rfl, q⟩
  simp only [w_is_whole, sSeq, sIf, sSet, sSetL, sAsg, sRet, sRetV, sRetL, sRetN, sNx, sBk, sCt, sApp, sExt, sExpr, sFor, sPar, sParL, sPut, gSet, gNilD, gConsD, gTupD, tBool, tNotD, tAndD, tOrD, tYesD, e1, e2, eN, eC, eVar, eIxO, aNil, aCons, eTup, eLst, eFlat, eIf, eChain, eAnd, eOr, eNot, eSl, pNone, pSome, eCall, eCallI, eCallS, iLst, iRg1, iRg2, iRg3, iZipD, iEnumD, sPut2, sSet2, eLc, wipeR, restR, fAdd_i, fAdd_l, fSub_i, fMul_i, fMul_l, fRep_l, fDiv_i, fMod_i, fPow_i, fNeg_i, fCmp_i, fLt, fLe, fGt, fGe, fLen_l, fLen_t, fInt_i, fInt_b, fAbs_i, fMax_i, fMax_l, fMin_i, fSum_l, fList_l, fList_t, fRev_l, fSl_l, fIx_l, fIx_t, fIs_n, fIsNot_n, fIs_b, fIsNot_b, isNone_n, isNone_i, isNone_l, isNone_t, isT_tt, isT_ii, isT_bi, isT_ll, fIsT, fEq, fNe, eqOk_i, eqOk_s, eqOk_l, eqOk_t, eqOk_n, eqv_nil, eqv_int, List.isEmpty_nil, List.isEmpty_cons, eq_self, atI_0, atI_1, atI_2, atI_3, atI_last, exists_eq', Int.cast_ofNat_Int, tab_len, endsP, endsI, rho0, List.set_cons_zero, List.set_cons_succ, List.getElem?_cons_zero, List.getElem?_cons_succ, Option.some.injEq, List.cons.injEq, exists_eq_left', exists_eq, and_assoc, exists_and_left, true_and, and_true, id_eq, List.map_cons, List.map_nil, List.replicate_succ, List.replicate_zero, List.cons_append, List.nil_append, List.length_cons, List.length_nil, PyData.bool.injEq, PyData.int.injEq, PyData.list.injEq, PyData.tuple.injEq, Bool.not_true, Bool.not_false, Bool.false_eq_true, if_true, if_false, ite_true, ite_false, decide_eq_true_eq, Nat.zero_add, Nat.zero_le, Nat.reduceAdd, Nat.reduceSub, Option.join, Option.bind_some, List.getElem?_nil]
  exact q

def sp_levels (ds : List D) (Q : D → Prop) : Prop := ∃ p f, Shp f p ∧ ds = [dSh p f] ∧ Q (dLv f p)
def w_levels : DS := (sSeq (sAsg (gTupD 2 (gConsD (gSet 2) (gConsD (gSet 3) gNilD))) (eVar 0)) (sSeq (sSetL 1 (eLst aNil)) (sSeq (sIf (tBool (e2 fGt (eVar 2) (eC (.int 0)))) (sSeq (sApp 1 (eVar 2)) (sWhile (tBool (e2 fGt (eIxO 1 (e1 fNeg (eC (.int 1)))) (eC (.int 1)))) (sApp 1 (e1 fNeg (e2 fDiv (e1 fNeg (eIxO 1 (e1 fNeg (eC (.int 1))))) (eVar 3)))))) sNx) (sRet (eVar 1)))))
theorem negdiv (c f : Nat) (h : 2 ≤ f) : -(-(c : Int) / (f : Int)) = ((cl c f : Nat) : Int) := by
  unfold cl
  have hf : (0 : Int) < f := by omega
  have e : ((c + f - 1 : Nat) : Int) = -(-(c : Int)) + f - 1 := by omega
  rw [Int.natCast_ediv, e]
  generalize (c : Int) = x
  have h1 := Int.mul_ediv_add_emod (-x) f
  have h2 := Int.emod_nonneg (-x) (show (f : Int) ≠ 0 by omega)
  have h3 := Int.emod_lt_of_pos (-x) hf
  generalize hq : -x / (f : Int) = k at *
  generalize hr : -x % (f : Int) = r at *
  have e2 : - -x + (f : Int) - 1 = (f - 1 - r) + f * (-k) := by rw [Int.mul_neg]; omega
  rw [e2, Int.add_mul_ediv_left _ _ (by omega), Int.ediv_eq_zero_of_lt (by omega) (by omega)]
  omega
theorem m_levels : ∀ ds Q, ds.length = 1 → sp_levels ds Q → w_levels (endsP false Q) (rho0 ds 3) := by
  rintro ds Q - ⟨p, f, S, rfl, q⟩
  have hf := S.f2
  have fb := S.fb
  have pb := S.pb
  have h20 := S.ht20
  simp only [w_levels, sSeq, sIf, sSet, sSetL, sAsg, sRet, sRetV, sRetL, sRetN, sNx, sBk, sCt, sApp, sExt, sExpr, sFor, sPar, sParL, sPut, gSet, gNilD, gConsD, gTupD, tBool, tNotD, tAndD, tOrD, tYesD, e1, e2, eN, eC, eVar, eIxO, aNil, aCons, eTup, eLst, eFlat, eIf, eChain, eAnd, eOr, eNot, eSl, pNone, pSome, eCall, eCallI, eCallS, iLst, iRg1, iRg2, iRg3, iZipD, iEnumD, sPut2, sSet2, eLc, wipeR, restR, fAdd_i, fAdd_l, fSub_i, fMul_i, fMul_l, fRep_l, fDiv_i, fMod_i, fPow_i, fNeg_i, fCmp_i, fLt, fLe, fGt, fGe, fLen_l, fLen_t, fInt_i, fInt_b, fAbs_i, fMax_i, fMax_l, fMin_i, fSum_l, fList_l, fList_t, fRev_l, fSl_l, fIx_l, fIx_t, fIs_n, fIsNot_n, fIs_b, fIsNot_b, isNone_n, isNone_i, isNone_l, isNone_t, isT_tt, isT_ii, isT_bi, isT_ll, fIsT, fEq, fNe, eqOk_i, eqOk_s, eqOk_l, eqOk_t, eqOk_n, eqv_nil, eqv_int, List.isEmpty_nil, List.isEmpty_cons, eq_self, atI_0, atI_1, atI_2, atI_3, atI_last, exists_eq', Int.cast_ofNat_Int, tab_len, endsP, endsI, rho0, List.set_cons_zero, List.set_cons_succ, List.getElem?_cons_zero, List.getElem?_cons_succ, Option.some.injEq, List.cons.injEq, exists_eq_left', exists_eq, and_assoc, exists_and_left, true_and, and_true, id_eq, List.map_cons, List.map_nil, List.replicate_succ, List.replicate_zero, List.cons_append, List.nil_append, List.length_cons, List.length_nil, PyData.bool.injEq, PyData.int.injEq, PyData.list.injEq, PyData.tuple.injEq, Bool.not_true, Bool.not_false, Bool.false_eq_true, if_true, if_false, ite_true, ite_false, decide_eq_true_eq, Nat.zero_add, Nat.zero_le, Nat.reduceAdd, Nat.reduceSub, Option.join, Option.bind_some, List.getElem?_nil]
  by_cases hp : p = 0
  · subst hp
    rw [if_neg (by omega)]
    simpa [dLv, lvN, tab] using q
  rw [if_pos (by omega)]
  refine ⟨by decide, ?_⟩
  refine while_rule (fun n ρ => ∃ k, k + n = ht f p ∧ ρ = [some (dSh p f), some (.list (tab (k + 1) fun l => .int (cnt f p l : Int))), some (.int p), some (.int f)]) (ht f p) ⟨0, by omega, by simp [tab, cnt_zero]⟩ ?_
  rintro n ρ ⟨k, hk, rfl⟩ nx hnx
  simp only [sSeq, sIf, sSet, sSetL, sAsg, sRet, sRetV, sRetL, sRetN, sNx, sBk, sCt, sApp, sExt, sExpr, sFor, sPar, sParL, sPut, gSet, gNilD, gConsD, gTupD, tBool, tNotD, tAndD, tOrD, tYesD, e1, e2, eN, eC, eVar, eIxO, aNil, aCons, eTup, eLst, eFlat, eIf, eChain, eAnd, eOr, eNot, eSl, pNone, pSome, eCall, eCallI, eCallS, iLst, iRg1, iRg2, iRg3, iZipD, iEnumD, sPut2, sSet2, eLc, wipeR, restR, fAdd_i, fAdd_l, fSub_i, fMul_i, fMul_l, fRep_l, fDiv_i, fMod_i, fPow_i, fNeg_i, fCmp_i, fLt, fLe, fGt, fGe, fLen_l, fLen_t, fInt_i, fInt_b, fAbs_i, fMax_i, fMax_l, fMin_i, fSum_l, fList_l, fList_t, fRev_l, fSl_l, fIx_l, fIx_t, fIs_n, fIsNot_n, fIs_b, fIsNot_b, isNone_n, isNone_i, isNone_l, isNone_t, isT_tt, isT_ii, isT_bi, isT_ll, fIsT, fEq, fNe, eqOk_i, eqOk_s, eqOk_l, eqOk_t, eqOk_n, eqv_nil, eqv_int, List.isEmpty_nil, List.isEmpty_cons, eq_self, atI_0, atI_1, atI_2, atI_3, atI_last, exists_eq', Int.cast_ofNat_Int, tab_len, endsP, endsI, rho0, List.set_cons_zero, List.set_cons_succ, List.getElem?_cons_zero, List.getElem?_cons_succ, Option.some.injEq, List.cons.injEq, exists_eq_left', exists_eq, and_assoc, exists_and_left, true_and, and_true, id_eq, List.map_cons, List.map_nil, List.replicate_succ, List.replicate_zero, List.cons_append, List.nil_append, List.length_cons, List.length_nil, PyData.bool.injEq, PyData.int.injEq, PyData.list.injEq, PyData.tuple.injEq, Bool.not_true, Bool.not_false, Bool.false_eq_true, if_true, if_false, ite_true, ite_false, decide_eq_true_eq, Nat.zero_add, Nat.zero_le, Nat.reduceAdd, Nat.reduceSub, Option.join, Option.bind_some, List.getElem?_nil]
  have hc : (1 : Int) < (cnt f p k : Int) ↔ k < ht f p := by rw [← lt_ht hf, ← cnt_gt1 (p := p) hf]; omega
  by_cases h : k < ht f p
  · rw [if_pos (hc.mpr h)]
    refine ⟨divW (by omega) (by rw [Int.natAbs_natCast]; exact Nat.lt_of_le_of_lt fb (by decide)), Nat.lt_of_le_of_lt (show k + 1 ≤ 21 by omega) (by decide), ?_⟩
    refine hnx (n - 1) _ (by omega) ⟨k + 1, by omega, ?_⟩
    rw [negdiv _ _ hf, ← cnt_succ hf, tab_snoc (k + 1)]
  · rw [if_neg (fun z => h (hc.mp z))]
    have : k = ht f p := by omega
    subst this
    rw [dLv, lvN_pos (by omega)] at q
    exact q
theorem m_levels_len : True := trivial

/-- a node of the shape -/
theorem OnT.lo {f p l i : Nat} (h : OnT f p l i) : 0 < p ∧ l ≤ ht f p := lvN_lt h.1
theorem OnT.sz {f p l i : Nat} (S : Shp f p) (h : OnT f p l i) : l ≤ 20 ∧ i < 2 ^ 20 := by
  have h1 := h.lo.2
  have h2 := S.ht20
  have h3 := h.2
  have h4 := cnt_le (p := p) (l := l) S.f2
  have := S.pb
  omega
def sp_is_node (ds : List D) (Q : D → Prop) : Prop := ∃ p f l i, Shp f p ∧ ds = [dSh p f, dN l i] ∧ OnT f p l i ∧ Q (.bool true)
def w_is_node : DS := (sSeq (sIf (tOrD (tNotD (tBool (e1 (fIsT "tuple") (eVar 1)))) (tOrD (tBool (e2 fNe (eN fLen (aCons (eVar 1) aNil)) (eC (.int 2)))) (tOrD (tNotD (tBool (eCall 1 sp_is_whole (aCons (e2 fIx (eVar 1) (eC (.int 0))) aNil)))) (tNotD (tBool (eCall 1 sp_is_whole (aCons (e2 fIx (eVar 1) (eC (.int 1))) aNil))))))) (sRet (eC (.bool false))) sNx) (sSeq (sSet 2 (eCall 1 sp_levels (aCons (eVar 0) aNil))) (sRet (eAnd (eChain fLe fLt (eC (.int 0)) (e2 fIx (eVar 1) (eC (.int 0))) (eN fLen (aCons (eVar 2) aNil))) (eChain fLe fLt (eC (.int 0)) (e2 fIx (eVar 1) (eC (.int 1))) (e2 fIx (eVar 2) (e2 fIx (eVar 1) (eC (.int 0)))))))))
theorem m_is_node : ∀ ds Q, ds.length = 2 → sp_is_node ds Q → w_is_node (endsP false Q) (rho0 ds 1) := by
  rintro ds Q - ⟨p, f, l, i, S, rfl, h, q⟩
  have hs := h.sz S
  simp only [w_is_node, sSeq, sIf, sSet, sSetL, sAsg, sRet, sRetV, sRetL, sRetN, sNx, sBk, sCt, sApp, sExt, sExpr, sFor, sPar, sParL, sPut, gSet, gNilD, gConsD, gTupD, tBool, tNotD, tAndD, tOrD, tYesD, e1, e2, eN, eC, eVar, eIxO, aNil, aCons, eTup, eLst, eFlat, eIf, eChain, eAnd, eOr, eNot, eSl, pNone, pSome, eCall, eCallI, eCallS, iLst, iRg1, iRg2, iRg3, iZipD, iEnumD, sPut2, sSet2, eLc, wipeR, restR, fAdd_i, fAdd_l, fSub_i, fMul_i, fMul_l, fRep_l, fDiv_i, fMod_i, fPow_i, fNeg_i, fCmp_i, fLt, fLe, fGt, fGe, fLen_l, fLen_t, fInt_i, fInt_b, fAbs_i, fMax_i, fMax_l, fMin_i, fSum_l, fList_l, fList_t, fRev_l, fSl_l, fIx_l, fIx_t, fIs_n, fIsNot_n, fIs_b, fIsNot_b, isNone_n, isNone_i, isNone_l, isNone_t, isT_tt, isT_ii, isT_bi, isT_ll, fIsT, fEq, fNe, eqOk_i, eqOk_s, eqOk_l, eqOk_t, eqOk_n, eqv_nil, eqv_int, List.isEmpty_nil, List.isEmpty_cons, eq_self, atI_0, atI_1, atI_2, atI_3, atI_last, exists_eq', Int.cast_ofNat_Int, tab_len, endsP, endsI, rho0, List.set_cons_zero, List.set_cons_succ, List.getElem?_cons_zero, List.getElem?_cons_succ, Option.some.injEq, List.cons.injEq, exists_eq_left', exists_eq, and_assoc, exists_and_left, true_and, and_true, id_eq, List.map_cons, List.map_nil, List.replicate_succ, List.replicate_zero, List.cons_append, List.nil_append, List.length_cons, List.length_nil, PyData.bool.injEq, PyData.int.injEq, PyData.list.injEq, PyData.tuple.injEq, Bool.not_true, Bool.not_false, Bool.false_eq_true, if_true, if_false, ite_true, ite_false, decide_eq_true_eq, Nat.zero_add, Nat.zero_le, Nat.reduceAdd, Nat.reduceSub, Option.join, Option.bind_some, List.getElem?_nil]
  have hl := h.1
  have hc := h.2
  rw [if_neg (by decide)]
  refine ⟨_, rfl, _, rfl, ?_⟩
  simp only [sSeq, sIf, sSet, sSetL, sAsg, sRet, sRetV, sRetL, sRetN, sNx, sBk, sCt, sApp, sExt, sExpr, sFor, sPar, sParL, sPut, gSet, gNilD, gConsD, gTupD, tBool, tNotD, tAndD, tOrD, tYesD, e1, e2, eN, eC, eVar, eIxO, aNil, aCons, eTup, eLst, eFlat, eIf, eChain, eAnd, eOr, eNot, eSl, pNone, pSome, eCall, eCallI, eCallS, iLst, iRg1, iRg2, iRg3, iZipD, iEnumD, sPut2, sSet2, eLc, wipeR, restR, fAdd_i, fAdd_l, fSub_i, fMul_i, fMul_l, fRep_l, fDiv_i, fMod_i, fPow_i, fNeg_i, fCmp_i, fLt, fLe, fGt, fGe, fLen_l, fLen_t, fInt_i, fInt_b, fAbs_i, fMax_i, fMax_l, fMin_i, fSum_l, fList_l, fList_t, fRev_l, fSl_l, fIx_l, fIx_t, fIs_n, fIsNot_n, fIs_b, fIsNot_b, isNone_n, isNone_i, isNone_l, isNone_t, isT_tt, isT_ii, isT_bi, isT_ll, fIsT, fEq, fNe, eqOk_i, eqOk_s, eqOk_l, eqOk_t, eqOk_n, eqv_nil, eqv_int, List.isEmpty_nil, List.isEmpty_cons, eq_self, atI_0, atI_1, atI_2, atI_3, atI_last, exists_eq', Int.cast_ofNat_Int, tab_len, endsP, endsI, rho0, List.set_cons_zero, List.set_cons_succ, List.getElem?_cons_zero, List.getElem?_cons_succ, Option.some.injEq, List.cons.injEq, exists_eq_left', exists_eq, and_assoc, exists_and_left, true_and, and_true, id_eq, List.map_cons, List.map_nil, List.replicate_succ, List.replicate_zero, List.cons_append, List.nil_append, List.length_cons, List.length_nil, PyData.bool.injEq, PyData.int.injEq, PyData.list.injEq, PyData.tuple.injEq, Bool.not_true, Bool.not_false, Bool.false_eq_true, if_true, if_false, ite_true, ite_false, decide_eq_true_eq, Nat.zero_add, Nat.zero_le, Nat.reduceAdd, Nat.reduceSub, Option.join, Option.bind_some, List.getElem?_nil]
  refine ⟨_, rfl, _, rfl, ?_⟩
  simp only [sSeq, sIf, sSet, sSetL, sAsg, sRet, sRetV, sRetL, sRetN, sNx, sBk, sCt, sApp, sExt, sExpr, sFor, sPar, sParL, sPut, gSet, gNilD, gConsD, gTupD, tBool, tNotD, tAndD, tOrD, tYesD, e1, e2, eN, eC, eVar, eIxO, aNil, aCons, eTup, eLst, eFlat, eIf, eChain, eAnd, eOr, eNot, eSl, pNone, pSome, eCall, eCallI, eCallS, iLst, iRg1, iRg2, iRg3, iZipD, iEnumD, sPut2, sSet2, eLc, wipeR, restR, fAdd_i, fAdd_l, fSub_i, fMul_i, fMul_l, fRep_l, fDiv_i, fMod_i, fPow_i, fNeg_i, fCmp_i, fLt, fLe, fGt, fGe, fLen_l, fLen_t, fInt_i, fInt_b, fAbs_i, fMax_i, fMax_l, fMin_i, fSum_l, fList_l, fList_t, fRev_l, fSl_l, fIx_l, fIx_t, fIs_n, fIsNot_n, fIs_b, fIsNot_b, isNone_n, isNone_i, isNone_l, isNone_t, isT_tt, isT_ii, isT_bi, isT_ll, fIsT, fEq, fNe, eqOk_i, eqOk_s, eqOk_l, eqOk_t, eqOk_n, eqv_nil, eqv_int, List.isEmpty_nil, List.isEmpty_cons, eq_self, atI_0, atI_1, atI_2, atI_3, atI_last, exists_eq', Int.cast_ofNat_Int, tab_len, endsP, endsI, rho0, List.set_cons_zero, List.set_cons_succ, List.getElem?_cons_zero, List.getElem?_cons_succ, Option.some.injEq, List.cons.injEq, exists_eq_left', exists_eq, and_assoc, exists_and_left, true_and, and_true, id_eq, List.map_cons, List.map_nil, List.replicate_succ, List.replicate_zero, List.cons_append, List.nil_append, List.length_cons, List.length_nil, PyData.bool.injEq, PyData.int.injEq, PyData.list.injEq, PyData.tuple.injEq, Bool.not_true, Bool.not_false, Bool.false_eq_true, if_true, if_false, ite_true, ite_false, decide_eq_true_eq, Nat.zero_add, Nat.zero_le, Nat.reduceAdd, Nat.reduceSub, Option.join, Option.bind_some, List.getElem?_nil]
  refine ⟨_, _, S, rfl, ?_⟩
  simp only [sSeq, sIf, sSet, sSetL, sAsg, sRet, sRetV, sRetL, sRetN, sNx, sBk, sCt, sApp, sExt, sExpr, sFor, sPar, sParL, sPut, gSet, gNilD, gConsD, gTupD, tBool, tNotD, tAndD, tOrD, tYesD, e1, e2, eN, eC, eVar, eIxO, aNil, aCons, eTup, eLst, eFlat, eIf, eChain, eAnd, eOr, eNot, eSl, pNone, pSome, eCall, eCallI, eCallS, iLst, iRg1, iRg2, iRg3, iZipD, iEnumD, sPut2, sSet2, eLc, wipeR, restR, fAdd_i, fAdd_l, fSub_i, fMul_i, fMul_l, fRep_l, fDiv_i, fMod_i, fPow_i, fNeg_i, fCmp_i, fLt, fLe, fGt, fGe, fLen_l, fLen_t, fInt_i, fInt_b, fAbs_i, fMax_i, fMax_l, fMin_i, fSum_l, fList_l, fList_t, fRev_l, fSl_l, fIx_l, fIx_t, fIs_n, fIsNot_n, fIs_b, fIsNot_b, isNone_n, isNone_i, isNone_l, isNone_t, isT_tt, isT_ii, isT_bi, isT_ll, fIsT, fEq, fNe, eqOk_i, eqOk_s, eqOk_l, eqOk_t, eqOk_n, eqv_nil, eqv_int, List.isEmpty_nil, List.isEmpty_cons, eq_self, atI_0, atI_1, atI_2, atI_3, atI_last, exists_eq', Int.cast_ofNat_Int, tab_len, endsP, endsI, rho0, List.set_cons_zero, List.set_cons_succ, List.getElem?_cons_zero, List.getElem?_cons_succ, Option.some.injEq, List.cons.injEq, exists_eq_left', exists_eq, and_assoc, exists_and_left, true_and, and_true, id_eq, List.map_cons, List.map_nil, List.replicate_succ, List.replicate_zero, List.cons_append, List.nil_append, List.length_cons, List.length_nil, PyData.bool.injEq, PyData.int.injEq, PyData.list.injEq, PyData.tuple.injEq, Bool.not_true, Bool.not_false, Bool.false_eq_true, if_true, if_false, ite_true, ite_false, decide_eq_true_eq, Nat.zero_add, Nat.zero_le, Nat.reduceAdd, Nat.reduceSub, Option.join, Option.bind_some, List.getElem?_nil, dLv]
  rw [if_pos (by omega), if_pos (by omega), if_pos (by omega)]
  refine ⟨_, atI_tab hl, ?_⟩
  simp only [sSeq, sIf, sSet, sSetL, sAsg, sRet, sRetV, sRetL, sRetN, sNx, sBk, sCt, sApp, sExt, sExpr, sFor, sPar, sParL, sPut, gSet, gNilD, gConsD, gTupD, tBool, tNotD, tAndD, tOrD, tYesD, e1, e2, eN, eC, eVar, eIxO, aNil, aCons, eTup, eLst, eFlat, eIf, eChain, eAnd, eOr, eNot, eSl, pNone, pSome, eCall, eCallI, eCallS, iLst, iRg1, iRg2, iRg3, iZipD, iEnumD, sPut2, sSet2, eLc, wipeR, restR, fAdd_i, fAdd_l, fSub_i, fMul_i, fMul_l, fRep_l, fDiv_i, fMod_i, fPow_i, fNeg_i, fCmp_i, fLt, fLe, fGt, fGe, fLen_l, fLen_t, fInt_i, fInt_b, fAbs_i, fMax_i, fMax_l, fMin_i, fSum_l, fList_l, fList_t, fRev_l, fSl_l, fIx_l, fIx_t, fIs_n, fIsNot_n, fIs_b, fIsNot_b, isNone_n, isNone_i, isNone_l, isNone_t, isT_tt, isT_ii, isT_bi, isT_ll, fIsT, fEq, fNe, eqOk_i, eqOk_s, eqOk_l, eqOk_t, eqOk_n, eqv_nil, eqv_int, List.isEmpty_nil, List.isEmpty_cons, eq_self, atI_0, atI_1, atI_2, atI_3, atI_last, exists_eq', Int.cast_ofNat_Int, tab_len, endsP, endsI, rho0, List.set_cons_zero, List.set_cons_succ, List.getElem?_cons_zero, List.getElem?_cons_succ, Option.some.injEq, List.cons.injEq, exists_eq_left', exists_eq, and_assoc, exists_and_left, true_and, and_true, id_eq, List.map_cons, List.map_nil, List.replicate_succ, List.replicate_zero, List.cons_append, List.nil_append, List.length_cons, List.length_nil, PyData.bool.injEq, PyData.int.injEq, PyData.list.injEq, PyData.tuple.injEq, Bool.not_true, Bool.not_false, Bool.false_eq_true, if_true, if_false, ite_true, ite_false, decide_eq_true_eq, Nat.zero_add, Nat.zero_le, Nat.reduceAdd, Nat.reduceSub, Option.join, Option.bind_some, List.getElem?_nil]
  rw [show decide ((i : Int) < (cnt f p l : Int)) = true by simpa using hc]
  exact q

def sp_need_node (ds : List D) (Q : D → Prop) : Prop := ∃ p f l i, Shp f p ∧ ds = [dSh p f, dN l i] ∧ OnT f p l i ∧ Q .none
def w_need_node : DS := (sIf (tNotD (tBool (eCall 2 sp_is_node (aCons (eVar 0) (aCons (eVar 1) aNil))))) sNever sNx)
theorem m_need_node : ∀ ds Q, ds.length = 2 → sp_need_node ds Q → w_need_node (endsP false Q) (rho0 ds 0) := by
  rintro ds Q - ⟨p, f, l, i, S, rfl, h, q⟩
  simp only [w_need_node, sSeq, sIf, sSet, sSetL, sAsg, sRet, sRetV, sRetL, sRetN, sNx, sBk, sCt, sApp, sExt, sExpr, sFor, sPar, sParL, sPut, gSet, gNilD, gConsD, gTupD, tBool, tNotD, tAndD, tOrD, tYesD, e1, e2, eN, eC, eVar, eIxO, aNil, aCons, eTup, eLst, eFlat, eIf, eChain, eAnd, eOr, eNot, eSl, pNone, pSome, eCall, eCallI, eCallS, iLst, iRg1, iRg2, iRg3, iZipD, iEnumD, sPut2, sSet2, eLc, wipeR, restR, fAdd_i, fAdd_l, fSub_i, fMul_i, fMul_l, fRep_l, fDiv_i, fMod_i, fPow_i, fNeg_i, fCmp_i, fLt, fLe, fGt, fGe, fLen_l, fLen_t, fInt_i, fInt_b, fAbs_i, fMax_i, fMax_l, fMin_i, fSum_l, fList_l, fList_t, fRev_l, fSl_l, fIx_l, fIx_t, fIs_n, fIsNot_n, fIs_b, fIsNot_b, isNone_n, isNone_i, isNone_l, isNone_t, isT_tt, isT_ii, isT_bi, isT_ll, fIsT, fEq, fNe, eqOk_i, eqOk_s, eqOk_l, eqOk_t, eqOk_n, eqv_nil, eqv_int, List.isEmpty_nil, List.isEmpty_cons, eq_self, atI_0, atI_1, atI_2, atI_3, atI_last, exists_eq', Int.cast_ofNat_Int, tab_len, endsP, endsI, rho0, List.set_cons_zero, List.set_cons_succ, List.getElem?_cons_zero, List.getElem?_cons_succ, Option.some.injEq, List.cons.injEq, exists_eq_left', exists_eq, and_assoc, exists_and_left, true_and, and_true, id_eq, List.map_cons, List.map_nil, List.replicate_succ, List.replicate_zero, List.cons_append, List.nil_append, List.length_cons, List.length_nil, PyData.bool.injEq, PyData.int.injEq, PyData.list.injEq, PyData.tuple.injEq, Bool.not_true, Bool.not_false, Bool.false_eq_true, if_true, if_false, ite_true, ite_false, decide_eq_true_eq, Nat.zero_add, Nat.zero_le, Nat.reduceAdd, Nat.reduceSub, Option.join, Option.bind_some, List.getElem?_nil]
  refine ⟨_, _, _, _, S, rfl, h, ?_⟩
  simp only [sSeq, sIf, sSet, sSetL, sAsg, sRet, sRetV, sRetL, sRetN, sNx, sBk, sCt, sApp, sExt, sExpr, sFor, sPar, sParL, sPut, gSet, gNilD, gConsD, gTupD, tBool, tNotD, tAndD, tOrD, tYesD, e1, e2, eN, eC, eVar, eIxO, aNil, aCons, eTup, eLst, eFlat, eIf, eChain, eAnd, eOr, eNot, eSl, pNone, pSome, eCall, eCallI, eCallS, iLst, iRg1, iRg2, iRg3, iZipD, iEnumD, sPut2, sSet2, eLc, wipeR, restR, fAdd_i, fAdd_l, fSub_i, fMul_i, fMul_l, fRep_l, fDiv_i, fMod_i, fPow_i, fNeg_i, fCmp_i, fLt, fLe, fGt, fGe, fLen_l, fLen_t, fInt_i, fInt_b, fAbs_i, fMax_i, fMax_l, fMin_i, fSum_l, fList_l, fList_t, fRev_l, fSl_l, fIx_l, fIx_t, fIs_n, fIsNot_n, fIs_b, fIsNot_b, isNone_n, isNone_i, isNone_l, isNone_t, isT_tt, isT_ii, isT_bi, isT_ll, fIsT, fEq, fNe, eqOk_i, eqOk_s, eqOk_l, eqOk_t, eqOk_n, eqv_nil, eqv_int, List.isEmpty_nil, List.isEmpty_cons, eq_self, atI_0, atI_1, atI_2, atI_3, atI_last, exists_eq', Int.cast_ofNat_Int, tab_len, endsP, endsI, rho0, List.set_cons_zero, List.set_cons_succ, List.getElem?_cons_zero, List.getElem?_cons_succ, Option.some.injEq, List.cons.injEq, exists_eq_left', exists_eq, and_assoc, exists_and_left, true_and, and_true, id_eq, List.map_cons, List.map_nil, List.replicate_succ, List.replicate_zero, List.cons_append, List.nil_append, List.length_cons, List.length_nil, PyData.bool.injEq, PyData.int.injEq, PyData.list.injEq, PyData.tuple.injEq, Bool.not_true, Bool.not_false, Bool.false_eq_true, if_true, if_false, ite_true, ite_false, decide_eq_true_eq, Nat.zero_add, Nat.zero_le, Nat.reduceAdd, Nat.reduceSub, Option.join, Option.bind_some, List.getElem?_nil]
  exact q

def sp_span (ds : List D) (Q : D → Prop) : Prop := ∃ p f l i, Shp f p ∧ ds = [dSh p f, dN l i] ∧ OnT f p l i ∧ Q (.tuple [.int ((i * f ^ l : Nat) : Int), .int ((min p ((i + 1) * f ^ l) : Nat) : Int)])
def w_span : DS := (sSeq (sExpr (eCall 2 sp_need_node (aCons (eVar 0) (aCons (eVar 1) aNil)))) (sSeq (sSet 2 (eC (.int 1))) (sSeq (sFor (iRg1 (aCons (e2 fIx (eVar 1) (eC (.int 0))) aNil)) (gSet 3) (sSet 2 (e2 fMul (eVar 2) (e2 fIx (eVar 0) (eC (.int 1)))))) (sRet (eTup (aCons (e2 fMul (e2 fIx (eVar 1) (eC (.int 1))) (eVar 2)) (aCons (eN fMinL (aCons (e2 fIx (eVar 0) (eC (.int 0))) (aCons (e2 fMul (e2 fAdd (e2 fIx (eVar 1) (eC (.int 1))) (eC (.int 1))) (eVar 2)) aNil))) aNil)))))))
theorem m_span : ∀ ds Q, ds.length = 2 → sp_span ds Q → w_span (endsP false Q) (rho0 ds 2) := by
  rintro ds Q - ⟨p, f, l, i, S, rfl, h, q⟩
  have hs := h.sz S
  have hpw : ∀ j, j ≤ l → f ^ j ≤ 2 ^ 40 := fun j hj => S.pw (Nat.le_trans hj h.lo.2)
  have fb := S.fb
  simp only [w_span, sSeq, sIf, sSet, sSetL, sAsg, sRet, sRetV, sRetL, sRetN, sNx, sBk, sCt, sApp, sExt, sExpr, sFor, sPar, sParL, sPut, gSet, gNilD, gConsD, gTupD, tBool, tNotD, tAndD, tOrD, tYesD, e1, e2, eN, eC, eVar, eIxO, aNil, aCons, eTup, eLst, eFlat, eIf, eChain, eAnd, eOr, eNot, eSl, pNone, pSome, eCall, eCallI, eCallS, iLst, iRg1, iRg2, iRg3, iZipD, iEnumD, sPut2, sSet2, eLc, wipeR, restR, fAdd_i, fAdd_l, fSub_i, fMul_i, fMul_l, fRep_l, fDiv_i, fMod_i, fPow_i, fNeg_i, fCmp_i, fLt, fLe, fGt, fGe, fLen_l, fLen_t, fInt_i, fInt_b, fAbs_i, fMax_i, fMax_l, fMin_i, fSum_l, fList_l, fList_t, fRev_l, fSl_l, fIx_l, fIx_t, fIs_n, fIsNot_n, fIs_b, fIsNot_b, isNone_n, isNone_i, isNone_l, isNone_t, isT_tt, isT_ii, isT_bi, isT_ll, fIsT, fEq, fNe, eqOk_i, eqOk_s, eqOk_l, eqOk_t, eqOk_n, eqv_nil, eqv_int, List.isEmpty_nil, List.isEmpty_cons, eq_self, atI_0, atI_1, atI_2, atI_3, atI_last, exists_eq', Int.cast_ofNat_Int, tab_len, endsP, endsI, rho0, List.set_cons_zero, List.set_cons_succ, List.getElem?_cons_zero, List.getElem?_cons_succ, Option.some.injEq, List.cons.injEq, exists_eq_left', exists_eq, and_assoc, exists_and_left, true_and, and_true, id_eq, List.map_cons, List.map_nil, List.replicate_succ, List.replicate_zero, List.cons_append, List.nil_append, List.length_cons, List.length_nil, PyData.bool.injEq, PyData.int.injEq, PyData.list.injEq, PyData.tuple.injEq, Bool.not_true, Bool.not_false, Bool.false_eq_true, if_true, if_false, ite_true, ite_false, decide_eq_true_eq, Nat.zero_add, Nat.zero_le, Nat.reduceAdd, Nat.reduceSub, Option.join, Option.bind_some, List.getElem?_nil]
  refine ⟨_, _, _, _, S, rfl, h, ?_⟩
  simp only [sSeq, sIf, sSet, sSetL, sAsg, sRet, sRetV, sRetL, sRetN, sNx, sBk, sCt, sApp, sExt, sExpr, sFor, sPar, sParL, sPut, gSet, gNilD, gConsD, gTupD, tBool, tNotD, tAndD, tOrD, tYesD, e1, e2, eN, eC, eVar, eIxO, aNil, aCons, eTup, eLst, eFlat, eIf, eChain, eAnd, eOr, eNot, eSl, pNone, pSome, eCall, eCallI, eCallS, iLst, iRg1, iRg2, iRg3, iZipD, iEnumD, sPut2, sSet2, eLc, wipeR, restR, fAdd_i, fAdd_l, fSub_i, fMul_i, fMul_l, fRep_l, fDiv_i, fMod_i, fPow_i, fNeg_i, fCmp_i, fLt, fLe, fGt, fGe, fLen_l, fLen_t, fInt_i, fInt_b, fAbs_i, fMax_i, fMax_l, fMin_i, fSum_l, fList_l, fList_t, fRev_l, fSl_l, fIx_l, fIx_t, fIs_n, fIsNot_n, fIs_b, fIsNot_b, isNone_n, isNone_i, isNone_l, isNone_t, isT_tt, isT_ii, isT_bi, isT_ll, fIsT, fEq, fNe, eqOk_i, eqOk_s, eqOk_l, eqOk_t, eqOk_n, eqv_nil, eqv_int, List.isEmpty_nil, List.isEmpty_cons, eq_self, atI_0, atI_1, atI_2, atI_3, atI_last, exists_eq', Int.cast_ofNat_Int, tab_len, endsP, endsI, rho0, List.set_cons_zero, List.set_cons_succ, List.getElem?_cons_zero, List.getElem?_cons_succ, Option.some.injEq, List.cons.injEq, exists_eq_left', exists_eq, and_assoc, exists_and_left, true_and, and_true, id_eq, List.map_cons, List.map_nil, List.replicate_succ, List.replicate_zero, List.cons_append, List.nil_append, List.length_cons, List.length_nil, PyData.bool.injEq, PyData.int.injEq, PyData.list.injEq, PyData.tuple.injEq, Bool.not_true, Bool.not_false, Bool.false_eq_true, if_true, if_false, ite_true, ite_false, decide_eq_true_eq, Nat.zero_add, Nat.zero_le, Nat.reduceAdd, Nat.reduceSub, Option.join, Option.bind_some, List.getElem?_nil]
  refine ⟨by omega, by omega, ?_⟩
  rw [Int.toNat_natCast, rngD_tab]
  refine forGo_rule _ (fun j ρ => ∃ x, ρ = [some (dSh p f), some (dN l i), some (.int ((f ^ j : Nat) : Int)), x]) ⟨none, by simp⟩ ?_ ?_
  · rintro ρ ⟨x, rfl⟩
    have hp2 := hpw l (Nat.le_refl _)
    rw [tab_len] 
    simp only [sSeq, sIf, sSet, sSetL, sAsg, sRet, sRetV, sRetL, sRetN, sNx, sBk, sCt, sApp, sExt, sExpr, sFor, sPar, sParL, sPut, gSet, gNilD, gConsD, gTupD, tBool, tNotD, tAndD, tOrD, tYesD, e1, e2, eN, eC, eVar, eIxO, aNil, aCons, eTup, eLst, eFlat, eIf, eChain, eAnd, eOr, eNot, eSl, pNone, pSome, eCall, eCallI, eCallS, iLst, iRg1, iRg2, iRg3, iZipD, iEnumD, sPut2, sSet2, eLc, wipeR, restR, fAdd_i, fAdd_l, fSub_i, fMul_i, fMul_l, fRep_l, fDiv_i, fMod_i, fPow_i, fNeg_i, fCmp_i, fLt, fLe, fGt, fGe, fLen_l, fLen_t, fInt_i, fInt_b, fAbs_i, fMax_i, fMax_l, fMin_i, fSum_l, fList_l, fList_t, fRev_l, fSl_l, fIx_l, fIx_t, fIs_n, fIsNot_n, fIs_b, fIsNot_b, isNone_n, isNone_i, isNone_l, isNone_t, isT_tt, isT_ii, isT_bi, isT_ll, fIsT, fEq, fNe, eqOk_i, eqOk_s, eqOk_l, eqOk_t, eqOk_n, eqv_nil, eqv_int, List.isEmpty_nil, List.isEmpty_cons, eq_self, atI_0, atI_1, atI_2, atI_3, atI_last, exists_eq', Int.cast_ofNat_Int, tab_len, endsP, endsI, rho0, List.set_cons_zero, List.set_cons_succ, List.getElem?_cons_zero, List.getElem?_cons_succ, Option.some.injEq, List.cons.injEq, exists_eq_left', exists_eq, and_assoc, exists_and_left, true_and, and_true, id_eq, List.map_cons, List.map_nil, List.replicate_succ, List.replicate_zero, List.cons_append, List.nil_append, List.length_cons, List.length_nil, PyData.bool.injEq, PyData.int.injEq, PyData.list.injEq, PyData.tuple.injEq, Bool.not_true, Bool.not_false, Bool.false_eq_true, if_true, if_false, ite_true, ite_false, decide_eq_true_eq, Nat.zero_add, Nat.zero_le, Nat.reduceAdd, Nat.reduceSub, Option.join, Option.bind_some, List.getElem?_nil]
    refine ⟨mulW (by omega) (by omega), mulW (by omega) (by omega), by decide, ?_⟩
    have e : (.tuple [.int ((i : Int) * ((f ^ l : Nat) : Int)), .int (min (p : Int) (((i : Int) + 1) * ((f ^ l : Nat) : Int)))] : D) = .tuple [.int ((i * f ^ l : Nat) : Int), .int ((min p ((i + 1) * f ^ l) : Nat) : Int)] := by
      have e1 : ((i : Int) + 1) * ((f ^ l : Nat) : Int) = (((i + 1) * f ^ l : Nat) : Int) := by push_cast; rfl
      rw [e1, show min (p : Int) (((i + 1) * f ^ l : Nat) : Int) = ((min p ((i + 1) * f ^ l) : Nat) : Int) by omega]
      push_cast; rfl
    rw [e]
    exact q
  · rintro j d hj ρ ⟨x, rfl⟩ nx hnx
    simp only [sSeq, sIf, sSet, sSetL, sAsg, sRet, sRetV, sRetL, sRetN, sNx, sBk, sCt, sApp, sExt, sExpr, sFor, sPar, sParL, sPut, gSet, gNilD, gConsD, gTupD, tBool, tNotD, tAndD, tOrD, tYesD, e1, e2, eN, eC, eVar, eIxO, aNil, aCons, eTup, eLst, eFlat, eIf, eChain, eAnd, eOr, eNot, eSl, pNone, pSome, eCall, eCallI, eCallS, iLst, iRg1, iRg2, iRg3, iZipD, iEnumD, sPut2, sSet2, eLc, wipeR, restR, fAdd_i, fAdd_l, fSub_i, fMul_i, fMul_l, fRep_l, fDiv_i, fMod_i, fPow_i, fNeg_i, fCmp_i, fLt, fLe, fGt, fGe, fLen_l, fLen_t, fInt_i, fInt_b, fAbs_i, fMax_i, fMax_l, fMin_i, fSum_l, fList_l, fList_t, fRev_l, fSl_l, fIx_l, fIx_t, fIs_n, fIsNot_n, fIs_b, fIsNot_b, isNone_n, isNone_i, isNone_l, isNone_t, isT_tt, isT_ii, isT_bi, isT_ll, fIsT, fEq, fNe, eqOk_i, eqOk_s, eqOk_l, eqOk_t, eqOk_n, eqv_nil, eqv_int, List.isEmpty_nil, List.isEmpty_cons, eq_self, atI_0, atI_1, atI_2, atI_3, atI_last, exists_eq', Int.cast_ofNat_Int, tab_len, endsP, endsI, rho0, List.set_cons_zero, List.set_cons_succ, List.getElem?_cons_zero, List.getElem?_cons_succ, Option.some.injEq, List.cons.injEq, exists_eq_left', exists_eq, and_assoc, exists_and_left, true_and, and_true, id_eq, List.map_cons, List.map_nil, List.replicate_succ, List.replicate_zero, List.cons_append, List.nil_append, List.length_cons, List.length_nil, PyData.bool.injEq, PyData.int.injEq, PyData.list.injEq, PyData.tuple.injEq, Bool.not_true, Bool.not_false, Bool.false_eq_true, if_true, if_false, ite_true, ite_false, decide_eq_true_eq, Nat.zero_add, Nat.zero_le, Nat.reduceAdd, Nat.reduceSub, Option.join, Option.bind_some, List.getElem?_nil]
    have hj2 : j < l := by
      have := (List.getElem?_eq_some_iff.mp hj).1
      rw [tab_len] at this
      exact this
    have hp2 := hpw j (by omega)
    refine ⟨mulW (by omega) (by omega), hnx _ ⟨some d, ?_⟩⟩
    have hd := hj
    rw [tab_get hj2] at hd
    cases hd
    rw [Nat.pow_succ]
    push_cast
    rfl

def chN (f p l i : Nat) : Nat := if l = 0 then 0 else min (cnt f p (l - 1)) (i * f + f) - i * f
def dCh (f p l i : Nat) : D := .list (tab (chN f p l i) fun j => dN (l - 1) (i * f + j))
theorem lvN_down {f p l : Nat} (h : l + 1 < lvN f p) : l < lvN f p := by omega
theorem ch_lt {f p l i j : Nat} (hf : 2 ≤ f) (h : OnT f p (l + 1) i) (hj : j < chN f p (l + 1) i) : OnT f p l (i * f + j) := by
  refine ⟨by have := h.1; omega, ?_⟩
  unfold chN at hj
  rw [if_neg (by omega)] at hj
  simp only [Nat.add_sub_cancel] at hj
  omega
theorem ch_pos {f p l i : Nat} (hf : 2 ≤ f) (h : OnT f p (l + 1) i) : 0 < chN f p (l + 1) i := by
  have h2 := h.2
  rw [cnt_succ hf, lt_cl (by omega)] at h2
  unfold chN
  rw [if_neg (by omega)]
  simp only [Nat.add_sub_cancel]
  omega
def sp_children (ds : List D) (Q : D → Prop) : Prop := ∃ p f l i, Shp f p ∧ ds = [dSh p f, dN l i] ∧ OnT f p l i ∧ Q (dCh f p l i)
def w_children : DS := (sSeq (sExpr (eCall 2 sp_need_node (aCons (eVar 0) (aCons (eVar 1) aNil)))) (sSeq (sIf (tBool (e2 fEq (e2 fIx (eVar 1) (eC (.int 0))) (eC (.int 0)))) (sRet (eLst aNil)) sNx) (sSeq (sSet 2 (e2 fIx (eCall 1 sp_levels (aCons (eVar 0) aNil)) (e2 fSub (e2 fIx (eVar 1) (eC (.int 0))) (eC (.int 1))))) (sSeq (sSet 3 (e2 fMul (e2 fIx (eVar 1) (eC (.int 1))) (e2 fIx (eVar 0) (eC (.int 1))))) (sRet (eLc [4] (iRg2 (aCons (eVar 3) (aCons (eN fMinL (aCons (eVar 2) (aCons (e2 fAdd (eVar 3) (e2 fIx (eVar 0) (eC (.int 1)))) aNil))) aNil))) (gSet 4) tYesD (eTup (aCons (e2 fSub (e2 fIx (eVar 1) (eC (.int 0))) (eC (.int 1))) (aCons (eVar 4) aNil)))))))))
theorem m_children : ∀ ds Q, ds.length = 2 → sp_children ds Q → w_children (endsP false Q) (rho0 ds 3) := by
  rintro ds Q - ⟨p, f, l, i, S, rfl, h, q⟩
  have hs := h.sz S
  have fb := S.fb
  have hf := S.f2
  have pb := S.pb
  simp only [w_children, sSeq, sIf, sSet, sSetL, sAsg, sRet, sRetV, sRetL, sRetN, sNx, sBk, sCt, sApp, sExt, sExpr, sFor, sPar, sParL, sPut, gSet, gNilD, gConsD, gTupD, tBool, tNotD, tAndD, tOrD, tYesD, e1, e2, eN, eC, eVar, eIxO, aNil, aCons, eTup, eLst, eFlat, eIf, eChain, eAnd, eOr, eNot, eSl, pNone, pSome, eCall, eCallI, eCallS, iLst, iRg1, iRg2, iRg3, iZipD, iEnumD, sPut2, sSet2, eLc, wipeR, restR, fAdd_i, fAdd_l, fSub_i, fMul_i, fMul_l, fRep_l, fDiv_i, fMod_i, fPow_i, fNeg_i, fCmp_i, fLt, fLe, fGt, fGe, fLen_l, fLen_t, fInt_i, fInt_b, fAbs_i, fMax_i, fMax_l, fMin_i, fSum_l, fList_l, fList_t, fRev_l, fSl_l, fIx_l, fIx_t, fIs_n, fIsNot_n, fIs_b, fIsNot_b, isNone_n, isNone_i, isNone_l, isNone_t, isT_tt, isT_ii, isT_bi, isT_ll, fIsT, fEq, fNe, eqOk_i, eqOk_s, eqOk_l, eqOk_t, eqOk_n, eqv_nil, eqv_int, List.isEmpty_nil, List.isEmpty_cons, eq_self, atI_0, atI_1, atI_2, atI_3, atI_last, exists_eq', Int.cast_ofNat_Int, tab_len, endsP, endsI, rho0, List.set_cons_zero, List.set_cons_succ, List.getElem?_cons_zero, List.getElem?_cons_succ, Option.some.injEq, List.cons.injEq, exists_eq_left', exists_eq, and_assoc, exists_and_left, true_and, and_true, id_eq, List.map_cons, List.map_nil, List.replicate_succ, List.replicate_zero, List.cons_append, List.nil_append, List.length_cons, List.length_nil, PyData.bool.injEq, PyData.int.injEq, PyData.list.injEq, PyData.tuple.injEq, Bool.not_true, Bool.not_false, Bool.false_eq_true, if_true, if_false, ite_true, ite_false, decide_eq_true_eq, Nat.zero_add, Nat.zero_le, Nat.reduceAdd, Nat.reduceSub, Option.join, Option.bind_some, List.getElem?_nil]
  refine ⟨_, _, _, _, S, rfl, h, ?_⟩
  simp only [sSeq, sIf, sSet, sSetL, sAsg, sRet, sRetV, sRetL, sRetN, sNx, sBk, sCt, sApp, sExt, sExpr, sFor, sPar, sParL, sPut, gSet, gNilD, gConsD, gTupD, tBool, tNotD, tAndD, tOrD, tYesD, e1, e2, eN, eC, eVar, eIxO, aNil, aCons, eTup, eLst, eFlat, eIf, eChain, eAnd, eOr, eNot, eSl, pNone, pSome, eCall, eCallI, eCallS, iLst, iRg1, iRg2, iRg3, iZipD, iEnumD, sPut2, sSet2, eLc, wipeR, restR, fAdd_i, fAdd_l, fSub_i, fMul_i, fMul_l, fRep_l, fDiv_i, fMod_i, fPow_i, fNeg_i, fCmp_i, fLt, fLe, fGt, fGe, fLen_l, fLen_t, fInt_i, fInt_b, fAbs_i, fMax_i, fMax_l, fMin_i, fSum_l, fList_l, fList_t, fRev_l, fSl_l, fIx_l, fIx_t, fIs_n, fIsNot_n, fIs_b, fIsNot_b, isNone_n, isNone_i, isNone_l, isNone_t, isT_tt, isT_ii, isT_bi, isT_ll, fIsT, fEq, fNe, eqOk_i, eqOk_s, eqOk_l, eqOk_t, eqOk_n, eqv_nil, eqv_int, List.isEmpty_nil, List.isEmpty_cons, eq_self, atI_0, atI_1, atI_2, atI_3, atI_last, exists_eq', Int.cast_ofNat_Int, tab_len, endsP, endsI, rho0, List.set_cons_zero, List.set_cons_succ, List.getElem?_cons_zero, List.getElem?_cons_succ, Option.some.injEq, List.cons.injEq, exists_eq_left', exists_eq, and_assoc, exists_and_left, true_and, and_true, id_eq, List.map_cons, List.map_nil, List.replicate_succ, List.replicate_zero, List.cons_append, List.nil_append, List.length_cons, List.length_nil, PyData.bool.injEq, PyData.int.injEq, PyData.list.injEq, PyData.tuple.injEq, Bool.not_true, Bool.not_false, Bool.false_eq_true, if_true, if_false, ite_true, ite_false, decide_eq_true_eq, Nat.zero_add, Nat.zero_le, Nat.reduceAdd, Nat.reduceSub, Option.join, Option.bind_some, List.getElem?_nil]
  cases l with
  | zero =>
    rw [if_pos (by omega)]
    simpa [dCh, chN, tab] using q
  | succ l =>
    rw [if_neg (by omega)]
    refine ⟨_, _, S, rfl, ?_⟩
    simp only [sSeq, sIf, sSet, sSetL, sAsg, sRet, sRetV, sRetL, sRetN, sNx, sBk, sCt, sApp, sExt, sExpr, sFor, sPar, sParL, sPut, gSet, gNilD, gConsD, gTupD, tBool, tNotD, tAndD, tOrD, tYesD, e1, e2, eN, eC, eVar, eIxO, aNil, aCons, eTup, eLst, eFlat, eIf, eChain, eAnd, eOr, eNot, eSl, pNone, pSome, eCall, eCallI, eCallS, iLst, iRg1, iRg2, iRg3, iZipD, iEnumD, sPut2, sSet2, eLc, wipeR, restR, fAdd_i, fAdd_l, fSub_i, fMul_i, fMul_l, fRep_l, fDiv_i, fMod_i, fPow_i, fNeg_i, fCmp_i, fLt, fLe, fGt, fGe, fLen_l, fLen_t, fInt_i, fInt_b, fAbs_i, fMax_i, fMax_l, fMin_i, fSum_l, fList_l, fList_t, fRev_l, fSl_l, fIx_l, fIx_t, fIs_n, fIsNot_n, fIs_b, fIsNot_b, isNone_n, isNone_i, isNone_l, isNone_t, isT_tt, isT_ii, isT_bi, isT_ll, fIsT, fEq, fNe, eqOk_i, eqOk_s, eqOk_l, eqOk_t, eqOk_n, eqv_nil, eqv_int, List.isEmpty_nil, List.isEmpty_cons, eq_self, atI_0, atI_1, atI_2, atI_3, atI_last, exists_eq', Int.cast_ofNat_Int, tab_len, endsP, endsI, rho0, List.set_cons_zero, List.set_cons_succ, List.getElem?_cons_zero, List.getElem?_cons_succ, Option.some.injEq, List.cons.injEq, exists_eq_left', exists_eq, and_assoc, exists_and_left, true_and, and_true, id_eq, List.map_cons, List.map_nil, List.replicate_succ, List.replicate_zero, List.cons_append, List.nil_append, List.length_cons, List.length_nil, PyData.bool.injEq, PyData.int.injEq, PyData.list.injEq, PyData.tuple.injEq, Bool.not_true, Bool.not_false, Bool.false_eq_true, if_true, if_false, ite_true, ite_false, decide_eq_true_eq, Nat.zero_add, Nat.zero_le, Nat.reduceAdd, Nat.reduceSub, Option.join, Option.bind_some, List.getElem?_nil, dLv]
    have qq1 : ((l + 1 : Nat) : Int) - 1 = (l : Int) := by omega
    rw [qq1]
    refine ⟨_, atI_tab (lvN_down h.1), mulW (by omega) (by omega), ?_⟩
    simp only [sSeq, sIf, sSet, sSetL, sAsg, sRet, sRetV, sRetL, sRetN, sNx, sBk, sCt, sApp, sExt, sExpr, sFor, sPar, sParL, sPut, gSet, gNilD, gConsD, gTupD, tBool, tNotD, tAndD, tOrD, tYesD, e1, e2, eN, eC, eVar, eIxO, aNil, aCons, eTup, eLst, eFlat, eIf, eChain, eAnd, eOr, eNot, eSl, pNone, pSome, eCall, eCallI, eCallS, iLst, iRg1, iRg2, iRg3, iZipD, iEnumD, sPut2, sSet2, eLc, wipeR, restR, fAdd_i, fAdd_l, fSub_i, fMul_i, fMul_l, fRep_l, fDiv_i, fMod_i, fPow_i, fNeg_i, fCmp_i, fLt, fLe, fGt, fGe, fLen_l, fLen_t, fInt_i, fInt_b, fAbs_i, fMax_i, fMax_l, fMin_i, fSum_l, fList_l, fList_t, fRev_l, fSl_l, fIx_l, fIx_t, fIs_n, fIsNot_n, fIs_b, fIsNot_b, isNone_n, isNone_i, isNone_l, isNone_t, isT_tt, isT_ii, isT_bi, isT_ll, fIsT, fEq, fNe, eqOk_i, eqOk_s, eqOk_l, eqOk_t, eqOk_n, eqv_nil, eqv_int, List.isEmpty_nil, List.isEmpty_cons, eq_self, atI_0, atI_1, atI_2, atI_3, atI_last, exists_eq', Int.cast_ofNat_Int, tab_len, endsP, endsI, rho0, List.set_cons_zero, List.set_cons_succ, List.getElem?_cons_zero, List.getElem?_cons_succ, Option.some.injEq, List.cons.injEq, exists_eq_left', exists_eq, and_assoc, exists_and_left, true_and, and_true, id_eq, List.map_cons, List.map_nil, List.replicate_succ, List.replicate_zero, List.cons_append, List.nil_append, List.length_cons, List.length_nil, PyData.bool.injEq, PyData.int.injEq, PyData.list.injEq, PyData.tuple.injEq, Bool.not_true, Bool.not_false, Bool.false_eq_true, if_true, if_false, ite_true, ite_false, decide_eq_true_eq, Nat.zero_add, Nat.zero_le, Nat.reduceAdd, Nat.reduceSub, Option.join, Option.bind_some, List.getElem?_nil]
    have hc := cnt_le (p := p) (l := l) hf
    have hm : i * f ≤ 2 ^ 40 := by
      calc i * f ≤ 2 ^ 20 * 2 ^ 20 := Nat.mul_le_mul (by omega) fb
        _ = 2 ^ 40 := by decide
    have qq2 : (i : Int) * (f : Int) = ((i * f : Nat) : Int) := by push_cast; rfl
    rw [qq2]
    refine ⟨by omega, by omega, by omega, by omega, ?_⟩
    have qq3 : rngD ((i * f : Nat) : Int) (min (cnt f p l : Int) (((i * f : Nat) : Int) + (f : Int)) - ((i * f : Nat) : Int)).toNat = tab (chN f p (l + 1) i) fun j => .int ((i * f + j : Nat) : Int) := by
      unfold rngD chN
      rw [if_neg (by omega), show (min (cnt f p l : Int) (((i * f : Nat) : Int) + (f : Int)) - ((i * f : Nat) : Int)).toNat = min (cnt f p l) (i * f + f) - i * f by omega]
      rfl
    rw [qq3]
    have hn : chN f p (l + 1) i ≤ 2 ^ 20 := by unfold chN; rw [if_neg (by omega)]; simp only [Nat.add_sub_cancel]; omega
    refine lcGo_map (fun d => .tuple [.int (l : Int), d]) _ [] (by rw [List.length_nil, tab_len]; exact Nat.le_trans (by omega) (show 2 ^ 20 ≤ sizeLine by decide)) ?_ ?_
    · intro d hd K F hK
      obtain ⟨j, hj, rfl⟩ := tab_mem hd
      simp only [sSeq, sIf, sSet, sSetL, sAsg, sRet, sRetV, sRetL, sRetN, sNx, sBk, sCt, sApp, sExt, sExpr, sFor, sPar, sParL, sPut, gSet, gNilD, gConsD, gTupD, tBool, tNotD, tAndD, tOrD, tYesD, e1, e2, eN, eC, eVar, eIxO, aNil, aCons, eTup, eLst, eFlat, eIf, eChain, eAnd, eOr, eNot, eSl, pNone, pSome, eCall, eCallI, eCallS, iLst, iRg1, iRg2, iRg3, iZipD, iEnumD, sPut2, sSet2, eLc, wipeR, restR, fAdd_i, fAdd_l, fSub_i, fMul_i, fMul_l, fRep_l, fDiv_i, fMod_i, fPow_i, fNeg_i, fCmp_i, fLt, fLe, fGt, fGe, fLen_l, fLen_t, fInt_i, fInt_b, fAbs_i, fMax_i, fMax_l, fMin_i, fSum_l, fList_l, fList_t, fRev_l, fSl_l, fIx_l, fIx_t, fIs_n, fIsNot_n, fIs_b, fIsNot_b, isNone_n, isNone_i, isNone_l, isNone_t, isT_tt, isT_ii, isT_bi, isT_ll, fIsT, fEq, fNe, eqOk_i, eqOk_s, eqOk_l, eqOk_t, eqOk_n, eqv_nil, eqv_int, List.isEmpty_nil, List.isEmpty_cons, eq_self, atI_0, atI_1, atI_2, atI_3, atI_last, exists_eq', Int.cast_ofNat_Int, tab_len, endsP, endsI, rho0, List.set_cons_zero, List.set_cons_succ, List.getElem?_cons_zero, List.getElem?_cons_succ, Option.some.injEq, List.cons.injEq, exists_eq_left', exists_eq, and_assoc, exists_and_left, true_and, and_true, id_eq, List.map_cons, List.map_nil, List.replicate_succ, List.replicate_zero, List.cons_append, List.nil_append, List.length_cons, List.length_nil, PyData.bool.injEq, PyData.int.injEq, PyData.list.injEq, PyData.tuple.injEq, Bool.not_true, Bool.not_false, Bool.false_eq_true, if_true, if_false, ite_true, ite_false, decide_eq_true_eq, Nat.zero_add, Nat.zero_le, Nat.reduceAdd, Nat.reduceSub, Option.join, Option.bind_some, List.getElem?_nil]
      rw [qq1]
      exact ⟨by decide, hK _ rfl⟩
    · simp only [sSeq, sIf, sSet, sSetL, sAsg, sRet, sRetV, sRetL, sRetN, sNx, sBk, sCt, sApp, sExt, sExpr, sFor, sPar, sParL, sPut, gSet, gNilD, gConsD, gTupD, tBool, tNotD, tAndD, tOrD, tYesD, e1, e2, eN, eC, eVar, eIxO, aNil, aCons, eTup, eLst, eFlat, eIf, eChain, eAnd, eOr, eNot, eSl, pNone, pSome, eCall, eCallI, eCallS, iLst, iRg1, iRg2, iRg3, iZipD, iEnumD, sPut2, sSet2, eLc, wipeR, restR, fAdd_i, fAdd_l, fSub_i, fMul_i, fMul_l, fRep_l, fDiv_i, fMod_i, fPow_i, fNeg_i, fCmp_i, fLt, fLe, fGt, fGe, fLen_l, fLen_t, fInt_i, fInt_b, fAbs_i, fMax_i, fMax_l, fMin_i, fSum_l, fList_l, fList_t, fRev_l, fSl_l, fIx_l, fIx_t, fIs_n, fIsNot_n, fIs_b, fIsNot_b, isNone_n, isNone_i, isNone_l, isNone_t, isT_tt, isT_ii, isT_bi, isT_ll, fIsT, fEq, fNe, eqOk_i, eqOk_s, eqOk_l, eqOk_t, eqOk_n, eqv_nil, eqv_int, List.isEmpty_nil, List.isEmpty_cons, eq_self, atI_0, atI_1, atI_2, atI_3, atI_last, exists_eq', Int.cast_ofNat_Int, tab_len, endsP, endsI, rho0, List.set_cons_zero, List.set_cons_succ, List.getElem?_cons_zero, List.getElem?_cons_succ, Option.some.injEq, List.cons.injEq, exists_eq_left', exists_eq, and_assoc, exists_and_left, true_and, and_true, id_eq, List.map_cons, List.map_nil, List.replicate_succ, List.replicate_zero, List.cons_append, List.nil_append, List.length_cons, List.length_nil, PyData.bool.injEq, PyData.int.injEq, PyData.list.injEq, PyData.tuple.injEq, Bool.not_true, Bool.not_false, Bool.false_eq_true, if_true, if_false, ite_true, ite_false, decide_eq_true_eq, Nat.zero_add, Nat.zero_le, Nat.reduceAdd, Nat.reduceSub, Option.join, Option.bind_some, List.getElem?_nil]
      rw [tab_map]
      exact q
def sp_top (ds : List D) (Q : D → Prop) : Prop := ∃ p f, Shp f p ∧ ds = [dSh p f] ∧ Q (if p = 0 then .none else dN (ht f p) 0)
def w_top : DS := (sSeq (sSet 1 (eCall 1 sp_levels (aCons (eVar 0) aNil))) (sSeq (sIf (tBool (e2 fEq (eVar 1) (eLst aNil))) (sRet (eC .none)) sNx) (sRet (eTup (aCons (e2 fSub (eN fLen (aCons (eVar 1) aNil)) (eC (.int 1))) (aCons (eC (.int 0)) aNil))))))
theorem shaped_dLv {f p : Nat} (S : Shp f p) : SeqAt.shaped (dLv f p) = true := gd_shaped (n := 1) (by decide) (gd_list fun x hx => by
  obtain ⟨l, _, rfl⟩ := tab_mem hx
  have := cnt_le (p := p) (l := l) S.f2
  have := S.pb
  exact gd_int (by omega))
theorem m_top : ∀ ds Q, ds.length = 1 → sp_top ds Q → w_top (endsP false Q) (rho0 ds 1) := by
  rintro ds Q - ⟨p, f, S, rfl, q⟩
  simp only [w_top, sSeq, sIf, sSet, sSetL, sAsg, sRet, sRetV, sRetL, sRetN, sNx, sBk, sCt, sApp, sExt, sExpr, sFor, sPar, sParL, sPut, gSet, gNilD, gConsD, gTupD, tBool, tNotD, tAndD, tOrD, tYesD, e1, e2, eN, eC, eVar, eIxO, aNil, aCons, eTup, eLst, eFlat, eIf, eChain, eAnd, eOr, eNot, eSl, pNone, pSome, eCall, eCallI, eCallS, iLst, iRg1, iRg2, iRg3, iZipD, iEnumD, sPut2, sSet2, eLc, wipeR, restR, fAdd_i, fAdd_l, fSub_i, fMul_i, fMul_l, fRep_l, fDiv_i, fMod_i, fPow_i, fNeg_i, fCmp_i, fLt, fLe, fGt, fGe, fLen_l, fLen_t, fInt_i, fInt_b, fAbs_i, fMax_i, fMax_l, fMin_i, fSum_l, fList_l, fList_t, fRev_l, fSl_l, fIx_l, fIx_t, fIs_n, fIsNot_n, fIs_b, fIsNot_b, isNone_n, isNone_i, isNone_l, isNone_t, isT_tt, isT_ii, isT_bi, isT_ll, fIsT, fEq, fNe, eqOk_i, eqOk_s, eqOk_l, eqOk_t, eqOk_n, eqv_nil, eqv_int, List.isEmpty_nil, List.isEmpty_cons, eq_self, atI_0, atI_1, atI_2, atI_3, atI_last, exists_eq', Int.cast_ofNat_Int, tab_len, endsP, endsI, rho0, List.set_cons_zero, List.set_cons_succ, List.getElem?_cons_zero, List.getElem?_cons_succ, Option.some.injEq, List.cons.injEq, exists_eq_left', exists_eq, and_assoc, exists_and_left, true_and, and_true, id_eq, List.map_cons, List.map_nil, List.replicate_succ, List.replicate_zero, List.cons_append, List.nil_append, List.length_cons, List.length_nil, PyData.bool.injEq, PyData.int.injEq, PyData.list.injEq, PyData.tuple.injEq, Bool.not_true, Bool.not_false, Bool.false_eq_true, if_true, if_false, ite_true, ite_false, decide_eq_true_eq, Nat.zero_add, Nat.zero_le, Nat.reduceAdd, Nat.reduceSub, Option.join, Option.bind_some, List.getElem?_nil]
  refine ⟨_, _, S, rfl, ?_⟩
  have h := shaped_dLv S
  unfold dLv at h ⊢
  simp only [sSeq, sIf, sSet, sSetL, sAsg, sRet, sRetV, sRetL, sRetN, sNx, sBk, sCt, sApp, sExt, sExpr, sFor, sPar, sParL, sPut, gSet, gNilD, gConsD, gTupD, tBool, tNotD, tAndD, tOrD, tYesD, e1, e2, eN, eC, eVar, eIxO, aNil, aCons, eTup, eLst, eFlat, eIf, eChain, eAnd, eOr, eNot, eSl, pNone, pSome, eCall, eCallI, eCallS, iLst, iRg1, iRg2, iRg3, iZipD, iEnumD, sPut2, sSet2, eLc, wipeR, restR, fAdd_i, fAdd_l, fSub_i, fMul_i, fMul_l, fRep_l, fDiv_i, fMod_i, fPow_i, fNeg_i, fCmp_i, fLt, fLe, fGt, fGe, fLen_l, fLen_t, fInt_i, fInt_b, fAbs_i, fMax_i, fMax_l, fMin_i, fSum_l, fList_l, fList_t, fRev_l, fSl_l, fIx_l, fIx_t, fIs_n, fIsNot_n, fIs_b, fIsNot_b, isNone_n, isNone_i, isNone_l, isNone_t, isT_tt, isT_ii, isT_bi, isT_ll, fIsT, fEq, fNe, eqOk_i, eqOk_s, eqOk_l, eqOk_t, eqOk_n, eqv_nil, eqv_int, List.isEmpty_nil, List.isEmpty_cons, eq_self, atI_0, atI_1, atI_2, atI_3, atI_last, exists_eq', Int.cast_ofNat_Int, tab_len, endsP, endsI, rho0, List.set_cons_zero, List.set_cons_succ, List.getElem?_cons_zero, List.getElem?_cons_succ, Option.some.injEq, List.cons.injEq, exists_eq_left', exists_eq, and_assoc, exists_and_left, true_and, and_true, id_eq, List.map_cons, List.map_nil, List.replicate_succ, List.replicate_zero, List.cons_append, List.nil_append, List.length_cons, List.length_nil, PyData.bool.injEq, PyData.int.injEq, PyData.list.injEq, PyData.tuple.injEq, Bool.not_true, Bool.not_false, Bool.false_eq_true, if_true, if_false, ite_true, ite_false, decide_eq_true_eq, Nat.zero_add, Nat.zero_le, Nat.reduceAdd, Nat.reduceSub, Option.join, Option.bind_some, List.getElem?_nil]
  refine ⟨h, shaped_nil, ?_⟩
  by_cases hp : p = 0
  · subst hp
    rw [if_pos rfl] at q
    rw [if_pos (by simp [lvN, tab])]
    exact q
  · rw [if_neg hp] at q
    rw [lvN_pos (by omega), if_neg (by simp [tab])]
    refine ⟨by decide, ?_⟩
    have e : ((ht f p + 1 : Nat) : Int) - 1 = (ht f p : Int) := by omega
    rw [e]
    exact q
end DD

set_option Elab.async false
set_option linter.all false
set_option maxRecDepth 100000
set_option maxHeartbeats 4000000
/-! DM, part 3: trees -/
namespace DD
open PySem PySem.Spec PyProof.Rows L2

/-! ### the greatest of a stretch -/
def mxs (r : Nat → Int) (a n : Nat) : Int := maxI (tab n fun j => r (a + j))
theorem mxs_ge {r : Nat → Int} {a n j : Nat} (h : j < n) : r (a + j) ≤ mxs r a n := le_maxI (List.mem_map.mpr ⟨j, List.mem_range.mpr h, rfl⟩)
theorem mxs_mem {r : Nat → Int} {a n : Nat} (h : 0 < n) : ∃ j, j < n ∧ mxs r a n = r (a + j) := by
  have := maxI_mem (xs := tab n fun j => r (a + j)) (by intro z; have := congrArg List.length z; simp [tab] at this; omega)
  obtain ⟨j, hj, e⟩ := tab_mem this
  exact ⟨j, hj, e.symm⟩
theorem mxs_congr {r s : Nat → Int} {a n : Nat} (h : ∀ j, j < n → r (a + j) = s (a + j)) : mxs r a n = mxs s a n := by unfold mxs; rw [tab_congr h]
theorem mxs_const {r : Nat → Int} {a n : Nat} {c : Int} (hn : 0 < n) (h : ∀ j, j < n → r (a + j) = c) : mxs r a n = c := by
  obtain ⟨j, hj, e⟩ := mxs_mem (r := r) (a := a) hn
  rw [e, h j hj]
theorem mxs_eq {r : Nat → Int} {a n : Nat} {m : Int} (h1 : ∀ j, j < n → r (a + j) ≤ m) (h2 : ∃ j, j < n ∧ r (a + j) = m) : mxs r a n = m := by
  obtain ⟨j, hj, e⟩ := h2
  have := mxs_ge (r := r) (a := a) hj
  obtain ⟨k, hk, e2⟩ := mxs_mem (r := r) (a := a) (n := n) (by omega)
  have := h1 k hk
  omega
theorem cutD_tab {α : Type} {n a b : Nat} {f : Nat → α} (ha : a ≤ n) : cutD (tab n f) (some (a : Int)) (some (b : Int)) = tab (min n b - a) fun j => f (a + j) := by
  unfold cutD
  rw [tab_len, HT.sIx_nat, HT.sIx_nat, Nat.min_eq_left ha]
  apply List.ext_getElem?
  intro j
  by_cases q : j < min n b - a
  · rw [tab_get q, List.getElem?_take_of_lt (by omega), List.getElem?_drop, tab_get (by omega)]
  · rw [List.getElem?_eq_none (l := tab _ _) (by rw [tab_len]; omega), List.getElem?_eq_none (by rw [List.length_take]; omega)]
theorem upT {c f : Nat} (h : 2 ≤ f) : upTurns 0 (c : Int) (f : Int) = cl c f := by
  unfold upTurns cl
  have : (c : Int) - 0 + (f : Int) - 1 = ((c + f - 1 : Nat) : Int) := by omega
  rw [this, ← Int.natCast_ediv, Int.toNat_natCast]
theorem intsD_tab {n : Nat} {f : Nat → Int} : intsD (tab n fun i => .int (f i)) = some (tab n f) := by
  have := intsD_map (tab n f)
  rwa [tab_map] at this

/-- what a node is due, by the nodes beneath it -/
def due (f p : Nat) (g : Nat → Nat → Int) (l i : Nat) : Int := mxs (g (l - 1)) (i * f) (chN f p l i)
def bt (f p : Nat) (r : Nat → Int) : Nat → Nat → Int
  | 0, i => r i
  | l + 1, i => mxs (bt f p r l) (i * f) (chN f p (l + 1) i)
theorem bt_due (f p : Nat) (r : Nat → Int) (l i : Nat) : due f p (bt f p r) (l + 1) i = bt f p r (l + 1) i := rfl

def sp_told_above (ds : List D) (Q : D → Prop) : Prop := ∃ (c f : Nat) (r : Nat → Int), 2 ≤ f ∧ f ≤ 2 ^ 20 ∧ c ≤ 2 ^ 20 ∧ ds = [dRow c r, .int (f : Int)] ∧ Q (dRow (cl c f) fun i => mxs r (i * f) (min c (i * f + f) - i * f))
def w_told_above : DS := (sRet (eLc [2] (iRg3 (aCons (eC (.int 0)) (aCons (eN fLen (aCons (eVar 0) aNil)) (aCons (eVar 1) aNil)))) (gSet 2) tYesD (eN fMaxL (aCons (eSl (eVar 0) (pSome (eVar 2)) (pSome (e2 fAdd (eVar 2) (eVar 1)))) aNil))))
theorem m_told_above : ∀ ds Q, ds.length = 2 → sp_told_above ds Q → w_told_above (endsP false Q) (rho0 ds 1) := by
  rintro ds Q - ⟨c, f, r, hf, fb, cb, rfl, q⟩
  simp only [w_told_above, sSeq, sIf, sSet, sSetL, sAsg, sRet, sRetV, sRetL, sRetN, sNx, sBk, sCt, sApp, sExt, sExpr, sFor, sPar, sParL, sPut, gSet, gNilD, gConsD, gTupD, tBool, tNotD, tAndD, tOrD, tYesD, e1, e2, eN, eC, eVar, eIxO, aNil, aCons, eTup, eLst, eFlat, eIf, eChain, eAnd, eOr, eNot, eSl, pNone, pSome, eCall, eCallI, eCallS, iLst, iRg1, iRg2, iRg3, iZipD, iEnumD, sPut2, sSet2, eLc, wipeR, restR, fAdd_i, fAdd_l, fSub_i, fMul_i, fMul_l, fRep_l, fDiv_i, fMod_i, fPow_i, fNeg_i, fCmp_i, fLt, fLe, fGt, fGe, fLen_l, fLen_t, fInt_i, fInt_b, fAbs_i, fMax_i, fMax_l, fMin_i, fSum_l, fList_l, fList_t, fRev_l, fSl_l, fIx_l, fIx_t, fIs_n, fIsNot_n, fIs_b, fIsNot_b, isNone_n, isNone_i, isNone_l, isNone_t, isT_tt, isT_ii, isT_bi, isT_ll, fIsT, fEq, fNe, eqOk_i, eqOk_s, eqOk_l, eqOk_t, eqOk_n, eqv_nil, eqv_int, List.isEmpty_nil, List.isEmpty_cons, eq_self, atI_0, atI_1, atI_2, atI_3, atI_last, exists_eq', Int.cast_ofNat_Int, tab_len, endsP, endsI, rho0, List.set_cons_zero, List.set_cons_succ, List.getElem?_cons_zero, List.getElem?_cons_succ, Option.some.injEq, List.cons.injEq, exists_eq_left', exists_eq, and_assoc, exists_and_left, true_and, and_true, id_eq, List.map_cons, List.map_nil, List.replicate_succ, List.replicate_zero, List.cons_append, List.nil_append, List.length_cons, List.length_nil, PyData.bool.injEq, PyData.int.injEq, PyData.list.injEq, PyData.tuple.injEq, Bool.not_true, Bool.not_false, Bool.false_eq_true, if_true, if_false, ite_true, ite_false, decide_eq_true_eq, Nat.zero_add, Nat.zero_le, Nat.reduceAdd, Nat.reduceSub, Option.join, Option.bind_some, List.getElem?_nil]
  refine .inl ⟨by omega, by omega, by omega, by omega, by omega, by omega, ?_⟩
  rw [upT hf]
  have cc : cl c f ≤ 2 ^ 20 := by
    by_cases z : cl c f ≤ c
    · omega
    · have := (lt_cl (p := c) (w := f) (i := c) (by omega)).mp (by omega)
      have : c * 1 ≤ c * f := Nat.mul_le_mul_left _ (by omega)
      omega
  have hr : rngC 0 (f : Int) (cl c f) = tab (cl c f) fun i => .int ((i * f : Nat) : Int) := by
    unfold rngC
    exact tab_congr fun i _ => by rw [Int.zero_add, Int.natCast_mul]
  rw [hr]
  suffices h : ∀ F : D → D, (∀ i : Nat, F (.int ((i * f : Nat) : Int)) = .int (mxs r (i * f) (min c (i * f + f) - i * f))) → lcGo [2] (gSet 2) tYesD (eN fMaxL (aCons (eSl (eVar 0) (pSome (eVar 2)) (pSome (e2 fAdd (eVar 2) (eVar 1)))) aNil)) (tab (cl c f) fun i => .int ((i * f : Nat) : Int)) [] [some (dRow c r), some (.int (f : Int)), none] fun d x => Q d by
    refine h (fun d => match d with | .int z => .int (mxs r z.toNat (min c (z.toNat + f) - z.toNat)) | d => d) fun i => ?_
    simp only [Int.toNat_natCast]
  intro F hF
  refine lcGo_map F _ [] (by rw [List.length_nil, tab_len]; exact Nat.le_trans (by omega) (show 2 ^ 20 ≤ sizeLine by decide)) ?_ ?_
  · intro d hd K Fl hK
    obtain ⟨i, hi, rfl⟩ := tab_mem hd
    have hlt := (lt_cl (by omega)).mp hi
    simp only [sSeq, sIf, sSet, sSetL, sAsg, sRet, sRetV, sRetL, sRetN, sNx, sBk, sCt, sApp, sExt, sExpr, sFor, sPar, sParL, sPut, gSet, gNilD, gConsD, gTupD, tBool, tNotD, tAndD, tOrD, tYesD, e1, e2, eN, eC, eVar, eIxO, aNil, aCons, eTup, eLst, eFlat, eIf, eChain, eAnd, eOr, eNot, eSl, pNone, pSome, eCall, eCallI, eCallS, iLst, iRg1, iRg2, iRg3, iZipD, iEnumD, sPut2, sSet2, eLc, wipeR, restR, fAdd_i, fAdd_l, fSub_i, fMul_i, fMul_l, fRep_l, fDiv_i, fMod_i, fPow_i, fNeg_i, fCmp_i, fLt, fLe, fGt, fGe, fLen_l, fLen_t, fInt_i, fInt_b, fAbs_i, fMax_i, fMax_l, fMin_i, fSum_l, fList_l, fList_t, fRev_l, fSl_l, fIx_l, fIx_t, fIs_n, fIsNot_n, fIs_b, fIsNot_b, isNone_n, isNone_i, isNone_l, isNone_t, isT_tt, isT_ii, isT_bi, isT_ll, fIsT, fEq, fNe, eqOk_i, eqOk_s, eqOk_l, eqOk_t, eqOk_n, eqv_nil, eqv_int, List.isEmpty_nil, List.isEmpty_cons, eq_self, atI_0, atI_1, atI_2, atI_3, atI_last, exists_eq', Int.cast_ofNat_Int, tab_len, endsP, endsI, rho0, List.set_cons_zero, List.set_cons_succ, List.getElem?_cons_zero, List.getElem?_cons_succ, Option.some.injEq, List.cons.injEq, exists_eq_left', exists_eq, and_assoc, exists_and_left, true_and, and_true, id_eq, List.map_cons, List.map_nil, List.replicate_succ, List.replicate_zero, List.cons_append, List.nil_append, List.length_cons, List.length_nil, PyData.bool.injEq, PyData.int.injEq, PyData.list.injEq, PyData.tuple.injEq, Bool.not_true, Bool.not_false, Bool.false_eq_true, if_true, if_false, ite_true, ite_false, decide_eq_true_eq, Nat.zero_add, Nat.zero_le, Nat.reduceAdd, Nat.reduceSub, Option.join, Option.bind_some, List.getElem?_nil]
    rw [← Int.natCast_add, cutD_tab (by omega)]
    refine ⟨_, intsD_tab, ?_, ?_⟩
    · intro z
      have := congrArg List.length z
      rw [tab_len, List.length_nil] at this
      omega
    · have := hF i
      have h2 := hK [some (dRow c r), some (.int (f : Int)), some (.int ((i * f : Nat) : Int))] rfl
      rw [this] at h2
      exact h2
  · rw [List.nil_append, tab_map, tab_congr fun i _ => hF i]
    exact q

def Bd (n : Nat) (r : Nat → Int) : Prop := ∀ i, i < n → (r i).natAbs < 10 ^ 60
def BdT (f p : Nat) (g : Nat → Nat → Int) : Prop := ∀ l i, OnT f p l i → (g l i).natAbs < 10 ^ 60
theorem gd_row {n : Nat} {r : Nat → Int} (h : Bd n r) : gd 1 (dRow n r) = true := gd_list fun x hx => by
  obtain ⟨l, hl, rfl⟩ := tab_mem hx
  exact gd_int (h l hl)
theorem gd_tree {f p : Nat} {g : Nat → Nat → Int} (h : BdT f p g) : gd 2 (dT f p g) = true := gd_list fun x hx => by
  obtain ⟨l, hl, rfl⟩ := tab_mem hx
  exact gd_row fun i hi => h l i ⟨hl, hi⟩
theorem mxs_bd {r : Nat → Int} {a n : Nat} (h0 : 0 < n) (h : ∀ j, j < n → (r (a + j)).natAbs < 10 ^ 60) : (mxs r a n).natAbs < 10 ^ 60 := by
  obtain ⟨j, hj, e⟩ := mxs_mem (r := r) (a := a) h0
  rw [e]; exact h j hj
theorem bt_bd {f p : Nat} {r : Nat → Int} (hf : 2 ≤ f) (h : Bd p r) : BdT f p (bt f p r) := by
  intro l
  induction l with
  | zero => intro i hi; exact h i (by have := hi.2; rwa [cnt_zero] at this)
  | succ l ih => exact fun i hi => mxs_bd (ch_pos hf hi) fun j hj => ih _ (ch_lt hf hi hj)

def sp_built (ds : List D) (Q : D → Prop) : Prop := ∃ p f r, Shp f p ∧ Bd p r ∧ ds = [dRow p r, .int (f : Int)] ∧ Q (dT f p (bt f p r))
def w_built : DS := (sSeq (sIf (tBool (e2 fEq (eVar 0) (eLst aNil))) (sRet (eLst aNil)) sNx) (sSeq (sSetL 2 (eLst (aCons (eN fList (aCons (eVar 0) aNil)) aNil))) (sSeq (sWhile (tBool (e2 fGt (eN fLen (aCons (eIxO 2 (e1 fNeg (eC (.int 1)))) aNil)) (eC (.int 1)))) (sApp 2 (eCall 2 sp_told_above (aCons (eIxO 2 (e1 fNeg (eC (.int 1)))) (aCons (eVar 1) aNil))))) (sRet (eVar 2)))))
theorem dRow_above {f p l : Nat} {g : Nat → Nat → Int} (hf : 2 ≤ f) : dRow (cl (cnt f p l) f) (fun i => mxs (g l) (i * f) (min (cnt f p l) (i * f + f) - i * f)) = dRow (cnt f p (l + 1)) (due f p g (l + 1)) := by
  rw [← cnt_succ hf]; unfold due chN; rfl
theorem m_built : ∀ ds Q, ds.length = 2 → sp_built ds Q → w_built (endsP false Q) (rho0 ds 1) := by
  rintro ds Q - ⟨p, f, r, S, B, rfl, q⟩
  have hf := S.f2
  have fb := S.fb
  have pb := S.pb
  have h20 := S.ht20
  simp only [w_built, sSeq, sIf, sSet, sSetL, sAsg, sRet, sRetV, sRetL, sRetN, sNx, sBk, sCt, sApp, sExt, sExpr, sFor, sPar, sParL, sPut, gSet, gNilD, gConsD, gTupD, tBool, tNotD, tAndD, tOrD, tYesD, e1, e2, eN, eC, eVar, eIxO, aNil, aCons, eTup, eLst, eFlat, eIf, eChain, eAnd, eOr, eNot, eSl, pNone, pSome, eCall, eCallI, eCallS, iLst, iRg1, iRg2, iRg3, iZipD, iEnumD, sPut2, sSet2, eLc, wipeR, restR, fAdd_i, fAdd_l, fSub_i, fMul_i, fMul_l, fRep_l, fDiv_i, fMod_i, fPow_i, fNeg_i, fCmp_i, fLt, fLe, fGt, fGe, fLen_l, fLen_t, fInt_i, fInt_b, fAbs_i, fMax_i, fMax_l, fMin_i, fSum_l, fList_l, fList_t, fRev_l, fSl_l, fIx_l, fIx_t, fIs_n, fIsNot_n, fIs_b, fIsNot_b, isNone_n, isNone_i, isNone_l, isNone_t, isT_tt, isT_ii, isT_bi, isT_ll, fIsT, fEq, fNe, eqOk_i, eqOk_s, eqOk_l, eqOk_t, eqOk_n, eqv_nil, eqv_int, List.isEmpty_nil, List.isEmpty_cons, eq_self, atI_0, atI_1, atI_2, atI_3, atI_last, exists_eq', Int.cast_ofNat_Int, tab_len, endsP, endsI, rho0, List.set_cons_zero, List.set_cons_succ, List.getElem?_cons_zero, List.getElem?_cons_succ, Option.some.injEq, List.cons.injEq, exists_eq_left', exists_eq, and_assoc, exists_and_left, true_and, and_true, id_eq, List.map_cons, List.map_nil, List.replicate_succ, List.replicate_zero, List.cons_append, List.nil_append, List.length_cons, List.length_nil, PyData.bool.injEq, PyData.int.injEq, PyData.list.injEq, PyData.tuple.injEq, Bool.not_true, Bool.not_false, Bool.false_eq_true, if_true, if_false, ite_true, ite_false, decide_eq_true_eq, Nat.zero_add, Nat.zero_le, Nat.reduceAdd, Nat.reduceSub, Option.join, Option.bind_some, List.getElem?_nil]
  refine ⟨gd_shaped (by decide) (gd_row B), shaped_nil, ?_⟩
  by_cases hp : p = 0
  · subst hp
    rw [if_pos (by simp [tab])]
    simpa [dT, lvN, tab] using q
  rw [if_neg (by simp [tab, hp])]
  refine ⟨by decide, ?_⟩
  refine while_rule (fun n ρ => ∃ k, k + n = ht f p ∧ ρ = [some (dRow p r), some (.int f), some (.list (tab (k + 1) fun l => dRow (cnt f p l) (bt f p r l)))]) (ht f p) ⟨0, by omega, by simp [tab, cnt_zero, bt]⟩ ?_
  rintro n ρ ⟨k, hk, rfl⟩ nx hnx
  simp only [sSeq, sIf, sSet, sSetL, sAsg, sRet, sRetV, sRetL, sRetN, sNx, sBk, sCt, sApp, sExt, sExpr, sFor, sPar, sParL, sPut, gSet, gNilD, gConsD, gTupD, tBool, tNotD, tAndD, tOrD, tYesD, e1, e2, eN, eC, eVar, eIxO, aNil, aCons, eTup, eLst, eFlat, eIf, eChain, eAnd, eOr, eNot, eSl, pNone, pSome, eCall, eCallI, eCallS, iLst, iRg1, iRg2, iRg3, iZipD, iEnumD, sPut2, sSet2, eLc, wipeR, restR, fAdd_i, fAdd_l, fSub_i, fMul_i, fMul_l, fRep_l, fDiv_i, fMod_i, fPow_i, fNeg_i, fCmp_i, fLt, fLe, fGt, fGe, fLen_l, fLen_t, fInt_i, fInt_b, fAbs_i, fMax_i, fMax_l, fMin_i, fSum_l, fList_l, fList_t, fRev_l, fSl_l, fIx_l, fIx_t, fIs_n, fIsNot_n, fIs_b, fIsNot_b, isNone_n, isNone_i, isNone_l, isNone_t, isT_tt, isT_ii, isT_bi, isT_ll, fIsT, fEq, fNe, eqOk_i, eqOk_s, eqOk_l, eqOk_t, eqOk_n, eqv_nil, eqv_int, List.isEmpty_nil, List.isEmpty_cons, eq_self, atI_0, atI_1, atI_2, atI_3, atI_last, exists_eq', Int.cast_ofNat_Int, tab_len, endsP, endsI, rho0, List.set_cons_zero, List.set_cons_succ, List.getElem?_cons_zero, List.getElem?_cons_succ, Option.some.injEq, List.cons.injEq, exists_eq_left', exists_eq, and_assoc, exists_and_left, true_and, and_true, id_eq, List.map_cons, List.map_nil, List.replicate_succ, List.replicate_zero, List.cons_append, List.nil_append, List.length_cons, List.length_nil, PyData.bool.injEq, PyData.int.injEq, PyData.list.injEq, PyData.tuple.injEq, Bool.not_true, Bool.not_false, Bool.false_eq_true, if_true, if_false, ite_true, ite_false, decide_eq_true_eq, Nat.zero_add, Nat.zero_le, Nat.reduceAdd, Nat.reduceSub, Option.join, Option.bind_some, List.getElem?_nil]
  have hc : (1 : Int) < (cnt f p k : Int) ↔ k < ht f p := by rw [← lt_ht hf, ← cnt_gt1 (p := p) hf]; omega
  by_cases h : k < ht f p
  · rw [if_pos (hc.mpr h)]
    refine ⟨cnt f p k, f, bt f p r k, hf, fb, Nat.le_trans (cnt_le hf) pb, rfl, ?_⟩
    rw [dRow_above hf]
    refine ⟨Nat.lt_of_le_of_lt (show k + 1 ≤ 21 by omega) (by decide), hnx (n - 1) _ (by omega) ⟨k + 1, by omega, ?_⟩⟩
    rw [← tab_snoc (k + 1)]
    rfl
  · rw [if_neg (fun z => h (hc.mp z))]
    have : k = ht f p := by omega
    subst this
    rw [dT, lvN_pos (by omega)] at q
    exact q

def sp_pages_of (ds : List D) (Q : D → Prop) : Prop := ∃ f p g, BdT f p g ∧ ds = [dT f p g] ∧ Q (.int (p : Int))
def w_pages_of : DS := (sSeq (sIf (tBool (e2 fEq (eVar 0) (eLst aNil))) (sRet (eC (.int 0))) sNx) (sRet (eN fLen (aCons (e2 fIx (eVar 0) (eC (.int 0))) aNil))))
theorem dT_cons {f p : Nat} {g : Nat → Nat → Int} (hp : 0 < p) : dT f p g = .list (dRow p (g 0) :: tab (ht f p) fun l => dRow (cnt f p (l + 1)) (g (l + 1))) := by
  rw [dT, lvN_pos hp, tab, List.range_succ_eq_map, List.map_cons, cnt_zero, List.map_map]; rfl
theorem dT_nil {f : Nat} {g : Nat → Nat → Int} : dT f 0 g = .list [] := by simp [dT, lvN, tab]
theorem m_pages_of : ∀ ds Q, ds.length = 1 → sp_pages_of ds Q → w_pages_of (endsP false Q) (rho0 ds 0) := by
  rintro ds Q - ⟨f, p, g, B, rfl, q⟩
  have h := gd_shaped (by decide) (gd_tree B)
  by_cases hp : p = 0
  · subst hp
    rw [dT_nil] at h ⊢
    simp only [w_pages_of, sSeq, sIf, sSet, sSetL, sAsg, sRet, sRetV, sRetL, sRetN, sNx, sBk, sCt, sApp, sExt, sExpr, sFor, sPar, sParL, sPut, gSet, gNilD, gConsD, gTupD, tBool, tNotD, tAndD, tOrD, tYesD, e1, e2, eN, eC, eVar, eIxO, aNil, aCons, eTup, eLst, eFlat, eIf, eChain, eAnd, eOr, eNot, eSl, pNone, pSome, eCall, eCallI, eCallS, iLst, iRg1, iRg2, iRg3, iZipD, iEnumD, sPut2, sSet2, eLc, wipeR, restR, fAdd_i, fAdd_l, fSub_i, fMul_i, fMul_l, fRep_l, fDiv_i, fMod_i, fPow_i, fNeg_i, fCmp_i, fLt, fLe, fGt, fGe, fLen_l, fLen_t, fInt_i, fInt_b, fAbs_i, fMax_i, fMax_l, fMin_i, fSum_l, fList_l, fList_t, fRev_l, fSl_l, fIx_l, fIx_t, fIs_n, fIsNot_n, fIs_b, fIsNot_b, isNone_n, isNone_i, isNone_l, isNone_t, isT_tt, isT_ii, isT_bi, isT_ll, fIsT, fEq, fNe, eqOk_i, eqOk_s, eqOk_l, eqOk_t, eqOk_n, eqv_nil, eqv_int, List.isEmpty_nil, List.isEmpty_cons, eq_self, atI_0, atI_1, atI_2, atI_3, atI_last, exists_eq', Int.cast_ofNat_Int, tab_len, endsP, endsI, rho0, List.set_cons_zero, List.set_cons_succ, List.getElem?_cons_zero, List.getElem?_cons_succ, Option.some.injEq, List.cons.injEq, exists_eq_left', exists_eq, and_assoc, exists_and_left, true_and, and_true, id_eq, List.map_cons, List.map_nil, List.replicate_succ, List.replicate_zero, List.cons_append, List.nil_append, List.length_cons, List.length_nil, PyData.bool.injEq, PyData.int.injEq, PyData.list.injEq, PyData.tuple.injEq, Bool.not_true, Bool.not_false, Bool.false_eq_true, if_true, if_false, ite_true, ite_false, decide_eq_true_eq, Nat.zero_add, Nat.zero_le, Nat.reduceAdd, Nat.reduceSub, Option.join, Option.bind_some, List.getElem?_nil]
    exact ⟨h, shaped_nil, by simpa using q⟩
  · rw [dT_cons (by omega)] at h ⊢
    simp only [w_pages_of, sSeq, sIf, sSet, sSetL, sAsg, sRet, sRetV, sRetL, sRetN, sNx, sBk, sCt, sApp, sExt, sExpr, sFor, sPar, sParL, sPut, gSet, gNilD, gConsD, gTupD, tBool, tNotD, tAndD, tOrD, tYesD, e1, e2, eN, eC, eVar, eIxO, aNil, aCons, eTup, eLst, eFlat, eIf, eChain, eAnd, eOr, eNot, eSl, pNone, pSome, eCall, eCallI, eCallS, iLst, iRg1, iRg2, iRg3, iZipD, iEnumD, sPut2, sSet2, eLc, wipeR, restR, fAdd_i, fAdd_l, fSub_i, fMul_i, fMul_l, fRep_l, fDiv_i, fMod_i, fPow_i, fNeg_i, fCmp_i, fLt, fLe, fGt, fGe, fLen_l, fLen_t, fInt_i, fInt_b, fAbs_i, fMax_i, fMax_l, fMin_i, fSum_l, fList_l, fList_t, fRev_l, fSl_l, fIx_l, fIx_t, fIs_n, fIsNot_n, fIs_b, fIsNot_b, isNone_n, isNone_i, isNone_l, isNone_t, isT_tt, isT_ii, isT_bi, isT_ll, fIsT, fEq, fNe, eqOk_i, eqOk_s, eqOk_l, eqOk_t, eqOk_n, eqv_nil, eqv_int, List.isEmpty_nil, List.isEmpty_cons, eq_self, atI_0, atI_1, atI_2, atI_3, atI_last, exists_eq', Int.cast_ofNat_Int, tab_len, endsP, endsI, rho0, List.set_cons_zero, List.set_cons_succ, List.getElem?_cons_zero, List.getElem?_cons_succ, Option.some.injEq, List.cons.injEq, exists_eq_left', exists_eq, and_assoc, exists_and_left, true_and, and_true, id_eq, List.map_cons, List.map_nil, List.replicate_succ, List.replicate_zero, List.cons_append, List.nil_append, List.length_cons, List.length_nil, PyData.bool.injEq, PyData.int.injEq, PyData.list.injEq, PyData.tuple.injEq, Bool.not_true, Bool.not_false, Bool.false_eq_true, if_true, if_false, ite_true, ite_false, decide_eq_true_eq, Nat.zero_add, Nat.zero_le, Nat.reduceAdd, Nat.reduceSub, Option.join, Option.bind_some, List.getElem?_nil]
    exact ⟨h, shaped_nil, by simpa using q⟩

def sp_shape_of (ds : List D) (Q : D → Prop) : Prop := ∃ f p g, BdT f p g ∧ ds = [dT f p g, .int (f : Int)] ∧ Q (dSh p f)
def w_shape_of : DS := (sRet (eTup (aCons (eCall 1 sp_pages_of (aCons (eVar 0) aNil)) (aCons (eVar 1) aNil))))
theorem m_shape_of : ∀ ds Q, ds.length = 2 → sp_shape_of ds Q → w_shape_of (endsP false Q) (rho0 ds 0) := by
  rintro ds Q - ⟨f, p, g, B, rfl, q⟩
  simp only [w_shape_of, sSeq, sIf, sSet, sSetL, sAsg, sRet, sRetV, sRetL, sRetN, sNx, sBk, sCt, sApp, sExt, sExpr, sFor, sPar, sParL, sPut, gSet, gNilD, gConsD, gTupD, tBool, tNotD, tAndD, tOrD, tYesD, e1, e2, eN, eC, eVar, eIxO, aNil, aCons, eTup, eLst, eFlat, eIf, eChain, eAnd, eOr, eNot, eSl, pNone, pSome, eCall, eCallI, eCallS, iLst, iRg1, iRg2, iRg3, iZipD, iEnumD, sPut2, sSet2, eLc, wipeR, restR, fAdd_i, fAdd_l, fSub_i, fMul_i, fMul_l, fRep_l, fDiv_i, fMod_i, fPow_i, fNeg_i, fCmp_i, fLt, fLe, fGt, fGe, fLen_l, fLen_t, fInt_i, fInt_b, fAbs_i, fMax_i, fMax_l, fMin_i, fSum_l, fList_l, fList_t, fRev_l, fSl_l, fIx_l, fIx_t, fIs_n, fIsNot_n, fIs_b, fIsNot_b, isNone_n, isNone_i, isNone_l, isNone_t, isT_tt, isT_ii, isT_bi, isT_ll, fIsT, fEq, fNe, eqOk_i, eqOk_s, eqOk_l, eqOk_t, eqOk_n, eqv_nil, eqv_int, List.isEmpty_nil, List.isEmpty_cons, eq_self, atI_0, atI_1, atI_2, atI_3, atI_last, exists_eq', Int.cast_ofNat_Int, tab_len, endsP, endsI, rho0, List.set_cons_zero, List.set_cons_succ, List.getElem?_cons_zero, List.getElem?_cons_succ, Option.some.injEq, List.cons.injEq, exists_eq_left', exists_eq, and_assoc, exists_and_left, true_and, and_true, id_eq, List.map_cons, List.map_nil, List.replicate_succ, List.replicate_zero, List.cons_append, List.nil_append, List.length_cons, List.length_nil, PyData.bool.injEq, PyData.int.injEq, PyData.list.injEq, PyData.tuple.injEq, Bool.not_true, Bool.not_false, Bool.false_eq_true, if_true, if_false, ite_true, ite_false, decide_eq_true_eq, Nat.zero_add, Nat.zero_le, Nat.reduceAdd, Nat.reduceSub, Option.join, Option.bind_some, List.getElem?_nil]
  refine ⟨f, p, g, B, rfl, ?_⟩
  exact ⟨by decide, q⟩

def sp_tells (ds : List D) (Q : D → Prop) : Prop := ∃ f p g l i, Shp f p ∧ OnT f p l i ∧ ds = [dT f p g, dN l i] ∧ Q (.int (g l i))
def w_tells : DS := (sSeq (sIf (tOrD (tNotD (tBool (e1 (fIsT "tuple") (eVar 1)))) (tOrD (tBool (e2 fNe (eN fLen (aCons (eVar 1) aNil)) (eC (.int 2)))) (tOrD (tNotD (tBool (eCall 1 sp_is_whole (aCons (e2 fIx (eVar 1) (eC (.int 0))) aNil)))) (tNotD (tBool (eCall 1 sp_is_whole (aCons (e2 fIx (eVar 1) (eC (.int 1))) aNil))))))) sNever sNx) (sSeq (sIf (tOrD (tNotD (tBool (eChain fLe fLt (eC (.int 0)) (e2 fIx (eVar 1) (eC (.int 0))) (eN fLen (aCons (eVar 0) aNil))))) (tNotD (tBool (eChain fLe fLt (eC (.int 0)) (e2 fIx (eVar 1) (eC (.int 1))) (eN fLen (aCons (e2 fIx (eVar 0) (e2 fIx (eVar 1) (eC (.int 0)))) aNil)))))) sNever sNx) (sRet (e2 fIx (e2 fIx (eVar 0) (e2 fIx (eVar 1) (eC (.int 0)))) (e2 fIx (eVar 1) (eC (.int 1)))))))
theorem m_tells : ∀ ds Q, ds.length = 2 → sp_tells ds Q → w_tells (endsP false Q) (rho0 ds 0) := by
  rintro ds Q - ⟨f, p, g, l, i, S, h, rfl, q⟩
  have hs := h.sz S
  have hl := h.1
  have hi := h.2
  simp only [w_tells, dT, sSeq, sIf, sSet, sSetL, sAsg, sRet, sRetV, sRetL, sRetN, sNx, sBk, sCt, sApp, sExt, sExpr, sFor, sPar, sParL, sPut, gSet, gNilD, gConsD, gTupD, tBool, tNotD, tAndD, tOrD, tYesD, e1, e2, eN, eC, eVar, eIxO, aNil, aCons, eTup, eLst, eFlat, eIf, eChain, eAnd, eOr, eNot, eSl, pNone, pSome, eCall, eCallI, eCallS, iLst, iRg1, iRg2, iRg3, iZipD, iEnumD, sPut2, sSet2, eLc, wipeR, restR, fAdd_i, fAdd_l, fSub_i, fMul_i, fMul_l, fRep_l, fDiv_i, fMod_i, fPow_i, fNeg_i, fCmp_i, fLt, fLe, fGt, fGe, fLen_l, fLen_t, fInt_i, fInt_b, fAbs_i, fMax_i, fMax_l, fMin_i, fSum_l, fList_l, fList_t, fRev_l, fSl_l, fIx_l, fIx_t, fIs_n, fIsNot_n, fIs_b, fIsNot_b, isNone_n, isNone_i, isNone_l, isNone_t, isT_tt, isT_ii, isT_bi, isT_ll, fIsT, fEq, fNe, eqOk_i, eqOk_s, eqOk_l, eqOk_t, eqOk_n, eqv_nil, eqv_int, List.isEmpty_nil, List.isEmpty_cons, eq_self, atI_0, atI_1, atI_2, atI_3, atI_last, exists_eq', Int.cast_ofNat_Int, tab_len, endsP, endsI, rho0, List.set_cons_zero, List.set_cons_succ, List.getElem?_cons_zero, List.getElem?_cons_succ, Option.some.injEq, List.cons.injEq, exists_eq_left', exists_eq, and_assoc, exists_and_left, true_and, and_true, id_eq, List.map_cons, List.map_nil, List.replicate_succ, List.replicate_zero, List.cons_append, List.nil_append, List.length_cons, List.length_nil, PyData.bool.injEq, PyData.int.injEq, PyData.list.injEq, PyData.tuple.injEq, Bool.not_true, Bool.not_false, Bool.false_eq_true, if_true, if_false, ite_true, ite_false, decide_eq_true_eq, Nat.zero_add, Nat.zero_le, Nat.reduceAdd, Nat.reduceSub, Option.join, Option.bind_some, List.getElem?_nil]
  rw [if_neg (by decide)]
  refine ⟨_, rfl, ?_⟩
  simp only [sSeq, sIf, sSet, sSetL, sAsg, sRet, sRetV, sRetL, sRetN, sNx, sBk, sCt, sApp, sExt, sExpr, sFor, sPar, sParL, sPut, gSet, gNilD, gConsD, gTupD, tBool, tNotD, tAndD, tOrD, tYesD, e1, e2, eN, eC, eVar, eIxO, aNil, aCons, eTup, eLst, eFlat, eIf, eChain, eAnd, eOr, eNot, eSl, pNone, pSome, eCall, eCallI, eCallS, iLst, iRg1, iRg2, iRg3, iZipD, iEnumD, sPut2, sSet2, eLc, wipeR, restR, fAdd_i, fAdd_l, fSub_i, fMul_i, fMul_l, fRep_l, fDiv_i, fMod_i, fPow_i, fNeg_i, fCmp_i, fLt, fLe, fGt, fGe, fLen_l, fLen_t, fInt_i, fInt_b, fAbs_i, fMax_i, fMax_l, fMin_i, fSum_l, fList_l, fList_t, fRev_l, fSl_l, fIx_l, fIx_t, fIs_n, fIsNot_n, fIs_b, fIsNot_b, isNone_n, isNone_i, isNone_l, isNone_t, isT_tt, isT_ii, isT_bi, isT_ll, fIsT, fEq, fNe, eqOk_i, eqOk_s, eqOk_l, eqOk_t, eqOk_n, eqv_nil, eqv_int, List.isEmpty_nil, List.isEmpty_cons, eq_self, atI_0, atI_1, atI_2, atI_3, atI_last, exists_eq', Int.cast_ofNat_Int, tab_len, endsP, endsI, rho0, List.set_cons_zero, List.set_cons_succ, List.getElem?_cons_zero, List.getElem?_cons_succ, Option.some.injEq, List.cons.injEq, exists_eq_left', exists_eq, and_assoc, exists_and_left, true_and, and_true, id_eq, List.map_cons, List.map_nil, List.replicate_succ, List.replicate_zero, List.cons_append, List.nil_append, List.length_cons, List.length_nil, PyData.bool.injEq, PyData.int.injEq, PyData.list.injEq, PyData.tuple.injEq, Bool.not_true, Bool.not_false, Bool.false_eq_true, if_true, if_false, ite_true, ite_false, decide_eq_true_eq, Nat.zero_add, Nat.zero_le, Nat.reduceAdd, Nat.reduceSub, Option.join, Option.bind_some, List.getElem?_nil]
  refine ⟨_, rfl, ?_⟩
  simp only [sSeq, sIf, sSet, sSetL, sAsg, sRet, sRetV, sRetL, sRetN, sNx, sBk, sCt, sApp, sExt, sExpr, sFor, sPar, sParL, sPut, gSet, gNilD, gConsD, gTupD, tBool, tNotD, tAndD, tOrD, tYesD, e1, e2, eN, eC, eVar, eIxO, aNil, aCons, eTup, eLst, eFlat, eIf, eChain, eAnd, eOr, eNot, eSl, pNone, pSome, eCall, eCallI, eCallS, iLst, iRg1, iRg2, iRg3, iZipD, iEnumD, sPut2, sSet2, eLc, wipeR, restR, fAdd_i, fAdd_l, fSub_i, fMul_i, fMul_l, fRep_l, fDiv_i, fMod_i, fPow_i, fNeg_i, fCmp_i, fLt, fLe, fGt, fGe, fLen_l, fLen_t, fInt_i, fInt_b, fAbs_i, fMax_i, fMax_l, fMin_i, fSum_l, fList_l, fList_t, fRev_l, fSl_l, fIx_l, fIx_t, fIs_n, fIsNot_n, fIs_b, fIsNot_b, isNone_n, isNone_i, isNone_l, isNone_t, isT_tt, isT_ii, isT_bi, isT_ll, fIsT, fEq, fNe, eqOk_i, eqOk_s, eqOk_l, eqOk_t, eqOk_n, eqv_nil, eqv_int, List.isEmpty_nil, List.isEmpty_cons, eq_self, atI_0, atI_1, atI_2, atI_3, atI_last, exists_eq', Int.cast_ofNat_Int, tab_len, endsP, endsI, rho0, List.set_cons_zero, List.set_cons_succ, List.getElem?_cons_zero, List.getElem?_cons_succ, Option.some.injEq, List.cons.injEq, exists_eq_left', exists_eq, and_assoc, exists_and_left, true_and, and_true, id_eq, List.map_cons, List.map_nil, List.replicate_succ, List.replicate_zero, List.cons_append, List.nil_append, List.length_cons, List.length_nil, PyData.bool.injEq, PyData.int.injEq, PyData.list.injEq, PyData.tuple.injEq, Bool.not_true, Bool.not_false, Bool.false_eq_true, if_true, if_false, ite_true, ite_false, decide_eq_true_eq, Nat.zero_add, Nat.zero_le, Nat.reduceAdd, Nat.reduceSub, Option.join, Option.bind_some, List.getElem?_nil]
  have z1 : (0 : Int) ≤ (l : Int) := by omega
  have z2 : (0 : Int) ≤ (i : Int) := by omega
  have z3 : (l : Int) < (lvN f p : Int) := by omega
  have z4 : (i : Int) < (cnt f p l : Int) := by omega
  simp only [z1, z2, z3, z4, decide_true, atI_tab hl, atI_tab hi, sSeq, sIf, sSet, sSetL, sAsg, sRet, sRetV, sRetL, sRetN, sNx, sBk, sCt, sApp, sExt, sExpr, sFor, sPar, sParL, sPut, gSet, gNilD, gConsD, gTupD, tBool, tNotD, tAndD, tOrD, tYesD, e1, e2, eN, eC, eVar, eIxO, aNil, aCons, eTup, eLst, eFlat, eIf, eChain, eAnd, eOr, eNot, eSl, pNone, pSome, eCall, eCallI, eCallS, iLst, iRg1, iRg2, iRg3, iZipD, iEnumD, sPut2, sSet2, eLc, wipeR, restR, fAdd_i, fAdd_l, fSub_i, fMul_i, fMul_l, fRep_l, fDiv_i, fMod_i, fPow_i, fNeg_i, fCmp_i, fLt, fLe, fGt, fGe, fLen_l, fLen_t, fInt_i, fInt_b, fAbs_i, fMax_i, fMax_l, fMin_i, fSum_l, fList_l, fList_t, fRev_l, fSl_l, fIx_l, fIx_t, fIs_n, fIsNot_n, fIs_b, fIsNot_b, isNone_n, isNone_i, isNone_l, isNone_t, isT_tt, isT_ii, isT_bi, isT_ll, fIsT, fEq, fNe, eqOk_i, eqOk_s, eqOk_l, eqOk_t, eqOk_n, eqv_nil, eqv_int, List.isEmpty_nil, List.isEmpty_cons, eq_self, atI_0, atI_1, atI_2, atI_3, atI_last, exists_eq', Int.cast_ofNat_Int, tab_len, endsP, endsI, rho0, List.set_cons_zero, List.set_cons_succ, List.getElem?_cons_zero, List.getElem?_cons_succ, Option.some.injEq, List.cons.injEq, exists_eq_left', exists_eq, and_assoc, exists_and_left, true_and, and_true, id_eq, List.map_cons, List.map_nil, List.replicate_succ, List.replicate_zero, List.cons_append, List.nil_append, List.length_cons, List.length_nil, PyData.bool.injEq, PyData.int.injEq, PyData.list.injEq, PyData.tuple.injEq, Bool.not_true, Bool.not_false, Bool.false_eq_true, if_true, if_false, ite_true, ite_false, decide_eq_true_eq, Nat.zero_add, Nat.zero_le, Nat.reduceAdd, Nat.reduceSub, Option.join, Option.bind_some, List.getElem?_nil]
  exact q

def sp_greatest (ds : List D) (Q : D → Prop) : Prop := ∃ f p g, Shp f p ∧ BdT f p g ∧ ds = [dT f p g] ∧ Q (.int (if p = 0 then 0 else g (ht f p) 0))
def w_greatest : DS := (sSeq (sIf (tBool (e2 fEq (eVar 0) (eLst aNil))) (sRet (eC (.int 0))) sNx) (sRet (e2 fIx (e2 fIx (eVar 0) (e1 fNeg (eC (.int 1)))) (eC (.int 0)))))
theorem m_greatest : ∀ ds Q, ds.length = 1 → sp_greatest ds Q → w_greatest (endsP false Q) (rho0 ds 0) := by
  rintro ds Q - ⟨f, p, g, S, B, rfl, q⟩
  have h := gd_shaped (by decide) (gd_tree B)
  by_cases hp : p = 0
  · subst hp
    rw [dT_nil] at h ⊢
    simp only [w_greatest, sSeq, sIf, sSet, sSetL, sAsg, sRet, sRetV, sRetL, sRetN, sNx, sBk, sCt, sApp, sExt, sExpr, sFor, sPar, sParL, sPut, gSet, gNilD, gConsD, gTupD, tBool, tNotD, tAndD, tOrD, tYesD, e1, e2, eN, eC, eVar, eIxO, aNil, aCons, eTup, eLst, eFlat, eIf, eChain, eAnd, eOr, eNot, eSl, pNone, pSome, eCall, eCallI, eCallS, iLst, iRg1, iRg2, iRg3, iZipD, iEnumD, sPut2, sSet2, eLc, wipeR, restR, fAdd_i, fAdd_l, fSub_i, fMul_i, fMul_l, fRep_l, fDiv_i, fMod_i, fPow_i, fNeg_i, fCmp_i, fLt, fLe, fGt, fGe, fLen_l, fLen_t, fInt_i, fInt_b, fAbs_i, fMax_i, fMax_l, fMin_i, fSum_l, fList_l, fList_t, fRev_l, fSl_l, fIx_l, fIx_t, fIs_n, fIsNot_n, fIs_b, fIsNot_b, isNone_n, isNone_i, isNone_l, isNone_t, isT_tt, isT_ii, isT_bi, isT_ll, fIsT, fEq, fNe, eqOk_i, eqOk_s, eqOk_l, eqOk_t, eqOk_n, eqv_nil, eqv_int, List.isEmpty_nil, List.isEmpty_cons, eq_self, atI_0, atI_1, atI_2, atI_3, atI_last, exists_eq', Int.cast_ofNat_Int, tab_len, endsP, endsI, rho0, List.set_cons_zero, List.set_cons_succ, List.getElem?_cons_zero, List.getElem?_cons_succ, Option.some.injEq, List.cons.injEq, exists_eq_left', exists_eq, and_assoc, exists_and_left, true_and, and_true, id_eq, List.map_cons, List.map_nil, List.replicate_succ, List.replicate_zero, List.cons_append, List.nil_append, List.length_cons, List.length_nil, PyData.bool.injEq, PyData.int.injEq, PyData.list.injEq, PyData.tuple.injEq, Bool.not_true, Bool.not_false, Bool.false_eq_true, if_true, if_false, ite_true, ite_false, decide_eq_true_eq, Nat.zero_add, Nat.zero_le, Nat.reduceAdd, Nat.reduceSub, Option.join, Option.bind_some, List.getElem?_nil]
    exact ⟨h, shaped_nil, by simpa using q⟩
  · rw [dT, lvN_pos (by omega)] at h ⊢
    simp only [w_greatest, sSeq, sIf, sSet, sSetL, sAsg, sRet, sRetV, sRetL, sRetN, sNx, sBk, sCt, sApp, sExt, sExpr, sFor, sPar, sParL, sPut, gSet, gNilD, gConsD, gTupD, tBool, tNotD, tAndD, tOrD, tYesD, e1, e2, eN, eC, eVar, eIxO, aNil, aCons, eTup, eLst, eFlat, eIf, eChain, eAnd, eOr, eNot, eSl, pNone, pSome, eCall, eCallI, eCallS, iLst, iRg1, iRg2, iRg3, iZipD, iEnumD, sPut2, sSet2, eLc, wipeR, restR, fAdd_i, fAdd_l, fSub_i, fMul_i, fMul_l, fRep_l, fDiv_i, fMod_i, fPow_i, fNeg_i, fCmp_i, fLt, fLe, fGt, fGe, fLen_l, fLen_t, fInt_i, fInt_b, fAbs_i, fMax_i, fMax_l, fMin_i, fSum_l, fList_l, fList_t, fRev_l, fSl_l, fIx_l, fIx_t, fIs_n, fIsNot_n, fIs_b, fIsNot_b, isNone_n, isNone_i, isNone_l, isNone_t, isT_tt, isT_ii, isT_bi, isT_ll, fIsT, fEq, fNe, eqOk_i, eqOk_s, eqOk_l, eqOk_t, eqOk_n, eqv_nil, eqv_int, List.isEmpty_nil, List.isEmpty_cons, eq_self, atI_0, atI_1, atI_2, atI_3, atI_last, exists_eq', Int.cast_ofNat_Int, tab_len, endsP, endsI, rho0, List.set_cons_zero, List.set_cons_succ, List.getElem?_cons_zero, List.getElem?_cons_succ, Option.some.injEq, List.cons.injEq, exists_eq_left', exists_eq, and_assoc, exists_and_left, true_and, and_true, id_eq, List.map_cons, List.map_nil, List.replicate_succ, List.replicate_zero, List.cons_append, List.nil_append, List.length_cons, List.length_nil, PyData.bool.injEq, PyData.int.injEq, PyData.list.injEq, PyData.tuple.injEq, Bool.not_true, Bool.not_false, Bool.false_eq_true, if_true, if_false, ite_true, ite_false, decide_eq_true_eq, Nat.zero_add, Nat.zero_le, Nat.reduceAdd, Nat.reduceSub, Option.join, Option.bind_some, List.getElem?_nil]
    refine ⟨h, shaped_nil, ?_⟩
    rw [if_neg (by simp [tab])]
    have := cnt_pos (l := ht f p) S.f2 (show 0 < p by omega)
    simp only [show atI (tab (cnt f p (ht f p)) fun i => PyData.int (g (ht f p) i)) 0 = some (.int (g (ht f p) 0)) from atI_tab this, sSeq, sIf, sSet, sSetL, sAsg, sRet, sRetV, sRetL, sRetN, sNx, sBk, sCt, sApp, sExt, sExpr, sFor, sPar, sParL, sPut, gSet, gNilD, gConsD, gTupD, tBool, tNotD, tAndD, tOrD, tYesD, e1, e2, eN, eC, eVar, eIxO, aNil, aCons, eTup, eLst, eFlat, eIf, eChain, eAnd, eOr, eNot, eSl, pNone, pSome, eCall, eCallI, eCallS, iLst, iRg1, iRg2, iRg3, iZipD, iEnumD, sPut2, sSet2, eLc, wipeR, restR, fAdd_i, fAdd_l, fSub_i, fMul_i, fMul_l, fRep_l, fDiv_i, fMod_i, fPow_i, fNeg_i, fCmp_i, fLt, fLe, fGt, fGe, fLen_l, fLen_t, fInt_i, fInt_b, fAbs_i, fMax_i, fMax_l, fMin_i, fSum_l, fList_l, fList_t, fRev_l, fSl_l, fIx_l, fIx_t, fIs_n, fIsNot_n, fIs_b, fIsNot_b, isNone_n, isNone_i, isNone_l, isNone_t, isT_tt, isT_ii, isT_bi, isT_ll, fIsT, fEq, fNe, eqOk_i, eqOk_s, eqOk_l, eqOk_t, eqOk_n, eqv_nil, eqv_int, List.isEmpty_nil, List.isEmpty_cons, eq_self, atI_0, atI_1, atI_2, atI_3, atI_last, exists_eq', Int.cast_ofNat_Int, tab_len, endsP, endsI, rho0, List.set_cons_zero, List.set_cons_succ, List.getElem?_cons_zero, List.getElem?_cons_succ, Option.some.injEq, List.cons.injEq, exists_eq_left', exists_eq, and_assoc, exists_and_left, true_and, and_true, id_eq, List.map_cons, List.map_nil, List.replicate_succ, List.replicate_zero, List.cons_append, List.nil_append, List.length_cons, List.length_nil, PyData.bool.injEq, PyData.int.injEq, PyData.list.injEq, PyData.tuple.injEq, Bool.not_true, Bool.not_false, Bool.false_eq_true, if_true, if_false, ite_true, ite_false, decide_eq_true_eq, Nat.zero_add, Nat.zero_le, Nat.reduceAdd, Nat.reduceSub, Option.join, Option.bind_some, List.getElem?_nil]
    rwa [if_neg hp] at q
end DD

set_option Elab.async false
set_option linter.all false
set_option maxRecDepth 100000
set_option maxHeartbeats 4000000
/-! DM, part 4: trees that change, what is sought -/
namespace DD
open PySem PySem.Spec PyProof.Rows L2

def put (g : Nat → Nat → Int) (l i : Nat) (v : Int) : Nat → Nat → Int := fun a b => if a = l then (if b = i then v else g a b) else g a b
def rawT (f p : Nat) (g : Nat → Nat → Int) : List (List D) := tab (lvN f p) fun l => tab (cnt f p l) fun i => .int (g l i)
theorem dT_raw {f p : Nat} {g : Nat → Nat → Int} : dT f p g = .list ((rawT f p g).map .list) := by unfold dT rawT; rw [tab_map]
theorem rawT_len {f p : Nat} {g : Nat → Nat → Int} : (rawT f p g).length = lvN f p := tab_len _ _
theorem rawT_get {f p l : Nat} {g : Nat → Nat → Int} (h : l < lvN f p) : (rawT f p g)[l]? = some (tab (cnt f p l) fun i => .int (g l i)) := tab_get h
theorem rawT_put {f p l i : Nat} {g : Nat → Nat → Int} {v : Int} : ((rawT f p g).set l ((tab (cnt f p l) fun i => PyData.int (g l i)).set i (.int v))).map PyData.list = (rawT f p (put g l i v)).map .list := by
  congr 1
  unfold rawT
  rw [tab_set, tab_set]
  refine tab_congr fun a _ => ?_
  by_cases q : a = l
  · subst q
    rw [if_pos rfl]
    refine tab_congr fun b _ => ?_
    unfold put
    rw [if_pos rfl]
    split <;> rfl
  · rw [if_neg q]
    refine tab_congr fun b _ => ?_
    unfold put
    rw [if_neg q]
theorem dT_congr {f p : Nat} {g h : Nat → Nat → Int} (e : ∀ l i, OnT f p l i → g l i = h l i) : dT f p g = dT f p h := by
  unfold dT dRow
  exact congrArg _ (tab_congr fun l hl => congrArg _ (tab_congr fun i hi => by rw [e l i ⟨hl, hi⟩]))
theorem dT_inj {f p : Nat} {g h : Nat → Nat → Int} (e : dT f p g = dT f p h) : ∀ l i, OnT f p l i → g l i = h l i := fun l i q => by
  unfold dT dRow at e
  have h1 := tab_inj (PyData.list.inj e) l q.1
  have h2 := tab_inj (PyData.list.inj h1) i q.2
  exact PyData.int.inj h2
theorem due_congr {f p l i : Nat} {g h : Nat → Nat → Int} (hf : 2 ≤ f) (q : OnT f p (l + 1) i) (e : ∀ j, OnT f p l j → g l j = h l j) : due f p g (l + 1) i = due f p h (l + 1) i := by
  unfold due
  exact mxs_congr fun j hj => e _ (ch_lt hf q hj)
theorem due_bd {f p l i : Nat} {g : Nat → Nat → Int} (hf : 2 ≤ f) (B : BdT f p g) (q : OnT f p (l + 1) i) : (due f p g (l + 1) i).natAbs < 10 ^ 60 := mxs_bd (ch_pos hf q) fun j hj => B _ _ (ch_lt hf q hj)

theorem fIx_T {f p l : Nat} {g : Nat → Nat → Int} {Q : D → Prop} (h : l < lvN f p) : fIx (dT f p g) (.int (l : Int)) Q = Q (dRow (cnt f p l) (g l)) := by
  unfold dT; rw [fIx_l, atI_tab h]; simp
theorem fIx_R {n i : Nat} {r : Nat → Int} {Q : D → Prop} (h : i < n) : fIx (dRow n r) (.int (i : Int)) Q = Q (.int (r i)) := by
  unfold dRow; rw [fIx_l, atI_tab h]; simp

/-! ### done -/
abbrev dW (w : Nat × Nat × Int) : D := .tuple [.int (w.1 : Int), .int (w.2.1 : Int), .int w.2.2]
def doAll (g : Nat → Nat → Int) (ws : List (Nat × Nat × Int)) : Nat → Nat → Int := ws.foldl (fun g w => put g w.1 w.2.1 w.2.2) g
def sp_done (ds : List D) (Q : D → Prop) : Prop := ∃ f p g ws, Shp f p ∧ ds = [dT f p g, .list (ws.map dW)] ∧ (∀ w ∈ ws, OnT f p w.1 w.2.1) ∧ Q (dT f p (doAll g ws))
def w_done : DS := (sSeq (sSet2 2 3 (iLst (eVar 0))) (sSeq (sFor (iLst (eVar 1)) (gTupD 3 (gConsD (gSet 3) (gConsD (gSet 4) (gConsD (gSet 5) gNilD)))) (sSeq (sExpr (eCall 2 sp_tells (aCons (eVar 0) (aCons (eTup (aCons (eVar 3) (aCons (eVar 4) aNil))) aNil)))) (sPut2 2 (eVar 5) (eVar 3) (eVar 4)))) (sRet (eVar 2))))
theorem m_done : ∀ ds Q, ds.length = 2 → sp_done ds Q → w_done (endsP false Q) (rho0 ds 4) := by
  rintro ds Q - ⟨f, p, g, ws, S, rfl, hw, q⟩
  simp only [w_done, sSeq, sIf, sSet, sSetL, sAsg, sRet, sRetV, sRetL, sRetN, sNx, sBk, sCt, sApp, sExt, sExpr, sFor, sPar, sParL, sPut, gSet, gNilD, gConsD, gTupD, tBool, tNotD, tAndD, tOrD, tYesD, e1, e2, eN, eC, eVar, eIxO, aNil, aCons, eTup, eLst, eFlat, eIf, eChain, eAnd, eOr, eNot, eSl, pNone, pSome, eCall, eCallI, eCallS, iLst, iRg1, iRg2, iRg3, iZipD, iEnumD, sPut2, sSet2, eLc, wipeR, restR, fAdd_i, fAdd_l, fSub_i, fMul_i, fMul_l, fRep_l, fDiv_i, fMod_i, fPow_i, fNeg_i, fCmp_i, fLt, fLe, fGt, fGe, fLen_l, fLen_t, fInt_i, fInt_b, fAbs_i, fMax_i, fMax_l, fMin_i, fSum_l, fList_l, fList_t, fRev_l, fSl_l, fIx_l, fIx_t, fIs_n, fIsNot_n, fIs_b, fIsNot_b, isNone_n, isNone_i, isNone_l, isNone_t, isT_tt, isT_ii, isT_bi, isT_ll, fIsT, fEq, fNe, eqOk_i, eqOk_s, eqOk_l, eqOk_t, eqOk_n, eqv_nil, eqv_int, List.isEmpty_nil, List.isEmpty_cons, eq_self, atI_0, atI_1, atI_2, atI_3, atI_last, exists_eq', Int.cast_ofNat_Int, tab_len, endsP, endsI, rho0, List.set_cons_zero, List.set_cons_succ, List.getElem?_cons_zero, List.getElem?_cons_succ, Option.some.injEq, List.cons.injEq, exists_eq_left', exists_eq, and_assoc, exists_and_left, true_and, and_true, id_eq, List.map_cons, List.map_nil, List.replicate_succ, List.replicate_zero, List.cons_append, List.nil_append, List.length_cons, List.length_nil, PyData.bool.injEq, PyData.int.injEq, PyData.list.injEq, PyData.tuple.injEq, Bool.not_true, Bool.not_false, Bool.false_eq_true, if_true, if_false, ite_true, ite_false, decide_eq_true_eq, Nat.zero_add, Nat.zero_le, Nat.reduceAdd, Nat.reduceSub, Option.join, Option.bind_some, List.getElem?_nil]
  refine ⟨_, dT_raw, rawT f p g, rfl, ?_, ?_⟩
  · rw [rawT_len]
    have := S.ht20
    unfold lvN; split <;> omega
  refine forGo_on ws dW (fun pre ρ => ∃ x y z, ρ = [some (dT f p g), some (.list (ws.map dW)), some (dT f p (doAll g pre)), x, y, z]) ⟨none, none, none, by rw [← dT_raw]; rfl⟩ ?_ ?_
  · rintro ρ ⟨x, y, z, rfl⟩
    simp only [sSeq, sIf, sSet, sSetL, sAsg, sRet, sRetV, sRetL, sRetN, sNx, sBk, sCt, sApp, sExt, sExpr, sFor, sPar, sParL, sPut, gSet, gNilD, gConsD, gTupD, tBool, tNotD, tAndD, tOrD, tYesD, e1, e2, eN, eC, eVar, eIxO, aNil, aCons, eTup, eLst, eFlat, eIf, eChain, eAnd, eOr, eNot, eSl, pNone, pSome, eCall, eCallI, eCallS, iLst, iRg1, iRg2, iRg3, iZipD, iEnumD, sPut2, sSet2, eLc, wipeR, restR, fAdd_i, fAdd_l, fSub_i, fMul_i, fMul_l, fRep_l, fDiv_i, fMod_i, fPow_i, fNeg_i, fCmp_i, fLt, fLe, fGt, fGe, fLen_l, fLen_t, fInt_i, fInt_b, fAbs_i, fMax_i, fMax_l, fMin_i, fSum_l, fList_l, fList_t, fRev_l, fSl_l, fIx_l, fIx_t, fIs_n, fIsNot_n, fIs_b, fIsNot_b, isNone_n, isNone_i, isNone_l, isNone_t, isT_tt, isT_ii, isT_bi, isT_ll, fIsT, fEq, fNe, eqOk_i, eqOk_s, eqOk_l, eqOk_t, eqOk_n, eqv_nil, eqv_int, List.isEmpty_nil, List.isEmpty_cons, eq_self, atI_0, atI_1, atI_2, atI_3, atI_last, exists_eq', Int.cast_ofNat_Int, tab_len, endsP, endsI, rho0, List.set_cons_zero, List.set_cons_succ, List.getElem?_cons_zero, List.getElem?_cons_succ, Option.some.injEq, List.cons.injEq, exists_eq_left', exists_eq, and_assoc, exists_and_left, true_and, and_true, id_eq, List.map_cons, List.map_nil, List.replicate_succ, List.replicate_zero, List.cons_append, List.nil_append, List.length_cons, List.length_nil, PyData.bool.injEq, PyData.int.injEq, PyData.list.injEq, PyData.tuple.injEq, Bool.not_true, Bool.not_false, Bool.false_eq_true, if_true, if_false, ite_true, ite_false, decide_eq_true_eq, Nat.zero_add, Nat.zero_le, Nat.reduceAdd, Nat.reduceSub, Option.join, Option.bind_some, List.getElem?_nil]
    exact q
  · rintro pre w post hws ρ ⟨x, y, z, rfl⟩ nx hnx
    have hon := hw w (by rw [hws]; simp)
    simp only [sSeq, sIf, sSet, sSetL, sAsg, sRet, sRetV, sRetL, sRetN, sNx, sBk, sCt, sApp, sExt, sExpr, sFor, sPar, sParL, sPut, gSet, gNilD, gConsD, gTupD, tBool, tNotD, tAndD, tOrD, tYesD, e1, e2, eN, eC, eVar, eIxO, aNil, aCons, eTup, eLst, eFlat, eIf, eChain, eAnd, eOr, eNot, eSl, pNone, pSome, eCall, eCallI, eCallS, iLst, iRg1, iRg2, iRg3, iZipD, iEnumD, sPut2, sSet2, eLc, wipeR, restR, fAdd_i, fAdd_l, fSub_i, fMul_i, fMul_l, fRep_l, fDiv_i, fMod_i, fPow_i, fNeg_i, fCmp_i, fLt, fLe, fGt, fGe, fLen_l, fLen_t, fInt_i, fInt_b, fAbs_i, fMax_i, fMax_l, fMin_i, fSum_l, fList_l, fList_t, fRev_l, fSl_l, fIx_l, fIx_t, fIs_n, fIsNot_n, fIs_b, fIsNot_b, isNone_n, isNone_i, isNone_l, isNone_t, isT_tt, isT_ii, isT_bi, isT_ll, fIsT, fEq, fNe, eqOk_i, eqOk_s, eqOk_l, eqOk_t, eqOk_n, eqv_nil, eqv_int, List.isEmpty_nil, List.isEmpty_cons, eq_self, atI_0, atI_1, atI_2, atI_3, atI_last, exists_eq', Int.cast_ofNat_Int, tab_len, endsP, endsI, rho0, List.set_cons_zero, List.set_cons_succ, List.getElem?_cons_zero, List.getElem?_cons_succ, Option.some.injEq, List.cons.injEq, exists_eq_left', exists_eq, and_assoc, exists_and_left, true_and, and_true, id_eq, List.map_cons, List.map_nil, List.replicate_succ, List.replicate_zero, List.cons_append, List.nil_append, List.length_cons, List.length_nil, PyData.bool.injEq, PyData.int.injEq, PyData.list.injEq, PyData.tuple.injEq, Bool.not_true, Bool.not_false, Bool.false_eq_true, if_true, if_false, ite_true, ite_false, decide_eq_true_eq, Nat.zero_add, Nat.zero_le, Nat.reduceAdd, Nat.reduceSub, Option.join, Option.bind_some, List.getElem?_nil]
    refine ⟨by decide, f, p, g, w.1, w.2.1, S, hon, rfl, ?_⟩
    simp only [sSeq, sIf, sSet, sSetL, sAsg, sRet, sRetV, sRetL, sRetN, sNx, sBk, sCt, sApp, sExt, sExpr, sFor, sPar, sParL, sPut, gSet, gNilD, gConsD, gTupD, tBool, tNotD, tAndD, tOrD, tYesD, e1, e2, eN, eC, eVar, eIxO, aNil, aCons, eTup, eLst, eFlat, eIf, eChain, eAnd, eOr, eNot, eSl, pNone, pSome, eCall, eCallI, eCallS, iLst, iRg1, iRg2, iRg3, iZipD, iEnumD, sPut2, sSet2, eLc, wipeR, restR, fAdd_i, fAdd_l, fSub_i, fMul_i, fMul_l, fRep_l, fDiv_i, fMod_i, fPow_i, fNeg_i, fCmp_i, fLt, fLe, fGt, fGe, fLen_l, fLen_t, fInt_i, fInt_b, fAbs_i, fMax_i, fMax_l, fMin_i, fSum_l, fList_l, fList_t, fRev_l, fSl_l, fIx_l, fIx_t, fIs_n, fIsNot_n, fIs_b, fIsNot_b, isNone_n, isNone_i, isNone_l, isNone_t, isT_tt, isT_ii, isT_bi, isT_ll, fIsT, fEq, fNe, eqOk_i, eqOk_s, eqOk_l, eqOk_t, eqOk_n, eqv_nil, eqv_int, List.isEmpty_nil, List.isEmpty_cons, eq_self, atI_0, atI_1, atI_2, atI_3, atI_last, exists_eq', Int.cast_ofNat_Int, tab_len, endsP, endsI, rho0, List.set_cons_zero, List.set_cons_succ, List.getElem?_cons_zero, List.getElem?_cons_succ, Option.some.injEq, List.cons.injEq, exists_eq_left', exists_eq, and_assoc, exists_and_left, true_and, and_true, id_eq, List.map_cons, List.map_nil, List.replicate_succ, List.replicate_zero, List.cons_append, List.nil_append, List.length_cons, List.length_nil, PyData.bool.injEq, PyData.int.injEq, PyData.list.injEq, PyData.tuple.injEq, Bool.not_true, Bool.not_false, Bool.false_eq_true, if_true, if_false, ite_true, ite_false, decide_eq_true_eq, Nat.zero_add, Nat.zero_le, Nat.reduceAdd, Nat.reduceSub, Option.join, Option.bind_some, List.getElem?_nil]
    refine ⟨rawT f p (doAll g pre), dT_raw, w.1, ixN_nat (by rw [rawT_len]; exact hon.1), _, rawT_get hon.1, dT_raw, w.2.1, ixN_nat (by rw [tab_len]; exact hon.2), ?_⟩
    rw [rawT_put, ← dT_raw]
    have e : doAll g (pre ++ [w]) = put (doAll g pre) w.1 w.2.1 w.2.2 := by unfold doAll; rw [List.foldl_append]; rfl
    rw [← e]
    exact hnx _ ⟨_, _, _, rfl⟩

/-! ### is_safe -/
def SafeT (f p : Nat) (g : Nat → Nat → Int) : Prop := ∀ l i, OnT f p (l + 1) i → due f p g (l + 1) i ≤ g (l + 1) i
def sp_is_safe (ds : List D) (Q : D → Prop) : Prop := ∃ f p g, Shp f p ∧ ds = [dT f p g, .int (f : Int)] ∧ (SafeT f p g → Q (.bool true)) ∧ (¬ SafeT f p g → Q (.bool false))
def w_is_safe : DS := (sSeq (sFor (iRg2 (aCons (eC (.int 1)) (aCons (eN fLen (aCons (eVar 0) aNil)) aNil))) (gSet 2) (sFor (iZipD (aCons (e2 fIx (eVar 0) (eVar 2)) (aCons (eCall 2 sp_told_above (aCons (e2 fIx (eVar 0) (e2 fSub (eVar 2) (eC (.int 1)))) (aCons (eVar 1) aNil))) aNil))) (gTupD 2 (gConsD (gSet 3) (gConsD (gSet 4) gNilD))) (sIf (tBool (e2 fLt (eVar 3) (eVar 4))) (sRet (eC (.bool false))) sNx))) (sRet (eC (.bool true))))
theorem zipD_tab {n : Nat} {F G : Nat → D} : zipD (tab n F) (tab n G) = tab n fun i => .tuple [F i, G i] := by
  have key : ∀ js : List Nat, zipD (js.map F) (js.map G) = js.map fun i => .tuple [F i, G i] := by
    intro js
    induction js with
    | nil => rfl
    | cons j js ih => rw [List.map_cons, List.map_cons, zipD, ih]; rfl
  exact key _
theorem m_is_safe : ∀ ds Q, ds.length = 2 → sp_is_safe ds Q → w_is_safe (endsP false Q) (rho0 ds 3) := by
  rintro ds Q - ⟨f, p, g, S, rfl, q1, q2⟩
  have h20 := S.ht20
  have hN : lvN f p ≤ 21 := by unfold lvN; split <;> omega
  simp only [w_is_safe, dT, sSeq, sIf, sSet, sSetL, sAsg, sRet, sRetV, sRetL, sRetN, sNx, sBk, sCt, sApp, sExt, sExpr, sFor, sPar, sParL, sPut, gSet, gNilD, gConsD, gTupD, tBool, tNotD, tAndD, tOrD, tYesD, e1, e2, eN, eC, eVar, eIxO, aNil, aCons, eTup, eLst, eFlat, eIf, eChain, eAnd, eOr, eNot, eSl, pNone, pSome, eCall, eCallI, eCallS, iLst, iRg1, iRg2, iRg3, iZipD, iEnumD, sPut2, sSet2, eLc, wipeR, restR, fAdd_i, fAdd_l, fSub_i, fMul_i, fMul_l, fRep_l, fDiv_i, fMod_i, fPow_i, fNeg_i, fCmp_i, fLt, fLe, fGt, fGe, fLen_l, fLen_t, fInt_i, fInt_b, fAbs_i, fMax_i, fMax_l, fMin_i, fSum_l, fList_l, fList_t, fRev_l, fSl_l, fIx_l, fIx_t, fIs_n, fIsNot_n, fIs_b, fIsNot_b, isNone_n, isNone_i, isNone_l, isNone_t, isT_tt, isT_ii, isT_bi, isT_ll, fIsT, fEq, fNe, eqOk_i, eqOk_s, eqOk_l, eqOk_t, eqOk_n, eqv_nil, eqv_int, List.isEmpty_nil, List.isEmpty_cons, eq_self, atI_0, atI_1, atI_2, atI_3, atI_last, exists_eq', Int.cast_ofNat_Int, tab_len, endsP, endsI, rho0, List.set_cons_zero, List.set_cons_succ, List.getElem?_cons_zero, List.getElem?_cons_succ, Option.some.injEq, List.cons.injEq, exists_eq_left', exists_eq, and_assoc, exists_and_left, true_and, and_true, id_eq, List.map_cons, List.map_nil, List.replicate_succ, List.replicate_zero, List.cons_append, List.nil_append, List.length_cons, List.length_nil, PyData.bool.injEq, PyData.int.injEq, PyData.list.injEq, PyData.tuple.injEq, Bool.not_true, Bool.not_false, Bool.false_eq_true, if_true, if_false, ite_true, ite_false, decide_eq_true_eq, Nat.zero_add, Nat.zero_le, Nat.reduceAdd, Nat.reduceSub, Option.join, Option.bind_some, List.getElem?_nil]
  refine ⟨by omega, by omega, by omega, by omega, ?_⟩
  have e : rngD 1 ((lvN f p : Int) - 1).toNat = tab (lvN f p - 1) fun i => .int ((i + 1 : Nat) : Int) := by
    unfold rngD
    rw [show ((lvN f p : Int) - 1).toNat = lvN f p - 1 by omega]
    exact tab_congr fun i _ => by rw [show (1 : Int) + (i : Nat) = ((i + 1 : Nat) : Int) by omega]
  rw [e]
  refine forGo_tab _ _ (fun n ρ => (∀ l i, l < n → OnT f p (l + 1) i → due f p g (l + 1) i ≤ g (l + 1) i) ∧ ∃ x y z, ρ = [some (dT f p g), some (.int f), x, y, z]) ⟨by omega, none, none, none, rfl⟩ ?_ ?_
  · rintro ρ ⟨hs, x, y, z, rfl⟩
    simp only [sSeq, sIf, sSet, sSetL, sAsg, sRet, sRetV, sRetL, sRetN, sNx, sBk, sCt, sApp, sExt, sExpr, sFor, sPar, sParL, sPut, gSet, gNilD, gConsD, gTupD, tBool, tNotD, tAndD, tOrD, tYesD, e1, e2, eN, eC, eVar, eIxO, aNil, aCons, eTup, eLst, eFlat, eIf, eChain, eAnd, eOr, eNot, eSl, pNone, pSome, eCall, eCallI, eCallS, iLst, iRg1, iRg2, iRg3, iZipD, iEnumD, sPut2, sSet2, eLc, wipeR, restR, fAdd_i, fAdd_l, fSub_i, fMul_i, fMul_l, fRep_l, fDiv_i, fMod_i, fPow_i, fNeg_i, fCmp_i, fLt, fLe, fGt, fGe, fLen_l, fLen_t, fInt_i, fInt_b, fAbs_i, fMax_i, fMax_l, fMin_i, fSum_l, fList_l, fList_t, fRev_l, fSl_l, fIx_l, fIx_t, fIs_n, fIsNot_n, fIs_b, fIsNot_b, isNone_n, isNone_i, isNone_l, isNone_t, isT_tt, isT_ii, isT_bi, isT_ll, fIsT, fEq, fNe, eqOk_i, eqOk_s, eqOk_l, eqOk_t, eqOk_n, eqv_nil, eqv_int, List.isEmpty_nil, List.isEmpty_cons, eq_self, atI_0, atI_1, atI_2, atI_3, atI_last, exists_eq', Int.cast_ofNat_Int, tab_len, endsP, endsI, rho0, List.set_cons_zero, List.set_cons_succ, List.getElem?_cons_zero, List.getElem?_cons_succ, Option.some.injEq, List.cons.injEq, exists_eq_left', exists_eq, and_assoc, exists_and_left, true_and, and_true, id_eq, List.map_cons, List.map_nil, List.replicate_succ, List.replicate_zero, List.cons_append, List.nil_append, List.length_cons, List.length_nil, PyData.bool.injEq, PyData.int.injEq, PyData.list.injEq, PyData.tuple.injEq, Bool.not_true, Bool.not_false, Bool.false_eq_true, if_true, if_false, ite_true, ite_false, decide_eq_true_eq, Nat.zero_add, Nat.zero_le, Nat.reduceAdd, Nat.reduceSub, Option.join, Option.bind_some, List.getElem?_nil]
    exact q1 fun l i h => hs l i (by have := h.1; omega) h
  · rintro n hn ρ ⟨hs, x, y, z, rfl⟩ nx hnx
    simp only [sSeq, sIf, sSet, sSetL, sAsg, sRet, sRetV, sRetL, sRetN, sNx, sBk, sCt, sApp, sExt, sExpr, sFor, sPar, sParL, sPut, gSet, gNilD, gConsD, gTupD, tBool, tNotD, tAndD, tOrD, tYesD, e1, e2, eN, eC, eVar, eIxO, aNil, aCons, eTup, eLst, eFlat, eIf, eChain, eAnd, eOr, eNot, eSl, pNone, pSome, eCall, eCallI, eCallS, iLst, iRg1, iRg2, iRg3, iZipD, iEnumD, sPut2, sSet2, eLc, wipeR, restR, fAdd_i, fAdd_l, fSub_i, fMul_i, fMul_l, fRep_l, fDiv_i, fMod_i, fPow_i, fNeg_i, fCmp_i, fLt, fLe, fGt, fGe, fLen_l, fLen_t, fInt_i, fInt_b, fAbs_i, fMax_i, fMax_l, fMin_i, fSum_l, fList_l, fList_t, fRev_l, fSl_l, fIx_l, fIx_t, fIs_n, fIsNot_n, fIs_b, fIsNot_b, isNone_n, isNone_i, isNone_l, isNone_t, isT_tt, isT_ii, isT_bi, isT_ll, fIsT, fEq, fNe, eqOk_i, eqOk_s, eqOk_l, eqOk_t, eqOk_n, eqv_nil, eqv_int, List.isEmpty_nil, List.isEmpty_cons, eq_self, atI_0, atI_1, atI_2, atI_3, atI_last, exists_eq', Int.cast_ofNat_Int, tab_len, endsP, endsI, rho0, List.set_cons_zero, List.set_cons_succ, List.getElem?_cons_zero, List.getElem?_cons_succ, Option.some.injEq, List.cons.injEq, exists_eq_left', exists_eq, and_assoc, exists_and_left, true_and, and_true, id_eq, List.map_cons, List.map_nil, List.replicate_succ, List.replicate_zero, List.cons_append, List.nil_append, List.length_cons, List.length_nil, PyData.bool.injEq, PyData.int.injEq, PyData.list.injEq, PyData.tuple.injEq, Bool.not_true, Bool.not_false, Bool.false_eq_true, if_true, if_false, ite_true, ite_false, decide_eq_true_eq, Nat.zero_add, Nat.zero_le, Nat.reduceAdd, Nat.reduceSub, Option.join, Option.bind_some, List.getElem?_nil, dT]
    have hl : n + 1 < lvN f p := by omega
    have z1 : ((n + 1 : Nat) : Int) - 1 = (n : Int) := by omega
    simp only [z1, atI_tab hl, atI_tab (lvN_down hl), sSeq, sIf, sSet, sSetL, sAsg, sRet, sRetV, sRetL, sRetN, sNx, sBk, sCt, sApp, sExt, sExpr, sFor, sPar, sParL, sPut, gSet, gNilD, gConsD, gTupD, tBool, tNotD, tAndD, tOrD, tYesD, e1, e2, eN, eC, eVar, eIxO, aNil, aCons, eTup, eLst, eFlat, eIf, eChain, eAnd, eOr, eNot, eSl, pNone, pSome, eCall, eCallI, eCallS, iLst, iRg1, iRg2, iRg3, iZipD, iEnumD, sPut2, sSet2, eLc, wipeR, restR, fAdd_i, fAdd_l, fSub_i, fMul_i, fMul_l, fRep_l, fDiv_i, fMod_i, fPow_i, fNeg_i, fCmp_i, fLt, fLe, fGt, fGe, fLen_l, fLen_t, fInt_i, fInt_b, fAbs_i, fMax_i, fMax_l, fMin_i, fSum_l, fList_l, fList_t, fRev_l, fSl_l, fIx_l, fIx_t, fIs_n, fIsNot_n, fIs_b, fIsNot_b, isNone_n, isNone_i, isNone_l, isNone_t, isT_tt, isT_ii, isT_bi, isT_ll, fIsT, fEq, fNe, eqOk_i, eqOk_s, eqOk_l, eqOk_t, eqOk_n, eqv_nil, eqv_int, List.isEmpty_nil, List.isEmpty_cons, eq_self, atI_0, atI_1, atI_2, atI_3, atI_last, exists_eq', Int.cast_ofNat_Int, tab_len, endsP, endsI, rho0, List.set_cons_zero, List.set_cons_succ, List.getElem?_cons_zero, List.getElem?_cons_succ, Option.some.injEq, List.cons.injEq, exists_eq_left', exists_eq, and_assoc, exists_and_left, true_and, and_true, id_eq, List.map_cons, List.map_nil, List.replicate_succ, List.replicate_zero, List.cons_append, List.nil_append, List.length_cons, List.length_nil, PyData.bool.injEq, PyData.int.injEq, PyData.list.injEq, PyData.tuple.injEq, Bool.not_true, Bool.not_false, Bool.false_eq_true, if_true, if_false, ite_true, ite_false, decide_eq_true_eq, Nat.zero_add, Nat.zero_le, Nat.reduceAdd, Nat.reduceSub, Option.join, Option.bind_some, List.getElem?_nil]
    refine ⟨cnt f p n, f, g n, S.f2, S.fb, Nat.le_trans (cnt_le S.f2) S.pb, rfl, ?_⟩
    rw [dRow_above S.f2]
    simp only [sSeq, sIf, sSet, sSetL, sAsg, sRet, sRetV, sRetL, sRetN, sNx, sBk, sCt, sApp, sExt, sExpr, sFor, sPar, sParL, sPut, gSet, gNilD, gConsD, gTupD, tBool, tNotD, tAndD, tOrD, tYesD, e1, e2, eN, eC, eVar, eIxO, aNil, aCons, eTup, eLst, eFlat, eIf, eChain, eAnd, eOr, eNot, eSl, pNone, pSome, eCall, eCallI, eCallS, iLst, iRg1, iRg2, iRg3, iZipD, iEnumD, sPut2, sSet2, eLc, wipeR, restR, fAdd_i, fAdd_l, fSub_i, fMul_i, fMul_l, fRep_l, fDiv_i, fMod_i, fPow_i, fNeg_i, fCmp_i, fLt, fLe, fGt, fGe, fLen_l, fLen_t, fInt_i, fInt_b, fAbs_i, fMax_i, fMax_l, fMin_i, fSum_l, fList_l, fList_t, fRev_l, fSl_l, fIx_l, fIx_t, fIs_n, fIsNot_n, fIs_b, fIsNot_b, isNone_n, isNone_i, isNone_l, isNone_t, isT_tt, isT_ii, isT_bi, isT_ll, fIsT, fEq, fNe, eqOk_i, eqOk_s, eqOk_l, eqOk_t, eqOk_n, eqv_nil, eqv_int, List.isEmpty_nil, List.isEmpty_cons, eq_self, atI_0, atI_1, atI_2, atI_3, atI_last, exists_eq', Int.cast_ofNat_Int, tab_len, endsP, endsI, rho0, List.set_cons_zero, List.set_cons_succ, List.getElem?_cons_zero, List.getElem?_cons_succ, Option.some.injEq, List.cons.injEq, exists_eq_left', exists_eq, and_assoc, exists_and_left, true_and, and_true, id_eq, List.map_cons, List.map_nil, List.replicate_succ, List.replicate_zero, List.cons_append, List.nil_append, List.length_cons, List.length_nil, PyData.bool.injEq, PyData.int.injEq, PyData.list.injEq, PyData.tuple.injEq, Bool.not_true, Bool.not_false, Bool.false_eq_true, if_true, if_false, ite_true, ite_false, decide_eq_true_eq, Nat.zero_add, Nat.zero_le, Nat.reduceAdd, Nat.reduceSub, Option.join, Option.bind_some, List.getElem?_nil]
    rw [zipD_tab]
    refine forGo_tab _ _ (fun m ρ => (∀ i, i < m → due f p g (n + 1) i ≤ g (n + 1) i) ∧ ∃ y z, ρ = [some (dT f p g), some (.int f), some (.int ((n + 1 : Nat) : Int)), y, z]) ⟨by omega, _, _, rfl⟩ ?_ ?_
    · rintro ρ ⟨hs2, y, z, rfl⟩
      refine hnx _ ⟨fun l i hl2 h => ?_, _, _, _, rfl⟩
      by_cases c : l = n
      · subst c; exact hs2 i h.2
      · exact hs l i (by omega) h
    · rintro m hm ρ ⟨hs2, y, z, rfl⟩ nx2 hnx2
      simp only [sSeq, sIf, sSet, sSetL, sAsg, sRet, sRetV, sRetL, sRetN, sNx, sBk, sCt, sApp, sExt, sExpr, sFor, sPar, sParL, sPut, gSet, gNilD, gConsD, gTupD, tBool, tNotD, tAndD, tOrD, tYesD, e1, e2, eN, eC, eVar, eIxO, aNil, aCons, eTup, eLst, eFlat, eIf, eChain, eAnd, eOr, eNot, eSl, pNone, pSome, eCall, eCallI, eCallS, iLst, iRg1, iRg2, iRg3, iZipD, iEnumD, sPut2, sSet2, eLc, wipeR, restR, fAdd_i, fAdd_l, fSub_i, fMul_i, fMul_l, fRep_l, fDiv_i, fMod_i, fPow_i, fNeg_i, fCmp_i, fLt, fLe, fGt, fGe, fLen_l, fLen_t, fInt_i, fInt_b, fAbs_i, fMax_i, fMax_l, fMin_i, fSum_l, fList_l, fList_t, fRev_l, fSl_l, fIx_l, fIx_t, fIs_n, fIsNot_n, fIs_b, fIsNot_b, isNone_n, isNone_i, isNone_l, isNone_t, isT_tt, isT_ii, isT_bi, isT_ll, fIsT, fEq, fNe, eqOk_i, eqOk_s, eqOk_l, eqOk_t, eqOk_n, eqv_nil, eqv_int, List.isEmpty_nil, List.isEmpty_cons, eq_self, atI_0, atI_1, atI_2, atI_3, atI_last, exists_eq', Int.cast_ofNat_Int, tab_len, endsP, endsI, rho0, List.set_cons_zero, List.set_cons_succ, List.getElem?_cons_zero, List.getElem?_cons_succ, Option.some.injEq, List.cons.injEq, exists_eq_left', exists_eq, and_assoc, exists_and_left, true_and, and_true, id_eq, List.map_cons, List.map_nil, List.replicate_succ, List.replicate_zero, List.cons_append, List.nil_append, List.length_cons, List.length_nil, PyData.bool.injEq, PyData.int.injEq, PyData.list.injEq, PyData.tuple.injEq, Bool.not_true, Bool.not_false, Bool.false_eq_true, if_true, if_false, ite_true, ite_false, decide_eq_true_eq, Nat.zero_add, Nat.zero_le, Nat.reduceAdd, Nat.reduceSub, Option.join, Option.bind_some, List.getElem?_nil]
      by_cases c : g (n + 1) m < due f p g (n + 1) m
      · rw [if_pos c]
        exact q2 fun s => by have := s n m ⟨hl, hm⟩; omega
      · rw [if_neg c]
        refine hnx2 _ ⟨fun i hi => ?_, _, _, rfl⟩
        by_cases c2 : i = m
        · subst c2; omega
        · exact hs2 i (by omega)

/-! ### goes_down -/
def goD (f p : Nat) (g : Nat → Nat → Int) (need : Int) : Nat → Nat → Nat × Nat
  | 0, i => (0, i)
  | l + 1, i => match (List.range (chN f p (l + 1) i)).filter fun j => decide (need ≤ g l (i * f + j)) with
    | [] => (l + 1, i)
    | j :: _ => goD f p g need l (i * f + j)
theorem goD_on {f p : Nat} {g : Nat → Nat → Int} {need : Int} (hf : 2 ≤ f) : ∀ l i, OnT f p l i → OnT f p (goD f p g need l i).1 (goD f p g need l i).2
  | 0, i, h => h
  | l + 1, i, h => by
    rw [goD]
    split
    · exact h
    · rename_i j js e
      have : j ∈ (List.range (chN f p (l + 1) i)).filter fun j => decide (need ≤ g l (i * f + j)) := by rw [e]; simp
      exact goD_on hf l _ (ch_lt hf h (List.mem_range.mp (List.mem_filter.mp this).1))
/-- where the walk down ends; none: not even the top tells so much -/
def gdown (f p : Nat) (g : Nat → Nat → Int) (need : Int) : Option (Nat × Nat) := if p = 0 ∨ g (ht f p) 0 < need then none else some (goD f p g need (ht f p) 0)
theorem top_on {f p : Nat} (hf : 2 ≤ f) (hp : p ≠ 0) : OnT f p (ht f p) 0 := ⟨by rw [lvN_pos (by omega)]; omega, cnt_pos hf (by omega)⟩
theorem gdown_on {f p l i : Nat} {g : Nat → Nat → Int} {need : Int} (hf : 2 ≤ f) (h : gdown f p g need = some (l, i)) : OnT f p l i := by
  unfold gdown at h
  split at h
  · cases h
  · rename_i q
    have := goD_on (g := g) (need := need) hf (ht f p) 0 (top_on hf fun z => q (.inl z))
    cases h2 : goD f p g need (ht f p) 0
    rw [h2] at this h
    cases h
    exact this
def dO : Option (Nat × Nat) → D
  | none => .none
  | some x => dN x.1 x.2
def sp_goes_down (ds : List D) (Q : D → Prop) : Prop := ∃ f p g need, Shp f p ∧ ds = [dT f p g, dSh p f, .int need] ∧ Q (dO (gdown f p g need))
def w_goes_down : DS := (sSeq (sSet 3 (eCall 1 sp_top (aCons (eVar 1) aNil))) (sSeq (sIf (tOrD (tBool (e2 fIs (eVar 3) (eC .none))) (tBool (e2 fLt (eCall 2 sp_tells (aCons (eVar 0) (aCons (eVar 3) aNil))) (eVar 2)))) (sRet (eC .none)) sNx) (sSeq (sWhile (tBool (e2 fGt (e2 fIx (eVar 3) (eC (.int 0))) (eC (.int 0)))) (sSeq (sSet 4 (eLc [5] (iLst (eCall 2 sp_children (aCons (eVar 1) (aCons (eVar 3) aNil)))) (gSet 5) (tBool (e2 fGe (eCall 2 sp_tells (aCons (eVar 0) (aCons (eVar 5) aNil))) (eVar 2))) (eVar 5))) (sSeq (sIf (tBool (e2 fEq (eVar 4) (eLst aNil))) (sRet (eVar 3)) sNx) (sSet 3 (e2 fIx (eVar 4) (eC (.int 0))))))) (sRet (eVar 3)))))
theorem m_goes_down : ∀ ds Q, ds.length = 3 → sp_goes_down ds Q → w_goes_down (endsP false Q) (rho0 ds 3) := by
  rintro ds Q - ⟨f, p, g, need, S, rfl, q⟩
  have hf := S.f2
  have pb := S.pb
  simp only [w_goes_down, sSeq, sIf, sSet, sSetL, sAsg, sRet, sRetV, sRetL, sRetN, sNx, sBk, sCt, sApp, sExt, sExpr, sFor, sPar, sParL, sPut, gSet, gNilD, gConsD, gTupD, tBool, tNotD, tAndD, tOrD, tYesD, e1, e2, eN, eC, eVar, eIxO, aNil, aCons, eTup, eLst, eFlat, eIf, eChain, eAnd, eOr, eNot, eSl, pNone, pSome, eCall, eCallI, eCallS, iLst, iRg1, iRg2, iRg3, iZipD, iEnumD, sPut2, sSet2, eLc, wipeR, restR, fAdd_i, fAdd_l, fSub_i, fMul_i, fMul_l, fRep_l, fDiv_i, fMod_i, fPow_i, fNeg_i, fCmp_i, fLt, fLe, fGt, fGe, fLen_l, fLen_t, fInt_i, fInt_b, fAbs_i, fMax_i, fMax_l, fMin_i, fSum_l, fList_l, fList_t, fRev_l, fSl_l, fIx_l, fIx_t, fIs_n, fIsNot_n, fIs_b, fIsNot_b, isNone_n, isNone_i, isNone_l, isNone_t, isT_tt, isT_ii, isT_bi, isT_ll, fIsT, fEq, fNe, eqOk_i, eqOk_s, eqOk_l, eqOk_t, eqOk_n, eqv_nil, eqv_int, List.isEmpty_nil, List.isEmpty_cons, eq_self, atI_0, atI_1, atI_2, atI_3, atI_last, exists_eq', Int.cast_ofNat_Int, tab_len, endsP, endsI, rho0, List.set_cons_zero, List.set_cons_succ, List.getElem?_cons_zero, List.getElem?_cons_succ, Option.some.injEq, List.cons.injEq, exists_eq_left', exists_eq, and_assoc, exists_and_left, true_and, and_true, id_eq, List.map_cons, List.map_nil, List.replicate_succ, List.replicate_zero, List.cons_append, List.nil_append, List.length_cons, List.length_nil, PyData.bool.injEq, PyData.int.injEq, PyData.list.injEq, PyData.tuple.injEq, Bool.not_true, Bool.not_false, Bool.false_eq_true, if_true, if_false, ite_true, ite_false, decide_eq_true_eq, Nat.zero_add, Nat.zero_le, Nat.reduceAdd, Nat.reduceSub, Option.join, Option.bind_some, List.getElem?_nil]
  refine ⟨p, f, S, rfl, ?_⟩
  by_cases hp : p = 0
  · simp only [hp, gdown, true_or, if_true, dO] at q
    simp only [hp, sSeq, sIf, sSet, sSetL, sAsg, sRet, sRetV, sRetL, sRetN, sNx, sBk, sCt, sApp, sExt, sExpr, sFor, sPar, sParL, sPut, gSet, gNilD, gConsD, gTupD, tBool, tNotD, tAndD, tOrD, tYesD, e1, e2, eN, eC, eVar, eIxO, aNil, aCons, eTup, eLst, eFlat, eIf, eChain, eAnd, eOr, eNot, eSl, pNone, pSome, eCall, eCallI, eCallS, iLst, iRg1, iRg2, iRg3, iZipD, iEnumD, sPut2, sSet2, eLc, wipeR, restR, fAdd_i, fAdd_l, fSub_i, fMul_i, fMul_l, fRep_l, fDiv_i, fMod_i, fPow_i, fNeg_i, fCmp_i, fLt, fLe, fGt, fGe, fLen_l, fLen_t, fInt_i, fInt_b, fAbs_i, fMax_i, fMax_l, fMin_i, fSum_l, fList_l, fList_t, fRev_l, fSl_l, fIx_l, fIx_t, fIs_n, fIsNot_n, fIs_b, fIsNot_b, isNone_n, isNone_i, isNone_l, isNone_t, isT_tt, isT_ii, isT_bi, isT_ll, fIsT, fEq, fNe, eqOk_i, eqOk_s, eqOk_l, eqOk_t, eqOk_n, eqv_nil, eqv_int, List.isEmpty_nil, List.isEmpty_cons, eq_self, atI_0, atI_1, atI_2, atI_3, atI_last, exists_eq', Int.cast_ofNat_Int, tab_len, endsP, endsI, rho0, List.set_cons_zero, List.set_cons_succ, List.getElem?_cons_zero, List.getElem?_cons_succ, Option.some.injEq, List.cons.injEq, exists_eq_left', exists_eq, and_assoc, exists_and_left, true_and, and_true, id_eq, List.map_cons, List.map_nil, List.replicate_succ, List.replicate_zero, List.cons_append, List.nil_append, List.length_cons, List.length_nil, PyData.bool.injEq, PyData.int.injEq, PyData.list.injEq, PyData.tuple.injEq, Bool.not_true, Bool.not_false, Bool.false_eq_true, if_true, if_false, ite_true, ite_false, decide_eq_true_eq, Nat.zero_add, Nat.zero_le, Nat.reduceAdd, Nat.reduceSub, Option.join, Option.bind_some, List.getElem?_nil]
    exact q
  have hon := top_on hf hp
  simp only [hp, sSeq, sIf, sSet, sSetL, sAsg, sRet, sRetV, sRetL, sRetN, sNx, sBk, sCt, sApp, sExt, sExpr, sFor, sPar, sParL, sPut, gSet, gNilD, gConsD, gTupD, tBool, tNotD, tAndD, tOrD, tYesD, e1, e2, eN, eC, eVar, eIxO, aNil, aCons, eTup, eLst, eFlat, eIf, eChain, eAnd, eOr, eNot, eSl, pNone, pSome, eCall, eCallI, eCallS, iLst, iRg1, iRg2, iRg3, iZipD, iEnumD, sPut2, sSet2, eLc, wipeR, restR, fAdd_i, fAdd_l, fSub_i, fMul_i, fMul_l, fRep_l, fDiv_i, fMod_i, fPow_i, fNeg_i, fCmp_i, fLt, fLe, fGt, fGe, fLen_l, fLen_t, fInt_i, fInt_b, fAbs_i, fMax_i, fMax_l, fMin_i, fSum_l, fList_l, fList_t, fRev_l, fSl_l, fIx_l, fIx_t, fIs_n, fIsNot_n, fIs_b, fIsNot_b, isNone_n, isNone_i, isNone_l, isNone_t, isT_tt, isT_ii, isT_bi, isT_ll, fIsT, fEq, fNe, eqOk_i, eqOk_s, eqOk_l, eqOk_t, eqOk_n, eqv_nil, eqv_int, List.isEmpty_nil, List.isEmpty_cons, eq_self, atI_0, atI_1, atI_2, atI_3, atI_last, exists_eq', Int.cast_ofNat_Int, tab_len, endsP, endsI, rho0, List.set_cons_zero, List.set_cons_succ, List.getElem?_cons_zero, List.getElem?_cons_succ, Option.some.injEq, List.cons.injEq, exists_eq_left', exists_eq, and_assoc, exists_and_left, true_and, and_true, id_eq, List.map_cons, List.map_nil, List.replicate_succ, List.replicate_zero, List.cons_append, List.nil_append, List.length_cons, List.length_nil, PyData.bool.injEq, PyData.int.injEq, PyData.list.injEq, PyData.tuple.injEq, Bool.not_true, Bool.not_false, Bool.false_eq_true, if_true, if_false, ite_true, ite_false, decide_eq_true_eq, Nat.zero_add, Nat.zero_le, Nat.reduceAdd, Nat.reduceSub, Option.join, Option.bind_some, List.getElem?_nil]
  refine ⟨f, p, g, ht f p, 0, S, hon, rfl, ?_⟩
  simp only [sSeq, sIf, sSet, sSetL, sAsg, sRet, sRetV, sRetL, sRetN, sNx, sBk, sCt, sApp, sExt, sExpr, sFor, sPar, sParL, sPut, gSet, gNilD, gConsD, gTupD, tBool, tNotD, tAndD, tOrD, tYesD, e1, e2, eN, eC, eVar, eIxO, aNil, aCons, eTup, eLst, eFlat, eIf, eChain, eAnd, eOr, eNot, eSl, pNone, pSome, eCall, eCallI, eCallS, iLst, iRg1, iRg2, iRg3, iZipD, iEnumD, sPut2, sSet2, eLc, wipeR, restR, fAdd_i, fAdd_l, fSub_i, fMul_i, fMul_l, fRep_l, fDiv_i, fMod_i, fPow_i, fNeg_i, fCmp_i, fLt, fLe, fGt, fGe, fLen_l, fLen_t, fInt_i, fInt_b, fAbs_i, fMax_i, fMax_l, fMin_i, fSum_l, fList_l, fList_t, fRev_l, fSl_l, fIx_l, fIx_t, fIs_n, fIsNot_n, fIs_b, fIsNot_b, isNone_n, isNone_i, isNone_l, isNone_t, isT_tt, isT_ii, isT_bi, isT_ll, fIsT, fEq, fNe, eqOk_i, eqOk_s, eqOk_l, eqOk_t, eqOk_n, eqv_nil, eqv_int, List.isEmpty_nil, List.isEmpty_cons, eq_self, atI_0, atI_1, atI_2, atI_3, atI_last, exists_eq', Int.cast_ofNat_Int, tab_len, endsP, endsI, rho0, List.set_cons_zero, List.set_cons_succ, List.getElem?_cons_zero, List.getElem?_cons_succ, Option.some.injEq, List.cons.injEq, exists_eq_left', exists_eq, and_assoc, exists_and_left, true_and, and_true, id_eq, List.map_cons, List.map_nil, List.replicate_succ, List.replicate_zero, List.cons_append, List.nil_append, List.length_cons, List.length_nil, PyData.bool.injEq, PyData.int.injEq, PyData.list.injEq, PyData.tuple.injEq, Bool.not_true, Bool.not_false, Bool.false_eq_true, if_true, if_false, ite_true, ite_false, decide_eq_true_eq, Nat.zero_add, Nat.zero_le, Nat.reduceAdd, Nat.reduceSub, Option.join, Option.bind_some, List.getElem?_nil]
  by_cases hn : g (ht f p) 0 < need
  · rw [if_pos hn]
    simp only [hn, gdown, or_true, if_true, dO] at q
    exact q
  rw [if_neg hn]
  simp only [gdown, hp, hn, or_self, if_false, dO] at q
  refine while_rule (fun n ρ => ∃ i x y, OnT f p n i ∧ goD f p g need n i = goD f p g need (ht f p) 0 ∧ ρ = [some (dT f p g), some (dSh p f), some (.int need), some (dN n i), x, y]) (ht f p) ⟨0, none, none, hon, rfl, rfl⟩ ?_
  rintro n ρ ⟨i, x, y, ho, he, rfl⟩ nx hnx
  simp only [sSeq, sIf, sSet, sSetL, sAsg, sRet, sRetV, sRetL, sRetN, sNx, sBk, sCt, sApp, sExt, sExpr, sFor, sPar, sParL, sPut, gSet, gNilD, gConsD, gTupD, tBool, tNotD, tAndD, tOrD, tYesD, e1, e2, eN, eC, eVar, eIxO, aNil, aCons, eTup, eLst, eFlat, eIf, eChain, eAnd, eOr, eNot, eSl, pNone, pSome, eCall, eCallI, eCallS, iLst, iRg1, iRg2, iRg3, iZipD, iEnumD, sPut2, sSet2, eLc, wipeR, restR, fAdd_i, fAdd_l, fSub_i, fMul_i, fMul_l, fRep_l, fDiv_i, fMod_i, fPow_i, fNeg_i, fCmp_i, fLt, fLe, fGt, fGe, fLen_l, fLen_t, fInt_i, fInt_b, fAbs_i, fMax_i, fMax_l, fMin_i, fSum_l, fList_l, fList_t, fRev_l, fSl_l, fIx_l, fIx_t, fIs_n, fIsNot_n, fIs_b, fIsNot_b, isNone_n, isNone_i, isNone_l, isNone_t, isT_tt, isT_ii, isT_bi, isT_ll, fIsT, fEq, fNe, eqOk_i, eqOk_s, eqOk_l, eqOk_t, eqOk_n, eqv_nil, eqv_int, List.isEmpty_nil, List.isEmpty_cons, eq_self, atI_0, atI_1, atI_2, atI_3, atI_last, exists_eq', Int.cast_ofNat_Int, tab_len, endsP, endsI, rho0, List.set_cons_zero, List.set_cons_succ, List.getElem?_cons_zero, List.getElem?_cons_succ, Option.some.injEq, List.cons.injEq, exists_eq_left', exists_eq, and_assoc, exists_and_left, true_and, and_true, id_eq, List.map_cons, List.map_nil, List.replicate_succ, List.replicate_zero, List.cons_append, List.nil_append, List.length_cons, List.length_nil, PyData.bool.injEq, PyData.int.injEq, PyData.list.injEq, PyData.tuple.injEq, Bool.not_true, Bool.not_false, Bool.false_eq_true, if_true, if_false, ite_true, ite_false, decide_eq_true_eq, Nat.zero_add, Nat.zero_le, Nat.reduceAdd, Nat.reduceSub, Option.join, Option.bind_some, List.getElem?_nil]
  cases n with
  | zero =>
    rw [if_neg (by omega)]
    rw [← he] at q
    exact q
  | succ l =>
    rw [if_pos (by omega)]
    refine ⟨p, f, l + 1, i, S, rfl, ho, ?_⟩
    simp only [dCh, sSeq, sIf, sSet, sSetL, sAsg, sRet, sRetV, sRetL, sRetN, sNx, sBk, sCt, sApp, sExt, sExpr, sFor, sPar, sParL, sPut, gSet, gNilD, gConsD, gTupD, tBool, tNotD, tAndD, tOrD, tYesD, e1, e2, eN, eC, eVar, eIxO, aNil, aCons, eTup, eLst, eFlat, eIf, eChain, eAnd, eOr, eNot, eSl, pNone, pSome, eCall, eCallI, eCallS, iLst, iRg1, iRg2, iRg3, iZipD, iEnumD, sPut2, sSet2, eLc, wipeR, restR, fAdd_i, fAdd_l, fSub_i, fMul_i, fMul_l, fRep_l, fDiv_i, fMod_i, fPow_i, fNeg_i, fCmp_i, fLt, fLe, fGt, fGe, fLen_l, fLen_t, fInt_i, fInt_b, fAbs_i, fMax_i, fMax_l, fMin_i, fSum_l, fList_l, fList_t, fRev_l, fSl_l, fIx_l, fIx_t, fIs_n, fIsNot_n, fIs_b, fIsNot_b, isNone_n, isNone_i, isNone_l, isNone_t, isT_tt, isT_ii, isT_bi, isT_ll, fIsT, fEq, fNe, eqOk_i, eqOk_s, eqOk_l, eqOk_t, eqOk_n, eqv_nil, eqv_int, List.isEmpty_nil, List.isEmpty_cons, eq_self, atI_0, atI_1, atI_2, atI_3, atI_last, exists_eq', Int.cast_ofNat_Int, tab_len, endsP, endsI, rho0, List.set_cons_zero, List.set_cons_succ, List.getElem?_cons_zero, List.getElem?_cons_succ, Option.some.injEq, List.cons.injEq, exists_eq_left', exists_eq, and_assoc, exists_and_left, true_and, and_true, id_eq, List.map_cons, List.map_nil, List.replicate_succ, List.replicate_zero, List.cons_append, List.nil_append, List.length_cons, List.length_nil, PyData.bool.injEq, PyData.int.injEq, PyData.list.injEq, PyData.tuple.injEq, Bool.not_true, Bool.not_false, Bool.false_eq_true, if_true, if_false, ite_true, ite_false, decide_eq_true_eq, Nat.zero_add, Nat.zero_le, Nat.reduceAdd, Nat.reduceSub, Option.join, Option.bind_some, List.getElem?_nil]
    have hn : chN f p (l + 1) i ≤ 2 ^ 20 := by
      have := cnt_le (p := p) (l := l) hf
      unfold chN; rw [if_neg (by omega)]; simp only [Nat.add_sub_cancel]; omega
    refine lcGo_on (List.range (chN f p (l + 1) i)) _ (fun j => dN l (i * f + j)) (fun j => decide (need ≤ g l (i * f + j))) [] (by rw [List.length_nil, List.length_range]; exact Nat.le_trans (by omega) (show 2 ^ 20 ≤ sizeLine by decide)) ?_ ?_
    · intro j hj K Fl h1 h2
      have hc := ch_lt hf ho (List.mem_range.mp hj)
      simp only [sSeq, sIf, sSet, sSetL, sAsg, sRet, sRetV, sRetL, sRetN, sNx, sBk, sCt, sApp, sExt, sExpr, sFor, sPar, sParL, sPut, gSet, gNilD, gConsD, gTupD, tBool, tNotD, tAndD, tOrD, tYesD, e1, e2, eN, eC, eVar, eIxO, aNil, aCons, eTup, eLst, eFlat, eIf, eChain, eAnd, eOr, eNot, eSl, pNone, pSome, eCall, eCallI, eCallS, iLst, iRg1, iRg2, iRg3, iZipD, iEnumD, sPut2, sSet2, eLc, wipeR, restR, fAdd_i, fAdd_l, fSub_i, fMul_i, fMul_l, fRep_l, fDiv_i, fMod_i, fPow_i, fNeg_i, fCmp_i, fLt, fLe, fGt, fGe, fLen_l, fLen_t, fInt_i, fInt_b, fAbs_i, fMax_i, fMax_l, fMin_i, fSum_l, fList_l, fList_t, fRev_l, fSl_l, fIx_l, fIx_t, fIs_n, fIsNot_n, fIs_b, fIsNot_b, isNone_n, isNone_i, isNone_l, isNone_t, isT_tt, isT_ii, isT_bi, isT_ll, fIsT, fEq, fNe, eqOk_i, eqOk_s, eqOk_l, eqOk_t, eqOk_n, eqv_nil, eqv_int, List.isEmpty_nil, List.isEmpty_cons, eq_self, atI_0, atI_1, atI_2, atI_3, atI_last, exists_eq', Int.cast_ofNat_Int, tab_len, endsP, endsI, rho0, List.set_cons_zero, List.set_cons_succ, List.getElem?_cons_zero, List.getElem?_cons_succ, Option.some.injEq, List.cons.injEq, exists_eq_left', exists_eq, and_assoc, exists_and_left, true_and, and_true, id_eq, List.map_cons, List.map_nil, List.replicate_succ, List.replicate_zero, List.cons_append, List.nil_append, List.length_cons, List.length_nil, PyData.bool.injEq, PyData.int.injEq, PyData.list.injEq, PyData.tuple.injEq, Bool.not_true, Bool.not_false, Bool.false_eq_true, if_true, if_false, ite_true, ite_false, decide_eq_true_eq, Nat.zero_add, Nat.zero_le, Nat.reduceAdd, Nat.reduceSub, Option.join, Option.bind_some, List.getElem?_nil, Nat.add_sub_cancel]
      refine ⟨f, p, g, l, i * f + j, S, hc, rfl, ?_⟩
      simp only [sSeq, sIf, sSet, sSetL, sAsg, sRet, sRetV, sRetL, sRetN, sNx, sBk, sCt, sApp, sExt, sExpr, sFor, sPar, sParL, sPut, gSet, gNilD, gConsD, gTupD, tBool, tNotD, tAndD, tOrD, tYesD, e1, e2, eN, eC, eVar, eIxO, aNil, aCons, eTup, eLst, eFlat, eIf, eChain, eAnd, eOr, eNot, eSl, pNone, pSome, eCall, eCallI, eCallS, iLst, iRg1, iRg2, iRg3, iZipD, iEnumD, sPut2, sSet2, eLc, wipeR, restR, fAdd_i, fAdd_l, fSub_i, fMul_i, fMul_l, fRep_l, fDiv_i, fMod_i, fPow_i, fNeg_i, fCmp_i, fLt, fLe, fGt, fGe, fLen_l, fLen_t, fInt_i, fInt_b, fAbs_i, fMax_i, fMax_l, fMin_i, fSum_l, fList_l, fList_t, fRev_l, fSl_l, fIx_l, fIx_t, fIs_n, fIsNot_n, fIs_b, fIsNot_b, isNone_n, isNone_i, isNone_l, isNone_t, isT_tt, isT_ii, isT_bi, isT_ll, fIsT, fEq, fNe, eqOk_i, eqOk_s, eqOk_l, eqOk_t, eqOk_n, eqv_nil, eqv_int, List.isEmpty_nil, List.isEmpty_cons, eq_self, atI_0, atI_1, atI_2, atI_3, atI_last, exists_eq', Int.cast_ofNat_Int, tab_len, endsP, endsI, rho0, List.set_cons_zero, List.set_cons_succ, List.getElem?_cons_zero, List.getElem?_cons_succ, Option.some.injEq, List.cons.injEq, exists_eq_left', exists_eq, and_assoc, exists_and_left, true_and, and_true, id_eq, List.map_cons, List.map_nil, List.replicate_succ, List.replicate_zero, List.cons_append, List.nil_append, List.length_cons, List.length_nil, PyData.bool.injEq, PyData.int.injEq, PyData.list.injEq, PyData.tuple.injEq, Bool.not_true, Bool.not_false, Bool.false_eq_true, if_true, if_false, ite_true, ite_false, decide_eq_true_eq, Nat.zero_add, Nat.zero_le, Nat.reduceAdd, Nat.reduceSub, Option.join, Option.bind_some, List.getElem?_nil]
      by_cases c : need ≤ g l (i * f + j)
      · rw [if_pos c]
        exact h1 (by simpa using c) _ rfl
      · rw [if_neg c]
        exact h2 (by simpa using c) _ rfl
    · have hmem : ∀ j ∈ (List.range (chN f p (l + 1) i)).filter (fun j => decide (need ≤ g l (i * f + j))), OnT f p l (i * f + j) := fun j hj => ch_lt hf ho (List.mem_range.mp (List.mem_filter.mp hj).1)
      rw [goD] at he
      generalize (List.range (chN f p (l + 1) i)).filter (fun j => decide (need ≤ g l (i * f + j))) = js at he hmem ⊢
      simp only [sSeq, sIf, sSet, sSetL, sAsg, sRet, sRetV, sRetL, sRetN, sNx, sBk, sCt, sApp, sExt, sExpr, sFor, sPar, sParL, sPut, gSet, gNilD, gConsD, gTupD, tBool, tNotD, tAndD, tOrD, tYesD, e1, e2, eN, eC, eVar, eIxO, aNil, aCons, eTup, eLst, eFlat, eIf, eChain, eAnd, eOr, eNot, eSl, pNone, pSome, eCall, eCallI, eCallS, iLst, iRg1, iRg2, iRg3, iZipD, iEnumD, sPut2, sSet2, eLc, wipeR, restR, fAdd_i, fAdd_l, fSub_i, fMul_i, fMul_l, fRep_l, fDiv_i, fMod_i, fPow_i, fNeg_i, fCmp_i, fLt, fLe, fGt, fGe, fLen_l, fLen_t, fInt_i, fInt_b, fAbs_i, fMax_i, fMax_l, fMin_i, fSum_l, fList_l, fList_t, fRev_l, fSl_l, fIx_l, fIx_t, fIs_n, fIsNot_n, fIs_b, fIsNot_b, isNone_n, isNone_i, isNone_l, isNone_t, isT_tt, isT_ii, isT_bi, isT_ll, fIsT, fEq, fNe, eqOk_i, eqOk_s, eqOk_l, eqOk_t, eqOk_n, eqv_nil, eqv_int, List.isEmpty_nil, List.isEmpty_cons, eq_self, atI_0, atI_1, atI_2, atI_3, atI_last, exists_eq', Int.cast_ofNat_Int, tab_len, endsP, endsI, rho0, List.set_cons_zero, List.set_cons_succ, List.getElem?_cons_zero, List.getElem?_cons_succ, Option.some.injEq, List.cons.injEq, exists_eq_left', exists_eq, and_assoc, exists_and_left, true_and, and_true, id_eq, List.map_cons, List.map_nil, List.replicate_succ, List.replicate_zero, List.cons_append, List.nil_append, List.length_cons, List.length_nil, PyData.bool.injEq, PyData.int.injEq, PyData.list.injEq, PyData.tuple.injEq, Bool.not_true, Bool.not_false, Bool.false_eq_true, if_true, if_false, ite_true, ite_false, decide_eq_true_eq, Nat.zero_add, Nat.zero_le, Nat.reduceAdd, Nat.reduceSub, Option.join, Option.bind_some, List.getElem?_nil]
      refine ⟨gd_shaped (n := 2) (by decide) (gd_list fun x hx => ?_), shaped_nil, ?_⟩
      · obtain ⟨j, hj, rfl⟩ := List.mem_map.mp hx
        have hz := (hmem j hj).sz S
        exact gd_tuple fun x hx => by
          rcases List.mem_cons.mp hx with rfl | hx
          · exact gd_int (by omega)
          · rw [List.mem_singleton] at hx
            subst hx
            exact gd_int (by omega)
      · cases js with
        | nil =>
          rw [if_pos (by simp)]
          simp only at he
          rw [← he] at q
          exact q
        | cons j js =>
          rw [if_neg (by simp)]
          simp only [sSeq, sIf, sSet, sSetL, sAsg, sRet, sRetV, sRetL, sRetN, sNx, sBk, sCt, sApp, sExt, sExpr, sFor, sPar, sParL, sPut, gSet, gNilD, gConsD, gTupD, tBool, tNotD, tAndD, tOrD, tYesD, e1, e2, eN, eC, eVar, eIxO, aNil, aCons, eTup, eLst, eFlat, eIf, eChain, eAnd, eOr, eNot, eSl, pNone, pSome, eCall, eCallI, eCallS, iLst, iRg1, iRg2, iRg3, iZipD, iEnumD, sPut2, sSet2, eLc, wipeR, restR, fAdd_i, fAdd_l, fSub_i, fMul_i, fMul_l, fRep_l, fDiv_i, fMod_i, fPow_i, fNeg_i, fCmp_i, fLt, fLe, fGt, fGe, fLen_l, fLen_t, fInt_i, fInt_b, fAbs_i, fMax_i, fMax_l, fMin_i, fSum_l, fList_l, fList_t, fRev_l, fSl_l, fIx_l, fIx_t, fIs_n, fIsNot_n, fIs_b, fIsNot_b, isNone_n, isNone_i, isNone_l, isNone_t, isT_tt, isT_ii, isT_bi, isT_ll, fIsT, fEq, fNe, eqOk_i, eqOk_s, eqOk_l, eqOk_t, eqOk_n, eqv_nil, eqv_int, List.isEmpty_nil, List.isEmpty_cons, eq_self, atI_0, atI_1, atI_2, atI_3, atI_last, exists_eq', Int.cast_ofNat_Int, tab_len, endsP, endsI, rho0, List.set_cons_zero, List.set_cons_succ, List.getElem?_cons_zero, List.getElem?_cons_succ, Option.some.injEq, List.cons.injEq, exists_eq_left', exists_eq, and_assoc, exists_and_left, true_and, and_true, id_eq, List.map_cons, List.map_nil, List.replicate_succ, List.replicate_zero, List.cons_append, List.nil_append, List.length_cons, List.length_nil, PyData.bool.injEq, PyData.int.injEq, PyData.list.injEq, PyData.tuple.injEq, Bool.not_true, Bool.not_false, Bool.false_eq_true, if_true, if_false, ite_true, ite_false, decide_eq_true_eq, Nat.zero_add, Nat.zero_le, Nat.reduceAdd, Nat.reduceSub, Option.join, Option.bind_some, List.getElem?_nil]
          exact hnx l _ rfl ⟨i * f + j, _, _, hmem j (by simp), he, rfl⟩

/-! ### seek -/
abbrev dM (m : Nat × Nat × Int × Int) : D := .tuple [.int (m.1 : Int), .int (m.2.1 : Int), .int m.2.2.1, .int m.2.2.2]
def nowOf (f p : Nat) (r : Nat → Int) (g : Nat → Nat → Int) (l i : Nat) : Int := if l = 0 then r i else due f p g l i
def seekRun (f p : Nat) (r : Nat → Int) (need : Int) : Nat → (Nat → Nat → Int) → List (Nat × Nat × Int × Int) → Option (Option Nat × (Nat → Nat → Int) × List (Nat × Nat × Int × Int))
  | 0, _, _ => none
  | n + 1, g, ms => match gdown f p g need with
    | none => some (none, g, ms)
    | some (l, i) => if l = 0 ∧ need ≤ r i then some (some i, g, ms) else seekRun f p r need n (put g l i (nowOf f p r g l i)) (ms ++ [(l, i, g l i, nowOf f p r g l i)])
def dR : Option Nat → D
  | none => .none
  | some i => .int (i : Int)
def sp_seek (ds : List D) (Q : D → Prop) : Prop := ∃ f p g r need n res g' ms, Shp f p ∧ BdT f p g ∧ ds = [dT f p g, .int (f : Int), dRow p r, .int need] ∧ n ≤ 2 ^ 20 ∧ seekRun f p r need n g [] = some (res, g', ms) ∧ Q (.tuple [dR res, dT f p g', .list (ms.map dM)])
def w_seek : DS := (sSeq (sSet2 4 9 (iLst (eVar 0))) (sSeq (sSet 5 (eCall 2 sp_shape_of (aCons (eVar 0) (aCons (eVar 1) aNil)))) (sSeq (sSetL 6 (eLst aNil)) (sWhile (tBool (eC (.bool true))) (sSeq (sSet 7 (eFlat (eCall 3 sp_goes_down (aCons (eVar 4) (aCons (eVar 5) (aCons (eVar 3) aNil)))))) (sSeq (sIf (tBool (e2 fIs (eVar 7) (eC .none))) (sRet (eTup (aCons (eC .none) (aCons (eVar 4) (aCons (eVar 6) aNil))))) sNx) (sSeq (sAsg (gTupD 2 (gConsD (gSet 9) (gConsD (gSet 10) gNilD))) (eVar 7)) (sSeq (sIf (tAndD (tBool (e2 fEq (eVar 9) (eC (.int 0)))) (tBool (e2 fGe (e2 fIx (eVar 2) (eVar 10)) (eVar 3)))) (sRet (eTup (aCons (eVar 10) (aCons (eVar 4) (aCons (eVar 6) aNil))))) sNx) (sSeq (sSet 8 (eIf (tBool (e2 fEq (eVar 9) (eC (.int 0)))) (e2 fIx (eVar 2) (eVar 10)) (eN fMaxL (aCons (eLc [11] (iLst (eCall 2 sp_children (aCons (eVar 5) (aCons (eVar 7) aNil)))) (gSet 11) tYesD (eFlat (eCall 2 sp_tells (aCons (eVar 4) (aCons (eVar 11) aNil))))) aNil)))) (sSeq (sApp 6 (eTup (aCons (eVar 9) (aCons (eVar 10) (aCons (eFlat (e2 fIx (e2 fIx (eVar 4) (eVar 9)) (eVar 10))) (aCons (eVar 8) aNil)))))) (sPut2 4 (eVar 8) (eVar 9) (eVar 10))))))))))))
theorem chN_le {f p l i : Nat} (S : Shp f p) : chN f p l i ≤ 2 ^ 20 := by
  have := cnt_le (p := p) (l := l - 1) S.f2
  have := S.pb
  unfold chN; split <;> omega
theorem m_seek : ∀ ds Q, ds.length = 4 → sp_seek ds Q → w_seek (endsP false Q) (rho0 ds 8) := by
  rintro ds Q - ⟨f, p, g0, r, need, n0, res, g', ms', S, B, rfl, hn0, hrun, q⟩
  have hf := S.f2
  simp only [w_seek, sSeq, sIf, sSet, sSetL, sAsg, sRet, sRetV, sRetL, sRetN, sNx, sBk, sCt, sApp, sExt, sExpr, sFor, sPar, sParL, sPut, gSet, gNilD, gConsD, gTupD, tBool, tNotD, tAndD, tOrD, tYesD, e1, e2, eN, eC, eVar, eIxO, aNil, aCons, eTup, eLst, eFlat, eIf, eChain, eAnd, eOr, eNot, eSl, pNone, pSome, eCall, eCallI, eCallS, iLst, iRg1, iRg2, iRg3, iZipD, iEnumD, sPut2, sSet2, eLc, wipeR, restR, fAdd_i, fAdd_l, fSub_i, fMul_i, fMul_l, fRep_l, fDiv_i, fMod_i, fPow_i, fNeg_i, fCmp_i, fLt, fLe, fGt, fGe, fLen_l, fLen_t, fInt_i, fInt_b, fAbs_i, fMax_i, fMax_l, fMin_i, fSum_l, fList_l, fList_t, fRev_l, fSl_l, fIx_l, fIx_t, fIs_n, fIsNot_n, fIs_b, fIsNot_b, isNone_n, isNone_i, isNone_l, isNone_t, isT_tt, isT_ii, isT_bi, isT_ll, fIsT, fEq, fNe, eqOk_i, eqOk_s, eqOk_l, eqOk_t, eqOk_n, eqv_nil, eqv_int, List.isEmpty_nil, List.isEmpty_cons, eq_self, atI_0, atI_1, atI_2, atI_3, atI_last, exists_eq', Int.cast_ofNat_Int, tab_len, endsP, endsI, rho0, List.set_cons_zero, List.set_cons_succ, List.getElem?_cons_zero, List.getElem?_cons_succ, Option.some.injEq, List.cons.injEq, exists_eq_left', exists_eq, and_assoc, exists_and_left, true_and, and_true, id_eq, List.map_cons, List.map_nil, List.replicate_succ, List.replicate_zero, List.cons_append, List.nil_append, List.length_cons, List.length_nil, PyData.bool.injEq, PyData.int.injEq, PyData.list.injEq, PyData.tuple.injEq, Bool.not_true, Bool.not_false, Bool.false_eq_true, if_true, if_false, ite_true, ite_false, decide_eq_true_eq, Nat.zero_add, Nat.zero_le, Nat.reduceAdd, Nat.reduceSub, Option.join, Option.bind_some, List.getElem?_nil]
  refine ⟨_, dT_raw, rawT f p g0, rfl, ?_, ?_⟩
  · rw [rawT_len]
    have := S.ht20
    unfold lvN; split <;> omega
  rw [← dT_raw]
  refine ⟨f, p, g0, B, rfl, ?_⟩
  refine while_rule (fun n ρ => ∃ g ms x y z u v, seekRun f p r need n g ms = some (res, g', ms') ∧ ms.length + n ≤ 2 ^ 20 ∧ ρ = [some (dT f p g0), some (.int (f : Int)), some (dRow p r), some (.int need), some (dT f p g), some (dSh p f), some (.list (ms.map dM)), x, y, z, u, v]) n0 ⟨g0, [], none, none, none, none, none, hrun, by simpa using hn0, rfl⟩ ?_
  rintro n ρ ⟨g, ms, x, y, z, u, v, hr, hb, rfl⟩ nx hnx
  simp only [sSeq, sIf, sSet, sSetL, sAsg, sRet, sRetV, sRetL, sRetN, sNx, sBk, sCt, sApp, sExt, sExpr, sFor, sPar, sParL, sPut, gSet, gNilD, gConsD, gTupD, tBool, tNotD, tAndD, tOrD, tYesD, e1, e2, eN, eC, eVar, eIxO, aNil, aCons, eTup, eLst, eFlat, eIf, eChain, eAnd, eOr, eNot, eSl, pNone, pSome, eCall, eCallI, eCallS, iLst, iRg1, iRg2, iRg3, iZipD, iEnumD, sPut2, sSet2, eLc, wipeR, restR, fAdd_i, fAdd_l, fSub_i, fMul_i, fMul_l, fRep_l, fDiv_i, fMod_i, fPow_i, fNeg_i, fCmp_i, fLt, fLe, fGt, fGe, fLen_l, fLen_t, fInt_i, fInt_b, fAbs_i, fMax_i, fMax_l, fMin_i, fSum_l, fList_l, fList_t, fRev_l, fSl_l, fIx_l, fIx_t, fIs_n, fIsNot_n, fIs_b, fIsNot_b, isNone_n, isNone_i, isNone_l, isNone_t, isT_tt, isT_ii, isT_bi, isT_ll, fIsT, fEq, fNe, eqOk_i, eqOk_s, eqOk_l, eqOk_t, eqOk_n, eqv_nil, eqv_int, List.isEmpty_nil, List.isEmpty_cons, eq_self, atI_0, atI_1, atI_2, atI_3, atI_last, exists_eq', Int.cast_ofNat_Int, tab_len, endsP, endsI, rho0, List.set_cons_zero, List.set_cons_succ, List.getElem?_cons_zero, List.getElem?_cons_succ, Option.some.injEq, List.cons.injEq, exists_eq_left', exists_eq, and_assoc, exists_and_left, true_and, and_true, id_eq, List.map_cons, List.map_nil, List.replicate_succ, List.replicate_zero, List.cons_append, List.nil_append, List.length_cons, List.length_nil, PyData.bool.injEq, PyData.int.injEq, PyData.list.injEq, PyData.tuple.injEq, Bool.not_true, Bool.not_false, Bool.false_eq_true, if_true, if_false, ite_true, ite_false, decide_eq_true_eq, Nat.zero_add, Nat.zero_le, Nat.reduceAdd, Nat.reduceSub, Option.join, Option.bind_some, List.getElem?_nil]
  cases n with
  | zero => cases hr
  | succ n =>
  rw [seekRun] at hr
  refine ⟨f, p, g, need, S, rfl, ?_⟩
  cases hg : gdown f p g need with
  | none =>
    rw [hg] at hr
    cases hr
    simp only [dO, flat, sSeq, sIf, sSet, sSetL, sAsg, sRet, sRetV, sRetL, sRetN, sNx, sBk, sCt, sApp, sExt, sExpr, sFor, sPar, sParL, sPut, gSet, gNilD, gConsD, gTupD, tBool, tNotD, tAndD, tOrD, tYesD, e1, e2, eN, eC, eVar, eIxO, aNil, aCons, eTup, eLst, eFlat, eIf, eChain, eAnd, eOr, eNot, eSl, pNone, pSome, eCall, eCallI, eCallS, iLst, iRg1, iRg2, iRg3, iZipD, iEnumD, sPut2, sSet2, eLc, wipeR, restR, fAdd_i, fAdd_l, fSub_i, fMul_i, fMul_l, fRep_l, fDiv_i, fMod_i, fPow_i, fNeg_i, fCmp_i, fLt, fLe, fGt, fGe, fLen_l, fLen_t, fInt_i, fInt_b, fAbs_i, fMax_i, fMax_l, fMin_i, fSum_l, fList_l, fList_t, fRev_l, fSl_l, fIx_l, fIx_t, fIs_n, fIsNot_n, fIs_b, fIsNot_b, isNone_n, isNone_i, isNone_l, isNone_t, isT_tt, isT_ii, isT_bi, isT_ll, fIsT, fEq, fNe, eqOk_i, eqOk_s, eqOk_l, eqOk_t, eqOk_n, eqv_nil, eqv_int, List.isEmpty_nil, List.isEmpty_cons, eq_self, atI_0, atI_1, atI_2, atI_3, atI_last, exists_eq', Int.cast_ofNat_Int, tab_len, endsP, endsI, rho0, List.set_cons_zero, List.set_cons_succ, List.getElem?_cons_zero, List.getElem?_cons_succ, Option.some.injEq, List.cons.injEq, exists_eq_left', exists_eq, and_assoc, exists_and_left, true_and, and_true, id_eq, List.map_cons, List.map_nil, List.replicate_succ, List.replicate_zero, List.cons_append, List.nil_append, List.length_cons, List.length_nil, PyData.bool.injEq, PyData.int.injEq, PyData.list.injEq, PyData.tuple.injEq, Bool.not_true, Bool.not_false, Bool.false_eq_true, if_true, if_false, ite_true, ite_false, decide_eq_true_eq, Nat.zero_add, Nat.zero_le, Nat.reduceAdd, Nat.reduceSub, Option.join, Option.bind_some, List.getElem?_nil]
    exact ⟨by decide, q⟩
  | some li =>
    obtain ⟨l, i⟩ := li
    rw [hg] at hr
    have hon := gdown_on hf hg
    have hz := hon.sz S
    simp only [dO, flat, flats, sSeq, sIf, sSet, sSetL, sAsg, sRet, sRetV, sRetL, sRetN, sNx, sBk, sCt, sApp, sExt, sExpr, sFor, sPar, sParL, sPut, gSet, gNilD, gConsD, gTupD, tBool, tNotD, tAndD, tOrD, tYesD, e1, e2, eN, eC, eVar, eIxO, aNil, aCons, eTup, eLst, eFlat, eIf, eChain, eAnd, eOr, eNot, eSl, pNone, pSome, eCall, eCallI, eCallS, iLst, iRg1, iRg2, iRg3, iZipD, iEnumD, sPut2, sSet2, eLc, wipeR, restR, fAdd_i, fAdd_l, fSub_i, fMul_i, fMul_l, fRep_l, fDiv_i, fMod_i, fPow_i, fNeg_i, fCmp_i, fLt, fLe, fGt, fGe, fLen_l, fLen_t, fInt_i, fInt_b, fAbs_i, fMax_i, fMax_l, fMin_i, fSum_l, fList_l, fList_t, fRev_l, fSl_l, fIx_l, fIx_t, fIs_n, fIsNot_n, fIs_b, fIsNot_b, isNone_n, isNone_i, isNone_l, isNone_t, isT_tt, isT_ii, isT_bi, isT_ll, fIsT, fEq, fNe, eqOk_i, eqOk_s, eqOk_l, eqOk_t, eqOk_n, eqv_nil, eqv_int, List.isEmpty_nil, List.isEmpty_cons, eq_self, atI_0, atI_1, atI_2, atI_3, atI_last, exists_eq', Int.cast_ofNat_Int, tab_len, endsP, endsI, rho0, List.set_cons_zero, List.set_cons_succ, List.getElem?_cons_zero, List.getElem?_cons_succ, Option.some.injEq, List.cons.injEq, exists_eq_left', exists_eq, and_assoc, exists_and_left, true_and, and_true, id_eq, List.map_cons, List.map_nil, List.replicate_succ, List.replicate_zero, List.cons_append, List.nil_append, List.length_cons, List.length_nil, PyData.bool.injEq, PyData.int.injEq, PyData.list.injEq, PyData.tuple.injEq, Bool.not_true, Bool.not_false, Bool.false_eq_true, if_true, if_false, ite_true, ite_false, decide_eq_true_eq, Nat.zero_add, Nat.zero_le, Nat.reduceAdd, Nat.reduceSub, Option.join, Option.bind_some, List.getElem?_nil]
    refine ⟨rfl, ?_⟩
    have hput : ∀ (x y z u v : Option D), (seekRun f p r need n (put g l i (nowOf f p r g l i)) (ms ++ [(l, i, g l i, nowOf f p r g l i)]) = some (res, g', ms')) →
        nx [some (dT f p g0), some (.int (f : Int)), some (dRow p r), some (.int need), some (dT f p (put g l i (nowOf f p r g l i))), some (dSh p f), some (.list (ms.map dM ++ [dM (l, i, g l i, nowOf f p r g l i)])), x, y, z, u, v] := fun x y z u v h =>
      hnx n _ rfl ⟨_, ms ++ [(l, i, g l i, nowOf f p r g l i)], x, y, z, u, v, h, by simp; omega, by rw [List.map_append]; rfl⟩
    have hlen : (ms.map dM).length < sizeLine := by rw [List.length_map]; exact Nat.lt_of_le_of_lt (show ms.length ≤ 2 ^ 20 by omega) (by decide)
    simp only at hr
    by_cases hl : l = 0
    · have hi : i < p := by have := hon.2; rwa [hl, cnt_zero] at this
      rw [if_pos (by omega), atI_tab hi]
      simp only [sSeq, sIf, sSet, sSetL, sAsg, sRet, sRetV, sRetL, sRetN, sNx, sBk, sCt, sApp, sExt, sExpr, sFor, sPar, sParL, sPut, gSet, gNilD, gConsD, gTupD, tBool, tNotD, tAndD, tOrD, tYesD, e1, e2, eN, eC, eVar, eIxO, aNil, aCons, eTup, eLst, eFlat, eIf, eChain, eAnd, eOr, eNot, eSl, pNone, pSome, eCall, eCallI, eCallS, iLst, iRg1, iRg2, iRg3, iZipD, iEnumD, sPut2, sSet2, eLc, wipeR, restR, fAdd_i, fAdd_l, fSub_i, fMul_i, fMul_l, fRep_l, fDiv_i, fMod_i, fPow_i, fNeg_i, fCmp_i, fLt, fLe, fGt, fGe, fLen_l, fLen_t, fInt_i, fInt_b, fAbs_i, fMax_i, fMax_l, fMin_i, fSum_l, fList_l, fList_t, fRev_l, fSl_l, fIx_l, fIx_t, fIs_n, fIsNot_n, fIs_b, fIsNot_b, isNone_n, isNone_i, isNone_l, isNone_t, isT_tt, isT_ii, isT_bi, isT_ll, fIsT, fEq, fNe, eqOk_i, eqOk_s, eqOk_l, eqOk_t, eqOk_n, eqv_nil, eqv_int, List.isEmpty_nil, List.isEmpty_cons, eq_self, atI_0, atI_1, atI_2, atI_3, atI_last, exists_eq', Int.cast_ofNat_Int, tab_len, endsP, endsI, rho0, List.set_cons_zero, List.set_cons_succ, List.getElem?_cons_zero, List.getElem?_cons_succ, Option.some.injEq, List.cons.injEq, exists_eq_left', exists_eq, and_assoc, exists_and_left, true_and, and_true, id_eq, List.map_cons, List.map_nil, List.replicate_succ, List.replicate_zero, List.cons_append, List.nil_append, List.length_cons, List.length_nil, PyData.bool.injEq, PyData.int.injEq, PyData.list.injEq, PyData.tuple.injEq, Bool.not_true, Bool.not_false, Bool.false_eq_true, if_true, if_false, ite_true, ite_false, decide_eq_true_eq, Nat.zero_add, Nat.zero_le, Nat.reduceAdd, Nat.reduceSub, Option.join, Option.bind_some, List.getElem?_nil]
      by_cases c : need ≤ r i
      · rw [if_pos ⟨hl, c⟩] at hr
        cases hr
        rw [if_pos c]
        exact ⟨by decide, q⟩
      · rw [if_neg (fun z => c z.2)] at hr
        rw [if_neg c]
        rw [if_pos (by omega), fIx_T hon.1, fIx_R hon.2]
        refine ⟨rfl, by decide, hlen, rawT f p g, dT_raw, l, ixN_nat (by rw [rawT_len]; exact hon.1), _, rawT_get hon.1, dT_raw, i, ixN_nat (by rw [tab_len]; exact hon.2), ?_⟩
        rw [rawT_put, ← dT_raw]
        have := hput (some (dN l i)) (some (.int (r i))) (some (.int l)) (some (.int i)) v hr
        simp only [nowOf, hl, if_true] at this ⊢
        exact this
    · obtain ⟨l, rfl⟩ := Nat.exists_eq_succ_of_ne_zero hl
      rw [if_neg (fun z => hl z.1)] at hr
      rw [if_neg (by omega)]
      rw [if_neg (by omega)]
      refine ⟨p, f, l + 1, i, S, rfl, hon, ?_⟩
      simp only [dCh, sSeq, sIf, sSet, sSetL, sAsg, sRet, sRetV, sRetL, sRetN, sNx, sBk, sCt, sApp, sExt, sExpr, sFor, sPar, sParL, sPut, gSet, gNilD, gConsD, gTupD, tBool, tNotD, tAndD, tOrD, tYesD, e1, e2, eN, eC, eVar, eIxO, aNil, aCons, eTup, eLst, eFlat, eIf, eChain, eAnd, eOr, eNot, eSl, pNone, pSome, eCall, eCallI, eCallS, iLst, iRg1, iRg2, iRg3, iZipD, iEnumD, sPut2, sSet2, eLc, wipeR, restR, fAdd_i, fAdd_l, fSub_i, fMul_i, fMul_l, fRep_l, fDiv_i, fMod_i, fPow_i, fNeg_i, fCmp_i, fLt, fLe, fGt, fGe, fLen_l, fLen_t, fInt_i, fInt_b, fAbs_i, fMax_i, fMax_l, fMin_i, fSum_l, fList_l, fList_t, fRev_l, fSl_l, fIx_l, fIx_t, fIs_n, fIsNot_n, fIs_b, fIsNot_b, isNone_n, isNone_i, isNone_l, isNone_t, isT_tt, isT_ii, isT_bi, isT_ll, fIsT, fEq, fNe, eqOk_i, eqOk_s, eqOk_l, eqOk_t, eqOk_n, eqv_nil, eqv_int, List.isEmpty_nil, List.isEmpty_cons, eq_self, atI_0, atI_1, atI_2, atI_3, atI_last, exists_eq', Int.cast_ofNat_Int, tab_len, endsP, endsI, rho0, List.set_cons_zero, List.set_cons_succ, List.getElem?_cons_zero, List.getElem?_cons_succ, Option.some.injEq, List.cons.injEq, exists_eq_left', exists_eq, and_assoc, exists_and_left, true_and, and_true, id_eq, List.map_cons, List.map_nil, List.replicate_succ, List.replicate_zero, List.cons_append, List.nil_append, List.length_cons, List.length_nil, PyData.bool.injEq, PyData.int.injEq, PyData.list.injEq, PyData.tuple.injEq, Bool.not_true, Bool.not_false, Bool.false_eq_true, if_true, if_false, ite_true, ite_false, decide_eq_true_eq, Nat.zero_add, Nat.zero_le, Nat.reduceAdd, Nat.reduceSub, Option.join, Option.bind_some, List.getElem?_nil]
      refine lcGo_onm (List.range (chN f p (l + 1) i)) _ (fun j => .int (g l (i * f + j))) [] (by rw [List.length_nil, List.length_range]; exact Nat.le_trans (by have := chN_le (l := l + 1) (i := i) S; omega) (show 2 ^ 20 ≤ sizeLine by decide)) ?_ ?_
      · intro j hj K Fl hK
        have hc := ch_lt hf hon (List.mem_range.mp hj)
        simp only [sSeq, sIf, sSet, sSetL, sAsg, sRet, sRetV, sRetL, sRetN, sNx, sBk, sCt, sApp, sExt, sExpr, sFor, sPar, sParL, sPut, gSet, gNilD, gConsD, gTupD, tBool, tNotD, tAndD, tOrD, tYesD, e1, e2, eN, eC, eVar, eIxO, aNil, aCons, eTup, eLst, eFlat, eIf, eChain, eAnd, eOr, eNot, eSl, pNone, pSome, eCall, eCallI, eCallS, iLst, iRg1, iRg2, iRg3, iZipD, iEnumD, sPut2, sSet2, eLc, wipeR, restR, fAdd_i, fAdd_l, fSub_i, fMul_i, fMul_l, fRep_l, fDiv_i, fMod_i, fPow_i, fNeg_i, fCmp_i, fLt, fLe, fGt, fGe, fLen_l, fLen_t, fInt_i, fInt_b, fAbs_i, fMax_i, fMax_l, fMin_i, fSum_l, fList_l, fList_t, fRev_l, fSl_l, fIx_l, fIx_t, fIs_n, fIsNot_n, fIs_b, fIsNot_b, isNone_n, isNone_i, isNone_l, isNone_t, isT_tt, isT_ii, isT_bi, isT_ll, fIsT, fEq, fNe, eqOk_i, eqOk_s, eqOk_l, eqOk_t, eqOk_n, eqv_nil, eqv_int, List.isEmpty_nil, List.isEmpty_cons, eq_self, atI_0, atI_1, atI_2, atI_3, atI_last, exists_eq', Int.cast_ofNat_Int, tab_len, endsP, endsI, rho0, List.set_cons_zero, List.set_cons_succ, List.getElem?_cons_zero, List.getElem?_cons_succ, Option.some.injEq, List.cons.injEq, exists_eq_left', exists_eq, and_assoc, exists_and_left, true_and, and_true, id_eq, List.map_cons, List.map_nil, List.replicate_succ, List.replicate_zero, List.cons_append, List.nil_append, List.length_cons, List.length_nil, PyData.bool.injEq, PyData.int.injEq, PyData.list.injEq, PyData.tuple.injEq, Bool.not_true, Bool.not_false, Bool.false_eq_true, if_true, if_false, ite_true, ite_false, decide_eq_true_eq, Nat.zero_add, Nat.zero_le, Nat.reduceAdd, Nat.reduceSub, Option.join, Option.bind_some, List.getElem?_nil, Nat.add_sub_cancel]
        refine ⟨f, p, g, l, i * f + j, S, hc, rfl, ?_⟩
        simp only [flat, sSeq, sIf, sSet, sSetL, sAsg, sRet, sRetV, sRetL, sRetN, sNx, sBk, sCt, sApp, sExt, sExpr, sFor, sPar, sParL, sPut, gSet, gNilD, gConsD, gTupD, tBool, tNotD, tAndD, tOrD, tYesD, e1, e2, eN, eC, eVar, eIxO, aNil, aCons, eTup, eLst, eFlat, eIf, eChain, eAnd, eOr, eNot, eSl, pNone, pSome, eCall, eCallI, eCallS, iLst, iRg1, iRg2, iRg3, iZipD, iEnumD, sPut2, sSet2, eLc, wipeR, restR, fAdd_i, fAdd_l, fSub_i, fMul_i, fMul_l, fRep_l, fDiv_i, fMod_i, fPow_i, fNeg_i, fCmp_i, fLt, fLe, fGt, fGe, fLen_l, fLen_t, fInt_i, fInt_b, fAbs_i, fMax_i, fMax_l, fMin_i, fSum_l, fList_l, fList_t, fRev_l, fSl_l, fIx_l, fIx_t, fIs_n, fIsNot_n, fIs_b, fIsNot_b, isNone_n, isNone_i, isNone_l, isNone_t, isT_tt, isT_ii, isT_bi, isT_ll, fIsT, fEq, fNe, eqOk_i, eqOk_s, eqOk_l, eqOk_t, eqOk_n, eqv_nil, eqv_int, List.isEmpty_nil, List.isEmpty_cons, eq_self, atI_0, atI_1, atI_2, atI_3, atI_last, exists_eq', Int.cast_ofNat_Int, tab_len, endsP, endsI, rho0, List.set_cons_zero, List.set_cons_succ, List.getElem?_cons_zero, List.getElem?_cons_succ, Option.some.injEq, List.cons.injEq, exists_eq_left', exists_eq, and_assoc, exists_and_left, true_and, and_true, id_eq, List.map_cons, List.map_nil, List.replicate_succ, List.replicate_zero, List.cons_append, List.nil_append, List.length_cons, List.length_nil, PyData.bool.injEq, PyData.int.injEq, PyData.list.injEq, PyData.tuple.injEq, Bool.not_true, Bool.not_false, Bool.false_eq_true, if_true, if_false, ite_true, ite_false, decide_eq_true_eq, Nat.zero_add, Nat.zero_le, Nat.reduceAdd, Nat.reduceSub, Option.join, Option.bind_some, List.getElem?_nil]
        exact hK _ rfl
      · simp only [sSeq, sIf, sSet, sSetL, sAsg, sRet, sRetV, sRetL, sRetN, sNx, sBk, sCt, sApp, sExt, sExpr, sFor, sPar, sParL, sPut, gSet, gNilD, gConsD, gTupD, tBool, tNotD, tAndD, tOrD, tYesD, e1, e2, eN, eC, eVar, eIxO, aNil, aCons, eTup, eLst, eFlat, eIf, eChain, eAnd, eOr, eNot, eSl, pNone, pSome, eCall, eCallI, eCallS, iLst, iRg1, iRg2, iRg3, iZipD, iEnumD, sPut2, sSet2, eLc, wipeR, restR, fAdd_i, fAdd_l, fSub_i, fMul_i, fMul_l, fRep_l, fDiv_i, fMod_i, fPow_i, fNeg_i, fCmp_i, fLt, fLe, fGt, fGe, fLen_l, fLen_t, fInt_i, fInt_b, fAbs_i, fMax_i, fMax_l, fMin_i, fSum_l, fList_l, fList_t, fRev_l, fSl_l, fIx_l, fIx_t, fIs_n, fIsNot_n, fIs_b, fIsNot_b, isNone_n, isNone_i, isNone_l, isNone_t, isT_tt, isT_ii, isT_bi, isT_ll, fIsT, fEq, fNe, eqOk_i, eqOk_s, eqOk_l, eqOk_t, eqOk_n, eqv_nil, eqv_int, List.isEmpty_nil, List.isEmpty_cons, eq_self, atI_0, atI_1, atI_2, atI_3, atI_last, exists_eq', Int.cast_ofNat_Int, tab_len, endsP, endsI, rho0, List.set_cons_zero, List.set_cons_succ, List.getElem?_cons_zero, List.getElem?_cons_succ, Option.some.injEq, List.cons.injEq, exists_eq_left', exists_eq, and_assoc, exists_and_left, true_and, and_true, id_eq, List.map_cons, List.map_nil, List.replicate_succ, List.replicate_zero, List.cons_append, List.nil_append, List.length_cons, List.length_nil, PyData.bool.injEq, PyData.int.injEq, PyData.list.injEq, PyData.tuple.injEq, Bool.not_true, Bool.not_false, Bool.false_eq_true, if_true, if_false, ite_true, ite_false, decide_eq_true_eq, Nat.zero_add, Nat.zero_le, Nat.reduceAdd, Nat.reduceSub, Option.join, Option.bind_some, List.getElem?_nil]
        refine ⟨_, intsD_tab, ?_, ?_⟩
        · intro z
          have := congrArg List.length z
          have := ch_pos hf hon
          rw [tab_len, List.length_nil] at *
          omega
        rw [fIx_T hon.1, fIx_R hon.2]
        refine ⟨rfl, by decide, hlen, rawT f p g, dT_raw, l + 1, ixN_nat (by rw [rawT_len]; exact hon.1), _, rawT_get hon.1, dT_raw, i, ixN_nat (by rw [tab_len]; exact hon.2), ?_⟩
        rw [rawT_put, ← dT_raw]
        exact hput _ _ _ _ _ hr
end DD

set_option Elab.async false
set_option linter.all false
set_option maxRecDepth 100000
set_option maxHeartbeats 4000000
/-! DM, part 5: mended, fault, covers, walks, finds -/
namespace DD
open PySem PySem.Spec PyProof.Rows L2

theorem rng1 {n : Nat} : rngD 1 ((n : Int) - 1).toNat = tab (n - 1) fun i => .int ((i + 1 : Nat) : Int) := by
  unfold rngD
  rw [show ((n : Int) - 1).toNat = n - 1 by omega]
  exact tab_congr fun i _ => by rw [show (1 : Int) + (i : Nat) = ((i + 1 : Nat) : Int) by omega]
theorem lvN_le {f p : Nat} (S : Shp f p) : lvN f p ≤ 21 := by have := S.ht20; unfold lvN; split <;> omega

theorem eqv_T {f p : Nat} {g : Nat → Nat → Int} : PyData.eqv (dT f p g) (.list []) = decide (p = 0) := by
  unfold dT
  rw [eqv_nil]
  by_cases hp : p = 0
  · subst hp; simp [lvN, tab]
  · rw [lvN_pos (by omega)]; simp [tab, hp, List.isEmpty_iff]
theorem fLen_T {f p : Nat} {g : Nat → Nat → Int} {Q : D → Prop} : fLen [dT f p g] Q = Q (.int (lvN f p : Int)) := by unfold dT; rw [fLen_l, tab_len]
theorem fLen_R {n : Nat} {r : Nat → Int} {Q : D → Prop} : fLen [dRow n r] Q = Q (.int (n : Int)) := by unfold dRow; rw [fLen_l, tab_len]
theorem fIx_0 {f p : Nat} {g : Nat → Nat → Int} {Q : D → Prop} (hp : 0 < p) : fIx (dT f p g) (.int 0) Q = Q (dRow p (g 0)) := by
  have := fIx_T (f := f) (p := p) (l := 0) (g := g) (Q := Q) (by rw [lvN_pos (by omega)]; omega)
  rwa [cnt_zero] at this

/-! ### mended -/
def mPl (g m : Nat → Nat → Int) (l j : Nat) : List (Nat × Nat × Int × Int) := ((List.range j).filter fun i => decide (g l i ≠ m l i)).map fun i => (l, i, g l i, m l i)
def mLv (f p : Nat) (g m : Nat → Nat → Int) : Nat → List (Nat × Nat × Int × Int)
  | 0 => []
  | n + 1 => mLv f p g m n ++ mPl g m (n + 1) (cnt f p (n + 1))
theorem mPl_len {g m : Nat → Nat → Int} {l j : Nat} : (mPl g m l j).length ≤ j := by
  unfold mPl
  rw [List.length_map]
  exact Nat.le_trans (List.length_filter_le _ _) (by simp)
theorem mLv_len {f p : Nat} {g m : Nat → Nat → Int} (hf : 2 ≤ f) : ∀ n, (mLv f p g m n).length ≤ n * p
  | 0 => by simp [mLv]
  | n + 1 => by
    have h1 := mLv_len (f := f) (p := p) (g := g) (m := m) hf n
    have h2 := mPl_len (g := g) (m := m) (l := n + 1) (j := cnt f p (n + 1))
    have h3 := cnt_le (p := p) (l := n + 1) hf
    rw [mLv, List.length_append, Nat.succ_mul]; omega
theorem mPl_succ {g m : Nat → Nat → Int} {l j : Nat} : mPl g m l (j + 1) = mPl g m l j ++ (if g l j ≠ m l j then [(l, j, g l j, m l j)] else []) := by
  unfold mPl
  rw [List.range_succ, List.filter_append, List.map_append]
  congr 1
  by_cases q : g l j ≠ m l j
  · rw [if_pos q]; simp [q]
  · rw [if_neg q]
    have : g l j = m l j := Decidable.not_not.mp q
    simp [this]
def sp_mended (ds : List D) (Q : D → Prop) : Prop := ∃ f p g, Shp f p ∧ p ≤ 2 ^ 16 ∧ BdT f p g ∧ ds = [dT f p g, .int (f : Int)] ∧ Q (.tuple [dT f p (bt f p (g 0)), .list ((mLv f p g (bt f p (g 0)) (ht f p)).map dM)])
def w_mended : DS := (sSeq (sIf (tBool (e2 fEq (eVar 0) (eLst aNil))) (sRet (eTup (aCons (eLst aNil) (aCons (eLst aNil) aNil)))) sNx) (sSeq (sSet 2 (eCall 2 sp_built (aCons (e2 fIx (eVar 0) (eC (.int 0))) (aCons (eVar 1) aNil)))) (sSeq (sSetL 3 (eLst aNil)) (sSeq (sFor (iRg2 (aCons (eC (.int 1)) (aCons (eN fLen (aCons (eVar 0) aNil)) aNil))) (gSet 4) (sFor (iRg1 (aCons (eN fLen (aCons (e2 fIx (eVar 0) (eVar 4)) aNil)) aNil)) (gSet 5) (sIf (tBool (e2 fNe (e2 fIx (e2 fIx (eVar 0) (eVar 4)) (eVar 5)) (e2 fIx (e2 fIx (eVar 2) (eVar 4)) (eVar 5)))) (sApp 3 (eTup (aCons (eVar 4) (aCons (eVar 5) (aCons (e2 fIx (e2 fIx (eVar 0) (eVar 4)) (eVar 5)) (aCons (e2 fIx (e2 fIx (eVar 2) (eVar 4)) (eVar 5)) aNil)))))) sNx))) (sRet (eTup (aCons (eVar 2) (aCons (eVar 3) aNil))))))))
theorem m_mended : ∀ ds Q, ds.length = 2 → sp_mended ds Q → w_mended (endsP false Q) (rho0 ds 4) := by
  rintro ds Q - ⟨f, p, g, S, p16, B, rfl, q⟩
  have hf := S.f2
  have h20 := S.ht20
  have hsh := gd_shaped (by decide) (gd_tree B)
  simp only [w_mended, eqv_T, sSeq, sIf, sSet, sSetL, sAsg, sRet, sRetV, sRetL, sRetN, sNx, sBk, sCt, sApp, sExt, sExpr, sFor, sPar, sParL, sPut, gSet, gNilD, gConsD, gTupD, tBool, tNotD, tAndD, tOrD, tYesD, e1, e2, eN, eC, eVar, eIxO, aNil, aCons, eTup, eLst, eFlat, eIf, eChain, eAnd, eOr, eNot, eSl, pNone, pSome, eCall, eCallI, eCallS, iLst, iRg1, iRg2, iRg3, iZipD, iEnumD, sPut2, sSet2, eLc, wipeR, restR, fAdd_i, fAdd_l, fSub_i, fMul_i, fMul_l, fRep_l, fDiv_i, fMod_i, fPow_i, fNeg_i, fCmp_i, fLt, fLe, fGt, fGe, fLen_l, fLen_t, fInt_i, fInt_b, fAbs_i, fMax_i, fMax_l, fMin_i, fSum_l, fList_l, fList_t, fRev_l, fSl_l, fIx_l, fIx_t, fIs_n, fIsNot_n, fIs_b, fIsNot_b, isNone_n, isNone_i, isNone_l, isNone_t, isT_tt, isT_ii, isT_bi, isT_ll, fIsT, fEq, fNe, eqOk_i, eqOk_s, eqOk_l, eqOk_t, eqOk_n, eqv_nil, eqv_int, List.isEmpty_nil, List.isEmpty_cons, eq_self, atI_0, atI_1, atI_2, atI_3, atI_last, exists_eq', Int.cast_ofNat_Int, tab_len, endsP, endsI, rho0, List.set_cons_zero, List.set_cons_succ, List.getElem?_cons_zero, List.getElem?_cons_succ, Option.some.injEq, List.cons.injEq, exists_eq_left', exists_eq, and_assoc, exists_and_left, true_and, and_true, id_eq, List.map_cons, List.map_nil, List.replicate_succ, List.replicate_zero, List.cons_append, List.nil_append, List.length_cons, List.length_nil, PyData.bool.injEq, PyData.int.injEq, PyData.list.injEq, PyData.tuple.injEq, Bool.not_true, Bool.not_false, Bool.false_eq_true, if_true, if_false, ite_true, ite_false, decide_eq_true_eq, Nat.zero_add, Nat.zero_le, Nat.reduceAdd, Nat.reduceSub, Option.join, Option.bind_some, List.getElem?_nil]
  refine ⟨hsh, shaped_nil, ?_⟩
  by_cases hp : p = 0
  · subst hp
    have z : ht f 0 = 0 := rfl
    rw [z, dT_nil] at q
    rw [if_pos rfl]
    exact ⟨by decide, q⟩
  rw [if_neg hp, fIx_0 (by omega)]
  have hB0 : Bd p (g 0) := fun i hi => B 0 i ⟨by rw [lvN_pos (by omega)]; omega, by rwa [cnt_zero]⟩
  generalize hm : bt f p (g 0) = m at q
  have hBm : BdT f p m := by rw [← hm]; exact bt_bd hf hB0
  refine ⟨p, f, g 0, S, hB0, rfl, ?_⟩
  rw [hm]
  have hN := lvN_le S
  simp only [fLen_T, sSeq, sIf, sSet, sSetL, sAsg, sRet, sRetV, sRetL, sRetN, sNx, sBk, sCt, sApp, sExt, sExpr, sFor, sPar, sParL, sPut, gSet, gNilD, gConsD, gTupD, tBool, tNotD, tAndD, tOrD, tYesD, e1, e2, eN, eC, eVar, eIxO, aNil, aCons, eTup, eLst, eFlat, eIf, eChain, eAnd, eOr, eNot, eSl, pNone, pSome, eCall, eCallI, eCallS, iLst, iRg1, iRg2, iRg3, iZipD, iEnumD, sPut2, sSet2, eLc, wipeR, restR, fAdd_i, fAdd_l, fSub_i, fMul_i, fMul_l, fRep_l, fDiv_i, fMod_i, fPow_i, fNeg_i, fCmp_i, fLt, fLe, fGt, fGe, fLen_l, fLen_t, fInt_i, fInt_b, fAbs_i, fMax_i, fMax_l, fMin_i, fSum_l, fList_l, fList_t, fRev_l, fSl_l, fIx_l, fIx_t, fIs_n, fIsNot_n, fIs_b, fIsNot_b, isNone_n, isNone_i, isNone_l, isNone_t, isT_tt, isT_ii, isT_bi, isT_ll, fIsT, fEq, fNe, eqOk_i, eqOk_s, eqOk_l, eqOk_t, eqOk_n, eqv_nil, eqv_int, List.isEmpty_nil, List.isEmpty_cons, eq_self, atI_0, atI_1, atI_2, atI_3, atI_last, exists_eq', Int.cast_ofNat_Int, tab_len, endsP, endsI, rho0, List.set_cons_zero, List.set_cons_succ, List.getElem?_cons_zero, List.getElem?_cons_succ, Option.some.injEq, List.cons.injEq, exists_eq_left', exists_eq, and_assoc, exists_and_left, true_and, and_true, id_eq, List.map_cons, List.map_nil, List.replicate_succ, List.replicate_zero, List.cons_append, List.nil_append, List.length_cons, List.length_nil, PyData.bool.injEq, PyData.int.injEq, PyData.list.injEq, PyData.tuple.injEq, Bool.not_true, Bool.not_false, Bool.false_eq_true, if_true, if_false, ite_true, ite_false, decide_eq_true_eq, Nat.zero_add, Nat.zero_le, Nat.reduceAdd, Nat.reduceSub, Option.join, Option.bind_some, List.getElem?_nil]
  refine ⟨by omega, by omega, by omega, by omega, ?_⟩
  rw [rng1]
  refine forGo_tab _ _ (fun n ρ => ∃ x y, ρ = [some (dT f p g), some (.int f), some (dT f p m), some (.list ((mLv f p g m n).map dM)), x, y]) ⟨none, none, rfl⟩ ?_ ?_
  · rintro ρ ⟨x, y, rfl⟩
    simp only [sSeq, sIf, sSet, sSetL, sAsg, sRet, sRetV, sRetL, sRetN, sNx, sBk, sCt, sApp, sExt, sExpr, sFor, sPar, sParL, sPut, gSet, gNilD, gConsD, gTupD, tBool, tNotD, tAndD, tOrD, tYesD, e1, e2, eN, eC, eVar, eIxO, aNil, aCons, eTup, eLst, eFlat, eIf, eChain, eAnd, eOr, eNot, eSl, pNone, pSome, eCall, eCallI, eCallS, iLst, iRg1, iRg2, iRg3, iZipD, iEnumD, sPut2, sSet2, eLc, wipeR, restR, fAdd_i, fAdd_l, fSub_i, fMul_i, fMul_l, fRep_l, fDiv_i, fMod_i, fPow_i, fNeg_i, fCmp_i, fLt, fLe, fGt, fGe, fLen_l, fLen_t, fInt_i, fInt_b, fAbs_i, fMax_i, fMax_l, fMin_i, fSum_l, fList_l, fList_t, fRev_l, fSl_l, fIx_l, fIx_t, fIs_n, fIsNot_n, fIs_b, fIsNot_b, isNone_n, isNone_i, isNone_l, isNone_t, isT_tt, isT_ii, isT_bi, isT_ll, fIsT, fEq, fNe, eqOk_i, eqOk_s, eqOk_l, eqOk_t, eqOk_n, eqv_nil, eqv_int, List.isEmpty_nil, List.isEmpty_cons, eq_self, atI_0, atI_1, atI_2, atI_3, atI_last, exists_eq', Int.cast_ofNat_Int, tab_len, endsP, endsI, rho0, List.set_cons_zero, List.set_cons_succ, List.getElem?_cons_zero, List.getElem?_cons_succ, Option.some.injEq, List.cons.injEq, exists_eq_left', exists_eq, and_assoc, exists_and_left, true_and, and_true, id_eq, List.map_cons, List.map_nil, List.replicate_succ, List.replicate_zero, List.cons_append, List.nil_append, List.length_cons, List.length_nil, PyData.bool.injEq, PyData.int.injEq, PyData.list.injEq, PyData.tuple.injEq, Bool.not_true, Bool.not_false, Bool.false_eq_true, if_true, if_false, ite_true, ite_false, decide_eq_true_eq, Nat.zero_add, Nat.zero_le, Nat.reduceAdd, Nat.reduceSub, Option.join, Option.bind_some, List.getElem?_nil]
    rw [lvN_pos (by omega), Nat.add_sub_cancel]
    exact ⟨by decide, q⟩
  · rintro n hn ρ ⟨x, y, rfl⟩ nx hnx
    have hl : n + 1 < lvN f p := by omega
    have hc := cnt_le (p := p) (l := n + 1) hf
    simp only [fIx_T hl, fLen_R, sSeq, sIf, sSet, sSetL, sAsg, sRet, sRetV, sRetL, sRetN, sNx, sBk, sCt, sApp, sExt, sExpr, sFor, sPar, sParL, sPut, gSet, gNilD, gConsD, gTupD, tBool, tNotD, tAndD, tOrD, tYesD, e1, e2, eN, eC, eVar, eIxO, aNil, aCons, eTup, eLst, eFlat, eIf, eChain, eAnd, eOr, eNot, eSl, pNone, pSome, eCall, eCallI, eCallS, iLst, iRg1, iRg2, iRg3, iZipD, iEnumD, sPut2, sSet2, eLc, wipeR, restR, fAdd_i, fAdd_l, fSub_i, fMul_i, fMul_l, fRep_l, fDiv_i, fMod_i, fPow_i, fNeg_i, fCmp_i, fLt, fLe, fGt, fGe, fLen_l, fLen_t, fInt_i, fInt_b, fAbs_i, fMax_i, fMax_l, fMin_i, fSum_l, fList_l, fList_t, fRev_l, fSl_l, fIx_l, fIx_t, fIs_n, fIsNot_n, fIs_b, fIsNot_b, isNone_n, isNone_i, isNone_l, isNone_t, isT_tt, isT_ii, isT_bi, isT_ll, fIsT, fEq, fNe, eqOk_i, eqOk_s, eqOk_l, eqOk_t, eqOk_n, eqv_nil, eqv_int, List.isEmpty_nil, List.isEmpty_cons, eq_self, atI_0, atI_1, atI_2, atI_3, atI_last, exists_eq', Int.cast_ofNat_Int, tab_len, endsP, endsI, rho0, List.set_cons_zero, List.set_cons_succ, List.getElem?_cons_zero, List.getElem?_cons_succ, Option.some.injEq, List.cons.injEq, exists_eq_left', exists_eq, and_assoc, exists_and_left, true_and, and_true, id_eq, List.map_cons, List.map_nil, List.replicate_succ, List.replicate_zero, List.cons_append, List.nil_append, List.length_cons, List.length_nil, PyData.bool.injEq, PyData.int.injEq, PyData.list.injEq, PyData.tuple.injEq, Bool.not_true, Bool.not_false, Bool.false_eq_true, if_true, if_false, ite_true, ite_false, decide_eq_true_eq, Nat.zero_add, Nat.zero_le, Nat.reduceAdd, Nat.reduceSub, Option.join, Option.bind_some, List.getElem?_nil]
    refine ⟨by omega, by omega, ?_⟩
    rw [Int.toNat_natCast, rngD_tab]
    refine forGo_tab _ _ (fun j ρ => ∃ y, ρ = [some (dT f p g), some (.int f), some (dT f p m), some (.list ((mLv f p g m n ++ mPl g m (n + 1) j).map dM)), some (.int ((n + 1 : Nat) : Int)), y]) ⟨y, by simp [mPl]⟩ ?_ ?_
    · rintro ρ ⟨y, rfl⟩
      exact hnx _ ⟨_, _, rfl⟩
    · rintro j hj ρ ⟨y, rfl⟩ nx2 hnx2
      simp only [fIx_T hl, fIx_R hj, sSeq, sIf, sSet, sSetL, sAsg, sRet, sRetV, sRetL, sRetN, sNx, sBk, sCt, sApp, sExt, sExpr, sFor, sPar, sParL, sPut, gSet, gNilD, gConsD, gTupD, tBool, tNotD, tAndD, tOrD, tYesD, e1, e2, eN, eC, eVar, eIxO, aNil, aCons, eTup, eLst, eFlat, eIf, eChain, eAnd, eOr, eNot, eSl, pNone, pSome, eCall, eCallI, eCallS, iLst, iRg1, iRg2, iRg3, iZipD, iEnumD, sPut2, sSet2, eLc, wipeR, restR, fAdd_i, fAdd_l, fSub_i, fMul_i, fMul_l, fRep_l, fDiv_i, fMod_i, fPow_i, fNeg_i, fCmp_i, fLt, fLe, fGt, fGe, fLen_l, fLen_t, fInt_i, fInt_b, fAbs_i, fMax_i, fMax_l, fMin_i, fSum_l, fList_l, fList_t, fRev_l, fSl_l, fIx_l, fIx_t, fIs_n, fIsNot_n, fIs_b, fIsNot_b, isNone_n, isNone_i, isNone_l, isNone_t, isT_tt, isT_ii, isT_bi, isT_ll, fIsT, fEq, fNe, eqOk_i, eqOk_s, eqOk_l, eqOk_t, eqOk_n, eqv_nil, eqv_int, List.isEmpty_nil, List.isEmpty_cons, eq_self, atI_0, atI_1, atI_2, atI_3, atI_last, exists_eq', Int.cast_ofNat_Int, tab_len, endsP, endsI, rho0, List.set_cons_zero, List.set_cons_succ, List.getElem?_cons_zero, List.getElem?_cons_succ, Option.some.injEq, List.cons.injEq, exists_eq_left', exists_eq, and_assoc, exists_and_left, true_and, and_true, id_eq, List.map_cons, List.map_nil, List.replicate_succ, List.replicate_zero, List.cons_append, List.nil_append, List.length_cons, List.length_nil, PyData.bool.injEq, PyData.int.injEq, PyData.list.injEq, PyData.tuple.injEq, Bool.not_true, Bool.not_false, Bool.false_eq_true, if_true, if_false, ite_true, ite_false, decide_eq_true_eq, Nat.zero_add, Nat.zero_le, Nat.reduceAdd, Nat.reduceSub, Option.join, Option.bind_some, List.getElem?_nil]
      have b1 := B (n + 1) j ⟨hl, hj⟩
      have b2 := hBm (n + 1) j ⟨hl, hj⟩
      have hl1 := mLv_len (p := p) (g := g) (m := m) hf n
      have hl2 := mPl_len (g := g) (m := m) (l := n + 1) (j := j)
      have hl3 : n * p ≤ 21 * 2 ^ 16 := Nat.mul_le_mul (by omega) p16
      by_cases c : g (n + 1) j = m (n + 1) j
      · have e : mPl g m (n + 1) (j + 1) = mPl g m (n + 1) j := by rw [mPl_succ, if_neg (by simpa using c), List.append_nil]
        simp only [c, decide_true, sSeq, sIf, sSet, sSetL, sAsg, sRet, sRetV, sRetL, sRetN, sNx, sBk, sCt, sApp, sExt, sExpr, sFor, sPar, sParL, sPut, gSet, gNilD, gConsD, gTupD, tBool, tNotD, tAndD, tOrD, tYesD, e1, e2, eN, eC, eVar, eIxO, aNil, aCons, eTup, eLst, eFlat, eIf, eChain, eAnd, eOr, eNot, eSl, pNone, pSome, eCall, eCallI, eCallS, iLst, iRg1, iRg2, iRg3, iZipD, iEnumD, sPut2, sSet2, eLc, wipeR, restR, fAdd_i, fAdd_l, fSub_i, fMul_i, fMul_l, fRep_l, fDiv_i, fMod_i, fPow_i, fNeg_i, fCmp_i, fLt, fLe, fGt, fGe, fLen_l, fLen_t, fInt_i, fInt_b, fAbs_i, fMax_i, fMax_l, fMin_i, fSum_l, fList_l, fList_t, fRev_l, fSl_l, fIx_l, fIx_t, fIs_n, fIsNot_n, fIs_b, fIsNot_b, isNone_n, isNone_i, isNone_l, isNone_t, isT_tt, isT_ii, isT_bi, isT_ll, fIsT, fEq, fNe, eqOk_i, eqOk_s, eqOk_l, eqOk_t, eqOk_n, eqv_nil, eqv_int, List.isEmpty_nil, List.isEmpty_cons, eq_self, atI_0, atI_1, atI_2, atI_3, atI_last, exists_eq', Int.cast_ofNat_Int, tab_len, endsP, endsI, rho0, List.set_cons_zero, List.set_cons_succ, List.getElem?_cons_zero, List.getElem?_cons_succ, Option.some.injEq, List.cons.injEq, exists_eq_left', exists_eq, and_assoc, exists_and_left, true_and, and_true, id_eq, List.map_cons, List.map_nil, List.replicate_succ, List.replicate_zero, List.cons_append, List.nil_append, List.length_cons, List.length_nil, PyData.bool.injEq, PyData.int.injEq, PyData.list.injEq, PyData.tuple.injEq, Bool.not_true, Bool.not_false, Bool.false_eq_true, if_true, if_false, ite_true, ite_false, decide_eq_true_eq, Nat.zero_add, Nat.zero_le, Nat.reduceAdd, Nat.reduceSub, Option.join, Option.bind_some, List.getElem?_nil]
        rw [← e]
        exact hnx2 _ ⟨_, rfl⟩
      · have e : mPl g m (n + 1) (j + 1) = mPl g m (n + 1) j ++ [(n + 1, j, g (n + 1) j, m (n + 1) j)] := by rw [mPl_succ, if_pos c]
        simp only [c, decide_false, sSeq, sIf, sSet, sSetL, sAsg, sRet, sRetV, sRetL, sRetN, sNx, sBk, sCt, sApp, sExt, sExpr, sFor, sPar, sParL, sPut, gSet, gNilD, gConsD, gTupD, tBool, tNotD, tAndD, tOrD, tYesD, e1, e2, eN, eC, eVar, eIxO, aNil, aCons, eTup, eLst, eFlat, eIf, eChain, eAnd, eOr, eNot, eSl, pNone, pSome, eCall, eCallI, eCallS, iLst, iRg1, iRg2, iRg3, iZipD, iEnumD, sPut2, sSet2, eLc, wipeR, restR, fAdd_i, fAdd_l, fSub_i, fMul_i, fMul_l, fRep_l, fDiv_i, fMod_i, fPow_i, fNeg_i, fCmp_i, fLt, fLe, fGt, fGe, fLen_l, fLen_t, fInt_i, fInt_b, fAbs_i, fMax_i, fMax_l, fMin_i, fSum_l, fList_l, fList_t, fRev_l, fSl_l, fIx_l, fIx_t, fIs_n, fIsNot_n, fIs_b, fIsNot_b, isNone_n, isNone_i, isNone_l, isNone_t, isT_tt, isT_ii, isT_bi, isT_ll, fIsT, fEq, fNe, eqOk_i, eqOk_s, eqOk_l, eqOk_t, eqOk_n, eqv_nil, eqv_int, List.isEmpty_nil, List.isEmpty_cons, eq_self, atI_0, atI_1, atI_2, atI_3, atI_last, exists_eq', Int.cast_ofNat_Int, tab_len, endsP, endsI, rho0, List.set_cons_zero, List.set_cons_succ, List.getElem?_cons_zero, List.getElem?_cons_succ, Option.some.injEq, List.cons.injEq, exists_eq_left', exists_eq, and_assoc, exists_and_left, true_and, and_true, id_eq, List.map_cons, List.map_nil, List.replicate_succ, List.replicate_zero, List.cons_append, List.nil_append, List.length_cons, List.length_nil, PyData.bool.injEq, PyData.int.injEq, PyData.list.injEq, PyData.tuple.injEq, Bool.not_true, Bool.not_false, Bool.false_eq_true, if_true, if_false, ite_true, ite_false, decide_eq_true_eq, Nat.zero_add, Nat.zero_le, Nat.reduceAdd, Nat.reduceSub, Option.join, Option.bind_some, List.getElem?_nil]
        refine ⟨by decide, by rw [List.length_map, List.length_append]; exact Nat.lt_of_le_of_lt (show _ ≤ 22 * 2 ^ 16 by omega) (by decide), ?_⟩
        have h := hnx2 _ ⟨some (.int (j : Int)), rfl⟩
        rw [e, ← List.append_assoc, List.map_append] at h
        exact h

/-! ### fault, where there is none -/
def WholeT (f p : Nat) (g : Nat → Nat → Int) : Prop := ∀ l i, OnT f p (l + 1) i → g (l + 1) i = due f p g (l + 1) i
def sp_fault (ds : List D) (Q : D → Prop) : Prop := ∃ f p g, Shp f p ∧ BdT f p g ∧ ds = [dT f p g, .int (f : Int)] ∧ WholeT f p g ∧ Q .none
def w_fault : DS := (sSeq (sFor (iRg2 (aCons (eC (.int 1)) (aCons (eN fLen (aCons (eVar 0) aNil)) aNil))) (gSet 2) (sSeq (sSet 3 (eCall 2 sp_told_above (aCons (e2 fIx (eVar 0) (e2 fSub (eVar 2) (eC (.int 1)))) (aCons (eVar 1) aNil)))) (sFor (iRg1 (aCons (eN fLen (aCons (eVar 3) aNil)) aNil)) (gSet 4) (sIf (tBool (e2 fNe (e2 fIx (e2 fIx (eVar 0) (eVar 2)) (eVar 4)) (e2 fIx (eVar 3) (eVar 4)))) (sRet (eTup (aCons (eVar 2) (aCons (eVar 4) aNil)))) sNx)))) (sRet (eC .none)))
theorem m_fault : ∀ ds Q, ds.length = 2 → sp_fault ds Q → w_fault (endsP false Q) (rho0 ds 3) := by
  rintro ds Q - ⟨f, p, g, S, B, rfl, W, q⟩
  have hf := S.f2
  have hN := lvN_le S
  simp only [w_fault, fLen_T, sSeq, sIf, sSet, sSetL, sAsg, sRet, sRetV, sRetL, sRetN, sNx, sBk, sCt, sApp, sExt, sExpr, sFor, sPar, sParL, sPut, gSet, gNilD, gConsD, gTupD, tBool, tNotD, tAndD, tOrD, tYesD, e1, e2, eN, eC, eVar, eIxO, aNil, aCons, eTup, eLst, eFlat, eIf, eChain, eAnd, eOr, eNot, eSl, pNone, pSome, eCall, eCallI, eCallS, iLst, iRg1, iRg2, iRg3, iZipD, iEnumD, sPut2, sSet2, eLc, wipeR, restR, fAdd_i, fAdd_l, fSub_i, fMul_i, fMul_l, fRep_l, fDiv_i, fMod_i, fPow_i, fNeg_i, fCmp_i, fLt, fLe, fGt, fGe, fLen_l, fLen_t, fInt_i, fInt_b, fAbs_i, fMax_i, fMax_l, fMin_i, fSum_l, fList_l, fList_t, fRev_l, fSl_l, fIx_l, fIx_t, fIs_n, fIsNot_n, fIs_b, fIsNot_b, isNone_n, isNone_i, isNone_l, isNone_t, isT_tt, isT_ii, isT_bi, isT_ll, fIsT, fEq, fNe, eqOk_i, eqOk_s, eqOk_l, eqOk_t, eqOk_n, eqv_nil, eqv_int, List.isEmpty_nil, List.isEmpty_cons, eq_self, atI_0, atI_1, atI_2, atI_3, atI_last, exists_eq', Int.cast_ofNat_Int, tab_len, endsP, endsI, rho0, List.set_cons_zero, List.set_cons_succ, List.getElem?_cons_zero, List.getElem?_cons_succ, Option.some.injEq, List.cons.injEq, exists_eq_left', exists_eq, and_assoc, exists_and_left, true_and, and_true, id_eq, List.map_cons, List.map_nil, List.replicate_succ, List.replicate_zero, List.cons_append, List.nil_append, List.length_cons, List.length_nil, PyData.bool.injEq, PyData.int.injEq, PyData.list.injEq, PyData.tuple.injEq, Bool.not_true, Bool.not_false, Bool.false_eq_true, if_true, if_false, ite_true, ite_false, decide_eq_true_eq, Nat.zero_add, Nat.zero_le, Nat.reduceAdd, Nat.reduceSub, Option.join, Option.bind_some, List.getElem?_nil]
  refine ⟨by omega, by omega, by omega, by omega, ?_⟩
  rw [rng1]
  refine forGo_tab _ _ (fun n ρ => ∃ x y z, ρ = [some (dT f p g), some (.int f), x, y, z]) ⟨none, none, none, rfl⟩ ?_ ?_
  · rintro ρ ⟨x, y, z, rfl⟩
    simp only [sSeq, sIf, sSet, sSetL, sAsg, sRet, sRetV, sRetL, sRetN, sNx, sBk, sCt, sApp, sExt, sExpr, sFor, sPar, sParL, sPut, gSet, gNilD, gConsD, gTupD, tBool, tNotD, tAndD, tOrD, tYesD, e1, e2, eN, eC, eVar, eIxO, aNil, aCons, eTup, eLst, eFlat, eIf, eChain, eAnd, eOr, eNot, eSl, pNone, pSome, eCall, eCallI, eCallS, iLst, iRg1, iRg2, iRg3, iZipD, iEnumD, sPut2, sSet2, eLc, wipeR, restR, fAdd_i, fAdd_l, fSub_i, fMul_i, fMul_l, fRep_l, fDiv_i, fMod_i, fPow_i, fNeg_i, fCmp_i, fLt, fLe, fGt, fGe, fLen_l, fLen_t, fInt_i, fInt_b, fAbs_i, fMax_i, fMax_l, fMin_i, fSum_l, fList_l, fList_t, fRev_l, fSl_l, fIx_l, fIx_t, fIs_n, fIsNot_n, fIs_b, fIsNot_b, isNone_n, isNone_i, isNone_l, isNone_t, isT_tt, isT_ii, isT_bi, isT_ll, fIsT, fEq, fNe, eqOk_i, eqOk_s, eqOk_l, eqOk_t, eqOk_n, eqv_nil, eqv_int, List.isEmpty_nil, List.isEmpty_cons, eq_self, atI_0, atI_1, atI_2, atI_3, atI_last, exists_eq', Int.cast_ofNat_Int, tab_len, endsP, endsI, rho0, List.set_cons_zero, List.set_cons_succ, List.getElem?_cons_zero, List.getElem?_cons_succ, Option.some.injEq, List.cons.injEq, exists_eq_left', exists_eq, and_assoc, exists_and_left, true_and, and_true, id_eq, List.map_cons, List.map_nil, List.replicate_succ, List.replicate_zero, List.cons_append, List.nil_append, List.length_cons, List.length_nil, PyData.bool.injEq, PyData.int.injEq, PyData.list.injEq, PyData.tuple.injEq, Bool.not_true, Bool.not_false, Bool.false_eq_true, if_true, if_false, ite_true, ite_false, decide_eq_true_eq, Nat.zero_add, Nat.zero_le, Nat.reduceAdd, Nat.reduceSub, Option.join, Option.bind_some, List.getElem?_nil]
    exact q
  · rintro n hn ρ ⟨x, y, z, rfl⟩ nx hnx
    have hl : n + 1 < lvN f p := by omega
    have z1 : ((n + 1 : Nat) : Int) - 1 = (n : Int) := by omega
    have hc := cnt_le (p := p) (l := n + 1) hf
    have pb := S.pb
    simp only [z1, fIx_T (lvN_down hl), sSeq, sIf, sSet, sSetL, sAsg, sRet, sRetV, sRetL, sRetN, sNx, sBk, sCt, sApp, sExt, sExpr, sFor, sPar, sParL, sPut, gSet, gNilD, gConsD, gTupD, tBool, tNotD, tAndD, tOrD, tYesD, e1, e2, eN, eC, eVar, eIxO, aNil, aCons, eTup, eLst, eFlat, eIf, eChain, eAnd, eOr, eNot, eSl, pNone, pSome, eCall, eCallI, eCallS, iLst, iRg1, iRg2, iRg3, iZipD, iEnumD, sPut2, sSet2, eLc, wipeR, restR, fAdd_i, fAdd_l, fSub_i, fMul_i, fMul_l, fRep_l, fDiv_i, fMod_i, fPow_i, fNeg_i, fCmp_i, fLt, fLe, fGt, fGe, fLen_l, fLen_t, fInt_i, fInt_b, fAbs_i, fMax_i, fMax_l, fMin_i, fSum_l, fList_l, fList_t, fRev_l, fSl_l, fIx_l, fIx_t, fIs_n, fIsNot_n, fIs_b, fIsNot_b, isNone_n, isNone_i, isNone_l, isNone_t, isT_tt, isT_ii, isT_bi, isT_ll, fIsT, fEq, fNe, eqOk_i, eqOk_s, eqOk_l, eqOk_t, eqOk_n, eqv_nil, eqv_int, List.isEmpty_nil, List.isEmpty_cons, eq_self, atI_0, atI_1, atI_2, atI_3, atI_last, exists_eq', Int.cast_ofNat_Int, tab_len, endsP, endsI, rho0, List.set_cons_zero, List.set_cons_succ, List.getElem?_cons_zero, List.getElem?_cons_succ, Option.some.injEq, List.cons.injEq, exists_eq_left', exists_eq, and_assoc, exists_and_left, true_and, and_true, id_eq, List.map_cons, List.map_nil, List.replicate_succ, List.replicate_zero, List.cons_append, List.nil_append, List.length_cons, List.length_nil, PyData.bool.injEq, PyData.int.injEq, PyData.list.injEq, PyData.tuple.injEq, Bool.not_true, Bool.not_false, Bool.false_eq_true, if_true, if_false, ite_true, ite_false, decide_eq_true_eq, Nat.zero_add, Nat.zero_le, Nat.reduceAdd, Nat.reduceSub, Option.join, Option.bind_some, List.getElem?_nil]
    refine ⟨cnt f p n, f, g n, S.f2, S.fb, Nat.le_trans (cnt_le S.f2) S.pb, rfl, ?_⟩
    rw [dRow_above S.f2]
    simp only [sSeq, sIf, sSet, sSetL, sAsg, sRet, sRetV, sRetL, sRetN, sNx, sBk, sCt, sApp, sExt, sExpr, sFor, sPar, sParL, sPut, gSet, gNilD, gConsD, gTupD, tBool, tNotD, tAndD, tOrD, tYesD, e1, e2, eN, eC, eVar, eIxO, aNil, aCons, eTup, eLst, eFlat, eIf, eChain, eAnd, eOr, eNot, eSl, pNone, pSome, eCall, eCallI, eCallS, iLst, iRg1, iRg2, iRg3, iZipD, iEnumD, sPut2, sSet2, eLc, wipeR, restR, fAdd_i, fAdd_l, fSub_i, fMul_i, fMul_l, fRep_l, fDiv_i, fMod_i, fPow_i, fNeg_i, fCmp_i, fLt, fLe, fGt, fGe, fLen_l, fLen_t, fInt_i, fInt_b, fAbs_i, fMax_i, fMax_l, fMin_i, fSum_l, fList_l, fList_t, fRev_l, fSl_l, fIx_l, fIx_t, fIs_n, fIsNot_n, fIs_b, fIsNot_b, isNone_n, isNone_i, isNone_l, isNone_t, isT_tt, isT_ii, isT_bi, isT_ll, fIsT, fEq, fNe, eqOk_i, eqOk_s, eqOk_l, eqOk_t, eqOk_n, eqv_nil, eqv_int, List.isEmpty_nil, List.isEmpty_cons, eq_self, atI_0, atI_1, atI_2, atI_3, atI_last, exists_eq', Int.cast_ofNat_Int, tab_len, endsP, endsI, rho0, List.set_cons_zero, List.set_cons_succ, List.getElem?_cons_zero, List.getElem?_cons_succ, Option.some.injEq, List.cons.injEq, exists_eq_left', exists_eq, and_assoc, exists_and_left, true_and, and_true, id_eq, List.map_cons, List.map_nil, List.replicate_succ, List.replicate_zero, List.cons_append, List.nil_append, List.length_cons, List.length_nil, PyData.bool.injEq, PyData.int.injEq, PyData.list.injEq, PyData.tuple.injEq, Bool.not_true, Bool.not_false, Bool.false_eq_true, if_true, if_false, ite_true, ite_false, decide_eq_true_eq, Nat.zero_add, Nat.zero_le, Nat.reduceAdd, Nat.reduceSub, Option.join, Option.bind_some, List.getElem?_nil]
    refine ⟨by omega, by omega, ?_⟩
    rw [Int.toNat_natCast, rngD_tab]
    refine forGo_tab _ _ (fun j ρ => ∃ z, ρ = [some (dT f p g), some (.int f), some (.int ((n + 1 : Nat) : Int)), some (dRow (cnt f p (n + 1)) (due f p g (n + 1))), z]) ⟨z, rfl⟩ ?_ ?_
    · rintro ρ ⟨y, rfl⟩
      exact hnx _ ⟨_, _, _, rfl⟩
    · rintro j hj ρ ⟨y, rfl⟩ nx2 hnx2
      simp only [fIx_T hl, sSeq, sIf, sSet, sSetL, sAsg, sRet, sRetV, sRetL, sRetN, sNx, sBk, sCt, sApp, sExt, sExpr, sFor, sPar, sParL, sPut, gSet, gNilD, gConsD, gTupD, tBool, tNotD, tAndD, tOrD, tYesD, e1, e2, eN, eC, eVar, eIxO, aNil, aCons, eTup, eLst, eFlat, eIf, eChain, eAnd, eOr, eNot, eSl, pNone, pSome, eCall, eCallI, eCallS, iLst, iRg1, iRg2, iRg3, iZipD, iEnumD, sPut2, sSet2, eLc, wipeR, restR, fAdd_i, fAdd_l, fSub_i, fMul_i, fMul_l, fRep_l, fDiv_i, fMod_i, fPow_i, fNeg_i, fCmp_i, fLt, fLe, fGt, fGe, fLen_l, fLen_t, fInt_i, fInt_b, fAbs_i, fMax_i, fMax_l, fMin_i, fSum_l, fList_l, fList_t, fRev_l, fSl_l, fIx_l, fIx_t, fIs_n, fIsNot_n, fIs_b, fIsNot_b, isNone_n, isNone_i, isNone_l, isNone_t, isT_tt, isT_ii, isT_bi, isT_ll, fIsT, fEq, fNe, eqOk_i, eqOk_s, eqOk_l, eqOk_t, eqOk_n, eqv_nil, eqv_int, List.isEmpty_nil, List.isEmpty_cons, eq_self, atI_0, atI_1, atI_2, atI_3, atI_last, exists_eq', Int.cast_ofNat_Int, tab_len, endsP, endsI, rho0, List.set_cons_zero, List.set_cons_succ, List.getElem?_cons_zero, List.getElem?_cons_succ, Option.some.injEq, List.cons.injEq, exists_eq_left', exists_eq, and_assoc, exists_and_left, true_and, and_true, id_eq, List.map_cons, List.map_nil, List.replicate_succ, List.replicate_zero, List.cons_append, List.nil_append, List.length_cons, List.length_nil, PyData.bool.injEq, PyData.int.injEq, PyData.list.injEq, PyData.tuple.injEq, Bool.not_true, Bool.not_false, Bool.false_eq_true, if_true, if_false, ite_true, ite_false, decide_eq_true_eq, Nat.zero_add, Nat.zero_le, Nat.reduceAdd, Nat.reduceSub, Option.join, Option.bind_some, List.getElem?_nil]
      simp only [fIx_R hj, atI_tab hj, sSeq, sIf, sSet, sSetL, sAsg, sRet, sRetV, sRetL, sRetN, sNx, sBk, sCt, sApp, sExt, sExpr, sFor, sPar, sParL, sPut, gSet, gNilD, gConsD, gTupD, tBool, tNotD, tAndD, tOrD, tYesD, e1, e2, eN, eC, eVar, eIxO, aNil, aCons, eTup, eLst, eFlat, eIf, eChain, eAnd, eOr, eNot, eSl, pNone, pSome, eCall, eCallI, eCallS, iLst, iRg1, iRg2, iRg3, iZipD, iEnumD, sPut2, sSet2, eLc, wipeR, restR, fAdd_i, fAdd_l, fSub_i, fMul_i, fMul_l, fRep_l, fDiv_i, fMod_i, fPow_i, fNeg_i, fCmp_i, fLt, fLe, fGt, fGe, fLen_l, fLen_t, fInt_i, fInt_b, fAbs_i, fMax_i, fMax_l, fMin_i, fSum_l, fList_l, fList_t, fRev_l, fSl_l, fIx_l, fIx_t, fIs_n, fIsNot_n, fIs_b, fIsNot_b, isNone_n, isNone_i, isNone_l, isNone_t, isT_tt, isT_ii, isT_bi, isT_ll, fIsT, fEq, fNe, eqOk_i, eqOk_s, eqOk_l, eqOk_t, eqOk_n, eqv_nil, eqv_int, List.isEmpty_nil, List.isEmpty_cons, eq_self, atI_0, atI_1, atI_2, atI_3, atI_last, exists_eq', Int.cast_ofNat_Int, tab_len, endsP, endsI, rho0, List.set_cons_zero, List.set_cons_succ, List.getElem?_cons_zero, List.getElem?_cons_succ, Option.some.injEq, List.cons.injEq, exists_eq_left', exists_eq, and_assoc, exists_and_left, true_and, and_true, id_eq, List.map_cons, List.map_nil, List.replicate_succ, List.replicate_zero, List.cons_append, List.nil_append, List.length_cons, List.length_nil, PyData.bool.injEq, PyData.int.injEq, PyData.list.injEq, PyData.tuple.injEq, Bool.not_true, Bool.not_false, Bool.false_eq_true, if_true, if_false, ite_true, ite_false, decide_eq_true_eq, Nat.zero_add, Nat.zero_le, Nat.reduceAdd, Nat.reduceSub, Option.join, Option.bind_some, List.getElem?_nil]
      have b1 := B (n + 1) j ⟨hl, hj⟩
      rw [← W n j ⟨hl, hj⟩]
      simp only [decide_true, sSeq, sIf, sSet, sSetL, sAsg, sRet, sRetV, sRetL, sRetN, sNx, sBk, sCt, sApp, sExt, sExpr, sFor, sPar, sParL, sPut, gSet, gNilD, gConsD, gTupD, tBool, tNotD, tAndD, tOrD, tYesD, e1, e2, eN, eC, eVar, eIxO, aNil, aCons, eTup, eLst, eFlat, eIf, eChain, eAnd, eOr, eNot, eSl, pNone, pSome, eCall, eCallI, eCallS, iLst, iRg1, iRg2, iRg3, iZipD, iEnumD, sPut2, sSet2, eLc, wipeR, restR, fAdd_i, fAdd_l, fSub_i, fMul_i, fMul_l, fRep_l, fDiv_i, fMod_i, fPow_i, fNeg_i, fCmp_i, fLt, fLe, fGt, fGe, fLen_l, fLen_t, fInt_i, fInt_b, fAbs_i, fMax_i, fMax_l, fMin_i, fSum_l, fList_l, fList_t, fRev_l, fSl_l, fIx_l, fIx_t, fIs_n, fIsNot_n, fIs_b, fIsNot_b, isNone_n, isNone_i, isNone_l, isNone_t, isT_tt, isT_ii, isT_bi, isT_ll, fIsT, fEq, fNe, eqOk_i, eqOk_s, eqOk_l, eqOk_t, eqOk_n, eqv_nil, eqv_int, List.isEmpty_nil, List.isEmpty_cons, eq_self, atI_0, atI_1, atI_2, atI_3, atI_last, exists_eq', Int.cast_ofNat_Int, tab_len, endsP, endsI, rho0, List.set_cons_zero, List.set_cons_succ, List.getElem?_cons_zero, List.getElem?_cons_succ, Option.some.injEq, List.cons.injEq, exists_eq_left', exists_eq, and_assoc, exists_and_left, true_and, and_true, id_eq, List.map_cons, List.map_nil, List.replicate_succ, List.replicate_zero, List.cons_append, List.nil_append, List.length_cons, List.length_nil, PyData.bool.injEq, PyData.int.injEq, PyData.list.injEq, PyData.tuple.injEq, Bool.not_true, Bool.not_false, Bool.false_eq_true, if_true, if_false, ite_true, ite_false, decide_eq_true_eq, Nat.zero_add, Nat.zero_le, Nat.reduceAdd, Nat.reduceSub, Option.join, Option.bind_some, List.getElem?_nil]
      exact hnx2 _ ⟨_, rfl⟩

/-! ### covers -/
abbrev dP (x : Nat × Nat) : D := dN x.1 x.2
def chL (f p l i : Nat) : List (Nat × Nat) := (List.range (chN f p l i)).map fun j => (l - 1, i * f + j)
theorem dCh_L {f p l i : Nat} : dCh f p l i = .list ((chL f p l i).map dP) := by unfold dCh chL tab; rw [List.map_map]; rfl
def wthn (f p b e : Nat) : Nat → Nat → List (Nat × Nat)
  | 0, i => if min p ((i + 1) * f ^ 0) ≤ b ∨ e ≤ i * f ^ 0 then [] else if b ≤ i * f ^ 0 ∧ min p ((i + 1) * f ^ 0) ≤ e then [(0, i)] else []
  | l + 1, i => if min p ((i + 1) * f ^ (l + 1)) ≤ b ∨ e ≤ i * f ^ (l + 1) then [] else if b ≤ i * f ^ (l + 1) ∧ min p ((i + 1) * f ^ (l + 1)) ≤ e then [(l + 1, i)] else
    (List.range (chN f p (l + 1) i)).flatMap fun j => wthn f p b e l (i * f + j)
theorem wthn_eq {f p b e l i : Nat} : wthn f p b e l i = if min p ((i + 1) * f ^ l) ≤ b ∨ e ≤ i * f ^ l then [] else if b ≤ i * f ^ l ∧ min p ((i + 1) * f ^ l) ≤ e then [(l, i)] else
    (List.range (chN f p l i)).flatMap fun j => wthn f p b e (l - 1) (i * f + j) := by
  cases l with
  | zero => rw [wthn]; simp [chN]
  | succ l => rw [wthn]; rfl
theorem wthn_on {f p b e : Nat} (hf : 2 ≤ f) : ∀ l i, OnT f p l i → ∀ x ∈ wthn f p b e l i, OnT f p x.1 x.2 := by
  intro l
  induction l with
  | zero =>
    intro i h x hx
    rw [wthn] at hx
    split at hx
    · cases hx
    · split at hx
      · rw [List.mem_singleton] at hx; subst hx; exact h
      · cases hx
  | succ l ih =>
    intro i h x hx
    rw [wthn] at hx
    split at hx
    · cases hx
    · split at hx
      · rw [List.mem_singleton] at hx; subst hx; exact h
      · obtain ⟨j, hj, hx⟩ := List.mem_flatMap.mp hx
        exact ih _ (ch_lt hf h (List.mem_range.mp hj)) x hx
/-- the pages of the first so many children -/
theorem flat_len {f p b e l i : Nat} (N : Nat) (ih : ∀ j, j < N → (wthn f p b e l (i * f + j)).length ≤ min p ((i * f + j + 1) * f ^ l) - (i * f + j) * f ^ l) :
    ∀ n, n ≤ N → ((List.range n).flatMap fun j => wthn f p b e l (i * f + j)).length ≤ min p ((i * f + n) * f ^ l) - i * f * f ^ l
  | 0, _ => by simp
  | n + 1, hn => by
    have h1 := flat_len N ih n (by omega)
    have h2 := ih n (by omega)
    rw [List.range_succ, List.flatMap_append, List.length_append, List.flatMap_singleton]
    have e1 : (i * f + (n + 1)) * f ^ l = (i * f + n + 1) * f ^ l := by rw [Nat.add_assoc]
    have e2 : (i * f + n + 1) * f ^ l = (i * f + n) * f ^ l + f ^ l := Nat.succ_mul _ _
    have e3 : (i * f + n) * f ^ l = i * f * f ^ l + n * f ^ l := Nat.add_mul _ _ _
    omega
theorem wthn_len {f p b e : Nat} (hf : 2 ≤ f) : ∀ l i, OnT f p l i → (wthn f p b e l i).length ≤ min p ((i + 1) * f ^ l) - i * f ^ l := by
  intro l
  induction l with
  | zero =>
    intro i hon
    have hlt := (lt_cnt hf).mp hon.2
    rw [wthn]
    split
    · simp
    · split
      · rename_i h1 h2
        have : (i + 1) * f ^ 0 = i * f ^ 0 + 1 := by simp
        rw [List.length_singleton]
        omega
      · simp
  | succ l ih =>
    intro i hon
    have hlt := (lt_cnt hf).mp hon.2
    rw [wthn]
    have e4 : i * f ^ (l + 1) = i * f * f ^ l := by rw [Nat.pow_succ, Nat.mul_comm (f ^ l) f, Nat.mul_assoc]
    have e5 : (i + 1) * f ^ (l + 1) = (i * f + f) * f ^ l := by rw [Nat.pow_succ, Nat.mul_comm (f ^ l) f, ← Nat.mul_assoc, Nat.succ_mul]
    split
    · simp
    · split
      · rename_i h1 h2
        have := pw_pos (f := f) (l := l + 1) hf
        have : (i + 1) * f ^ (l + 1) = i * f ^ (l + 1) + f ^ (l + 1) := Nat.succ_mul _ _
        rw [List.length_singleton]
        omega
      · have h := flat_len (chN f p (l + 1) i) (fun j hj => ih (i * f + j) (ch_lt hf hon hj)) (chN f p (l + 1) i) (Nat.le_refl _)
        rw [e4, e5]
        refine Nat.le_trans h ?_
        have : (i * f + chN f p (l + 1) i) * f ^ l ≤ (i * f + f) * f ^ l := Nat.mul_le_mul_right _ (by unfold chN; rw [if_neg (by omega)]; omega)
        omega
def sq_within (n : Nat) (ds : List D) (Q : D → Prop) : Prop := ∃ (f p l i b e : Nat), Shp f p ∧ OnT f p l i ∧ l < n ∧ b ≤ 2 ^ 20 ∧ e ≤ 2 ^ 20 ∧ ds = [dSh p f, dN l i, .int (b : Int), .int (e : Int)] ∧ Q (.list ((wthn f p b e l i).map dP))
def w_within (R : List D → (D → Prop) → Prop) : DS := (sSeq (sAsg (gTupD 2 (gConsD (gSet 6) (gConsD (gSet 7) gNilD))) (eCall 2 sp_span (aCons (eVar 0) (aCons (eVar 1) aNil)))) (sSeq (sIf (tOrD (tBool (e2 fLe (eVar 7) (eVar 2))) (tBool (e2 fLe (eVar 3) (eVar 6)))) (sRet (eLst aNil)) sNx) (sSeq (sIf (tAndD (tBool (e2 fLe (eVar 2) (eVar 6))) (tBool (e2 fLe (eVar 7) (eVar 3)))) (sRet (eLst (aCons (eVar 1) aNil))) sNx) (sSeq (sSetL 4 (eLst aNil)) (sSeq (sFor (iLst (eCall 2 sp_children (aCons (eVar 0) (aCons (eVar 1) aNil)))) (gSet 5) (sExt 4 (eCall 4 R (aCons (eVar 0) (aCons (eVar 5) (aCons (eVar 2) (aCons (eVar 3) aNil))))))) (sRet (eVar 4)))))))
theorem m_within {n : Nat} : ∀ ds Q, ds.length = 4 → sq_within (n + 1) ds Q → w_within (sq_within n) (endsP false Q) (rho0 ds 4) := by
  rintro ds Q - ⟨f, p, l, i, b, e, S, hon, hl, hb, he, rfl, q⟩
  have hf := S.f2
  rw [wthn_eq] at q
  simp only [w_within, sSeq, sIf, sSet, sSetL, sAsg, sRet, sRetV, sRetL, sRetN, sNx, sBk, sCt, sApp, sExt, sExpr, sFor, sPar, sParL, sPut, gSet, gNilD, gConsD, gTupD, tBool, tNotD, tAndD, tOrD, tYesD, e1, e2, eN, eC, eVar, eIxO, aNil, aCons, eTup, eLst, eFlat, eIf, eChain, eAnd, eOr, eNot, eSl, pNone, pSome, eCall, eCallI, eCallS, iLst, iRg1, iRg2, iRg3, iZipD, iEnumD, sPut2, sSet2, eLc, wipeR, restR, fAdd_i, fAdd_l, fSub_i, fMul_i, fMul_l, fRep_l, fDiv_i, fMod_i, fPow_i, fNeg_i, fCmp_i, fLt, fLe, fGt, fGe, fLen_l, fLen_t, fInt_i, fInt_b, fAbs_i, fMax_i, fMax_l, fMin_i, fSum_l, fList_l, fList_t, fRev_l, fSl_l, fIx_l, fIx_t, fIs_n, fIsNot_n, fIs_b, fIsNot_b, isNone_n, isNone_i, isNone_l, isNone_t, isT_tt, isT_ii, isT_bi, isT_ll, fIsT, fEq, fNe, eqOk_i, eqOk_s, eqOk_l, eqOk_t, eqOk_n, eqv_nil, eqv_int, List.isEmpty_nil, List.isEmpty_cons, eq_self, atI_0, atI_1, atI_2, atI_3, atI_last, exists_eq', Int.cast_ofNat_Int, tab_len, endsP, endsI, rho0, List.set_cons_zero, List.set_cons_succ, List.getElem?_cons_zero, List.getElem?_cons_succ, Option.some.injEq, List.cons.injEq, exists_eq_left', exists_eq, and_assoc, exists_and_left, true_and, and_true, id_eq, List.map_cons, List.map_nil, List.replicate_succ, List.replicate_zero, List.cons_append, List.nil_append, List.length_cons, List.length_nil, PyData.bool.injEq, PyData.int.injEq, PyData.list.injEq, PyData.tuple.injEq, Bool.not_true, Bool.not_false, Bool.false_eq_true, if_true, if_false, ite_true, ite_false, decide_eq_true_eq, Nat.zero_add, Nat.zero_le, Nat.reduceAdd, Nat.reduceSub, Option.join, Option.bind_some, List.getElem?_nil]
  refine ⟨p, f, l, i, S, rfl, hon, ?_⟩
  simp only [sSeq, sIf, sSet, sSetL, sAsg, sRet, sRetV, sRetL, sRetN, sNx, sBk, sCt, sApp, sExt, sExpr, sFor, sPar, sParL, sPut, gSet, gNilD, gConsD, gTupD, tBool, tNotD, tAndD, tOrD, tYesD, e1, e2, eN, eC, eVar, eIxO, aNil, aCons, eTup, eLst, eFlat, eIf, eChain, eAnd, eOr, eNot, eSl, pNone, pSome, eCall, eCallI, eCallS, iLst, iRg1, iRg2, iRg3, iZipD, iEnumD, sPut2, sSet2, eLc, wipeR, restR, fAdd_i, fAdd_l, fSub_i, fMul_i, fMul_l, fRep_l, fDiv_i, fMod_i, fPow_i, fNeg_i, fCmp_i, fLt, fLe, fGt, fGe, fLen_l, fLen_t, fInt_i, fInt_b, fAbs_i, fMax_i, fMax_l, fMin_i, fSum_l, fList_l, fList_t, fRev_l, fSl_l, fIx_l, fIx_t, fIs_n, fIsNot_n, fIs_b, fIsNot_b, isNone_n, isNone_i, isNone_l, isNone_t, isT_tt, isT_ii, isT_bi, isT_ll, fIsT, fEq, fNe, eqOk_i, eqOk_s, eqOk_l, eqOk_t, eqOk_n, eqv_nil, eqv_int, List.isEmpty_nil, List.isEmpty_cons, eq_self, atI_0, atI_1, atI_2, atI_3, atI_last, exists_eq', Int.cast_ofNat_Int, tab_len, endsP, endsI, rho0, List.set_cons_zero, List.set_cons_succ, List.getElem?_cons_zero, List.getElem?_cons_succ, Option.some.injEq, List.cons.injEq, exists_eq_left', exists_eq, and_assoc, exists_and_left, true_and, and_true, id_eq, List.map_cons, List.map_nil, List.replicate_succ, List.replicate_zero, List.cons_append, List.nil_append, List.length_cons, List.length_nil, PyData.bool.injEq, PyData.int.injEq, PyData.list.injEq, PyData.tuple.injEq, Bool.not_true, Bool.not_false, Bool.false_eq_true, if_true, if_false, ite_true, ite_false, decide_eq_true_eq, Nat.zero_add, Nat.zero_le, Nat.reduceAdd, Nat.reduceSub, Option.join, Option.bind_some, List.getElem?_nil]
  by_cases c1 : min p ((i + 1) * f ^ l) ≤ b
  · rw [if_pos (by omega)]
    rw [if_pos (.inl c1)] at q
    exact q
  rw [if_neg (by omega)]
  by_cases c2 : e ≤ i * f ^ l
  · rw [if_pos (by omega)]
    rw [if_pos (.inr c2)] at q
    exact q
  rw [if_neg (by omega)]
  rw [if_neg (by omega)] at q
  by_cases c3 : b ≤ i * f ^ l ∧ min p ((i + 1) * f ^ l) ≤ e
  · rw [if_pos (by omega), if_pos (by omega)]
    rw [if_pos c3] at q
    exact ⟨by decide, q⟩
  rw [if_neg c3] at q
  suffices h : sSeq (sFor (iLst (eCall 2 sp_children (aCons (eVar 0) (aCons (eVar 1) aNil)))) (gSet 5) (sExt 4 (eCall 4 (sq_within n) (aCons (eVar 0) (aCons (eVar 5) (aCons (eVar 2) (aCons (eVar 3) aNil))))))) (sRet (eVar 4)) (endsP false Q) [some (dSh p f), some (dN l i), some (.int b), some (.int e), some (.list []), none, some (.int ((i * f ^ l : Nat) : Int)), some (.int ((min p ((i + 1) * f ^ l) : Nat) : Int))] by
    simp only [sSeq, sIf, sSet, sSetL, sAsg, sRet, sRetV, sRetL, sRetN, sNx, sBk, sCt, sApp, sExt, sExpr, sFor, sPar, sParL, sPut, gSet, gNilD, gConsD, gTupD, tBool, tNotD, tAndD, tOrD, tYesD, e1, e2, eN, eC, eVar, eIxO, aNil, aCons, eTup, eLst, eFlat, eIf, eChain, eAnd, eOr, eNot, eSl, pNone, pSome, eCall, eCallI, eCallS, iLst, iRg1, iRg2, iRg3, iZipD, iEnumD, sPut2, sSet2, eLc, wipeR, restR, fAdd_i, fAdd_l, fSub_i, fMul_i, fMul_l, fRep_l, fDiv_i, fMod_i, fPow_i, fNeg_i, fCmp_i, fLt, fLe, fGt, fGe, fLen_l, fLen_t, fInt_i, fInt_b, fAbs_i, fMax_i, fMax_l, fMin_i, fSum_l, fList_l, fList_t, fRev_l, fSl_l, fIx_l, fIx_t, fIs_n, fIsNot_n, fIs_b, fIsNot_b, isNone_n, isNone_i, isNone_l, isNone_t, isT_tt, isT_ii, isT_bi, isT_ll, fIsT, fEq, fNe, eqOk_i, eqOk_s, eqOk_l, eqOk_t, eqOk_n, eqv_nil, eqv_int, List.isEmpty_nil, List.isEmpty_cons, eq_self, atI_0, atI_1, atI_2, atI_3, atI_last, exists_eq', Int.cast_ofNat_Int, tab_len, endsP, endsI, rho0, List.set_cons_zero, List.set_cons_succ, List.getElem?_cons_zero, List.getElem?_cons_succ, Option.some.injEq, List.cons.injEq, exists_eq_left', exists_eq, and_assoc, exists_and_left, true_and, and_true, id_eq, List.map_cons, List.map_nil, List.replicate_succ, List.replicate_zero, List.cons_append, List.nil_append, List.length_cons, List.length_nil, PyData.bool.injEq, PyData.int.injEq, PyData.list.injEq, PyData.tuple.injEq, Bool.not_true, Bool.not_false, Bool.false_eq_true, if_true, if_false, ite_true, ite_false, decide_eq_true_eq, Nat.zero_add, Nat.zero_le, Nat.reduceAdd, Nat.reduceSub, Option.join, Option.bind_some, List.getElem?_nil] at h
    by_cases c4 : b ≤ i * f ^ l
    · rw [if_pos (by omega), if_neg (by omega)]
      exact h
    · rw [if_neg (by omega)]
      exact h
  simp only [sSeq, sIf, sSet, sSetL, sAsg, sRet, sRetV, sRetL, sRetN, sNx, sBk, sCt, sApp, sExt, sExpr, sFor, sPar, sParL, sPut, gSet, gNilD, gConsD, gTupD, tBool, tNotD, tAndD, tOrD, tYesD, e1, e2, eN, eC, eVar, eIxO, aNil, aCons, eTup, eLst, eFlat, eIf, eChain, eAnd, eOr, eNot, eSl, pNone, pSome, eCall, eCallI, eCallS, iLst, iRg1, iRg2, iRg3, iZipD, iEnumD, sPut2, sSet2, eLc, wipeR, restR, fAdd_i, fAdd_l, fSub_i, fMul_i, fMul_l, fRep_l, fDiv_i, fMod_i, fPow_i, fNeg_i, fCmp_i, fLt, fLe, fGt, fGe, fLen_l, fLen_t, fInt_i, fInt_b, fAbs_i, fMax_i, fMax_l, fMin_i, fSum_l, fList_l, fList_t, fRev_l, fSl_l, fIx_l, fIx_t, fIs_n, fIsNot_n, fIs_b, fIsNot_b, isNone_n, isNone_i, isNone_l, isNone_t, isT_tt, isT_ii, isT_bi, isT_ll, fIsT, fEq, fNe, eqOk_i, eqOk_s, eqOk_l, eqOk_t, eqOk_n, eqv_nil, eqv_int, List.isEmpty_nil, List.isEmpty_cons, eq_self, atI_0, atI_1, atI_2, atI_3, atI_last, exists_eq', Int.cast_ofNat_Int, tab_len, endsP, endsI, rho0, List.set_cons_zero, List.set_cons_succ, List.getElem?_cons_zero, List.getElem?_cons_succ, Option.some.injEq, List.cons.injEq, exists_eq_left', exists_eq, and_assoc, exists_and_left, true_and, and_true, id_eq, List.map_cons, List.map_nil, List.replicate_succ, List.replicate_zero, List.cons_append, List.nil_append, List.length_cons, List.length_nil, PyData.bool.injEq, PyData.int.injEq, PyData.list.injEq, PyData.tuple.injEq, Bool.not_true, Bool.not_false, Bool.false_eq_true, if_true, if_false, ite_true, ite_false, decide_eq_true_eq, Nat.zero_add, Nat.zero_le, Nat.reduceAdd, Nat.reduceSub, Option.join, Option.bind_some, List.getElem?_nil]
  refine ⟨p, f, l, i, S, rfl, hon, ?_⟩
  simp only [dCh, sSeq, sIf, sSet, sSetL, sAsg, sRet, sRetV, sRetL, sRetN, sNx, sBk, sCt, sApp, sExt, sExpr, sFor, sPar, sParL, sPut, gSet, gNilD, gConsD, gTupD, tBool, tNotD, tAndD, tOrD, tYesD, e1, e2, eN, eC, eVar, eIxO, aNil, aCons, eTup, eLst, eFlat, eIf, eChain, eAnd, eOr, eNot, eSl, pNone, pSome, eCall, eCallI, eCallS, iLst, iRg1, iRg2, iRg3, iZipD, iEnumD, sPut2, sSet2, eLc, wipeR, restR, fAdd_i, fAdd_l, fSub_i, fMul_i, fMul_l, fRep_l, fDiv_i, fMod_i, fPow_i, fNeg_i, fCmp_i, fLt, fLe, fGt, fGe, fLen_l, fLen_t, fInt_i, fInt_b, fAbs_i, fMax_i, fMax_l, fMin_i, fSum_l, fList_l, fList_t, fRev_l, fSl_l, fIx_l, fIx_t, fIs_n, fIsNot_n, fIs_b, fIsNot_b, isNone_n, isNone_i, isNone_l, isNone_t, isT_tt, isT_ii, isT_bi, isT_ll, fIsT, fEq, fNe, eqOk_i, eqOk_s, eqOk_l, eqOk_t, eqOk_n, eqv_nil, eqv_int, List.isEmpty_nil, List.isEmpty_cons, eq_self, atI_0, atI_1, atI_2, atI_3, atI_last, exists_eq', Int.cast_ofNat_Int, tab_len, endsP, endsI, rho0, List.set_cons_zero, List.set_cons_succ, List.getElem?_cons_zero, List.getElem?_cons_succ, Option.some.injEq, List.cons.injEq, exists_eq_left', exists_eq, and_assoc, exists_and_left, true_and, and_true, id_eq, List.map_cons, List.map_nil, List.replicate_succ, List.replicate_zero, List.cons_append, List.nil_append, List.length_cons, List.length_nil, PyData.bool.injEq, PyData.int.injEq, PyData.list.injEq, PyData.tuple.injEq, Bool.not_true, Bool.not_false, Bool.false_eq_true, if_true, if_false, ite_true, ite_false, decide_eq_true_eq, Nat.zero_add, Nat.zero_le, Nat.reduceAdd, Nat.reduceSub, Option.join, Option.bind_some, List.getElem?_nil]
  have hz := hon.sz S
  cases l with
  | zero =>
    have hc : chN f p 0 i = 0 := rfl
    rw [hc] at q ⊢
    rw [show (tab 0 fun j => dN (0 - 1) (i * f + j)) = [] from rfl, forGo]
    simp only [sSeq, sIf, sSet, sSetL, sAsg, sRet, sRetV, sRetL, sRetN, sNx, sBk, sCt, sApp, sExt, sExpr, sFor, sPar, sParL, sPut, gSet, gNilD, gConsD, gTupD, tBool, tNotD, tAndD, tOrD, tYesD, e1, e2, eN, eC, eVar, eIxO, aNil, aCons, eTup, eLst, eFlat, eIf, eChain, eAnd, eOr, eNot, eSl, pNone, pSome, eCall, eCallI, eCallS, iLst, iRg1, iRg2, iRg3, iZipD, iEnumD, sPut2, sSet2, eLc, wipeR, restR, fAdd_i, fAdd_l, fSub_i, fMul_i, fMul_l, fRep_l, fDiv_i, fMod_i, fPow_i, fNeg_i, fCmp_i, fLt, fLe, fGt, fGe, fLen_l, fLen_t, fInt_i, fInt_b, fAbs_i, fMax_i, fMax_l, fMin_i, fSum_l, fList_l, fList_t, fRev_l, fSl_l, fIx_l, fIx_t, fIs_n, fIsNot_n, fIs_b, fIsNot_b, isNone_n, isNone_i, isNone_l, isNone_t, isT_tt, isT_ii, isT_bi, isT_ll, fIsT, fEq, fNe, eqOk_i, eqOk_s, eqOk_l, eqOk_t, eqOk_n, eqv_nil, eqv_int, List.isEmpty_nil, List.isEmpty_cons, eq_self, atI_0, atI_1, atI_2, atI_3, atI_last, exists_eq', Int.cast_ofNat_Int, tab_len, endsP, endsI, rho0, List.set_cons_zero, List.set_cons_succ, List.getElem?_cons_zero, List.getElem?_cons_succ, Option.some.injEq, List.cons.injEq, exists_eq_left', exists_eq, and_assoc, exists_and_left, true_and, and_true, id_eq, List.map_cons, List.map_nil, List.replicate_succ, List.replicate_zero, List.cons_append, List.nil_append, List.length_cons, List.length_nil, PyData.bool.injEq, PyData.int.injEq, PyData.list.injEq, PyData.tuple.injEq, Bool.not_true, Bool.not_false, Bool.false_eq_true, if_true, if_false, ite_true, ite_false, decide_eq_true_eq, Nat.zero_add, Nat.zero_le, Nat.reduceAdd, Nat.reduceSub, Option.join, Option.bind_some, List.getElem?_nil]
    exact q
  | succ l =>
  refine forGo_tab _ _ (fun j ρ => ∃ x, ρ = [some (dSh p f), some (dN (l + 1) i), some (.int b), some (.int e), some (.list (((List.range j).flatMap fun j => wthn f p b e l (i * f + j)).map dP)), x, some (.int ((i * f ^ (l + 1) : Nat) : Int)), some (.int ((min p ((i + 1) * f ^ (l + 1)) : Nat) : Int))]) ⟨none, rfl⟩ ?_ ?_
  · rintro ρ ⟨x, rfl⟩
    simp only [sSeq, sIf, sSet, sSetL, sAsg, sRet, sRetV, sRetL, sRetN, sNx, sBk, sCt, sApp, sExt, sExpr, sFor, sPar, sParL, sPut, gSet, gNilD, gConsD, gTupD, tBool, tNotD, tAndD, tOrD, tYesD, e1, e2, eN, eC, eVar, eIxO, aNil, aCons, eTup, eLst, eFlat, eIf, eChain, eAnd, eOr, eNot, eSl, pNone, pSome, eCall, eCallI, eCallS, iLst, iRg1, iRg2, iRg3, iZipD, iEnumD, sPut2, sSet2, eLc, wipeR, restR, fAdd_i, fAdd_l, fSub_i, fMul_i, fMul_l, fRep_l, fDiv_i, fMod_i, fPow_i, fNeg_i, fCmp_i, fLt, fLe, fGt, fGe, fLen_l, fLen_t, fInt_i, fInt_b, fAbs_i, fMax_i, fMax_l, fMin_i, fSum_l, fList_l, fList_t, fRev_l, fSl_l, fIx_l, fIx_t, fIs_n, fIsNot_n, fIs_b, fIsNot_b, isNone_n, isNone_i, isNone_l, isNone_t, isT_tt, isT_ii, isT_bi, isT_ll, fIsT, fEq, fNe, eqOk_i, eqOk_s, eqOk_l, eqOk_t, eqOk_n, eqv_nil, eqv_int, List.isEmpty_nil, List.isEmpty_cons, eq_self, atI_0, atI_1, atI_2, atI_3, atI_last, exists_eq', Int.cast_ofNat_Int, tab_len, endsP, endsI, rho0, List.set_cons_zero, List.set_cons_succ, List.getElem?_cons_zero, List.getElem?_cons_succ, Option.some.injEq, List.cons.injEq, exists_eq_left', exists_eq, and_assoc, exists_and_left, true_and, and_true, id_eq, List.map_cons, List.map_nil, List.replicate_succ, List.replicate_zero, List.cons_append, List.nil_append, List.length_cons, List.length_nil, PyData.bool.injEq, PyData.int.injEq, PyData.list.injEq, PyData.tuple.injEq, Bool.not_true, Bool.not_false, Bool.false_eq_true, if_true, if_false, ite_true, ite_false, decide_eq_true_eq, Nat.zero_add, Nat.zero_le, Nat.reduceAdd, Nat.reduceSub, Option.join, Option.bind_some, List.getElem?_nil]
    exact q
  · rintro j hj ρ ⟨x, rfl⟩ nx hnx
    have hc := ch_lt hf hon hj
    simp only [Nat.add_sub_cancel, sSeq, sIf, sSet, sSetL, sAsg, sRet, sRetV, sRetL, sRetN, sNx, sBk, sCt, sApp, sExt, sExpr, sFor, sPar, sParL, sPut, gSet, gNilD, gConsD, gTupD, tBool, tNotD, tAndD, tOrD, tYesD, e1, e2, eN, eC, eVar, eIxO, aNil, aCons, eTup, eLst, eFlat, eIf, eChain, eAnd, eOr, eNot, eSl, pNone, pSome, eCall, eCallI, eCallS, iLst, iRg1, iRg2, iRg3, iZipD, iEnumD, sPut2, sSet2, eLc, wipeR, restR, fAdd_i, fAdd_l, fSub_i, fMul_i, fMul_l, fRep_l, fDiv_i, fMod_i, fPow_i, fNeg_i, fCmp_i, fLt, fLe, fGt, fGe, fLen_l, fLen_t, fInt_i, fInt_b, fAbs_i, fMax_i, fMax_l, fMin_i, fSum_l, fList_l, fList_t, fRev_l, fSl_l, fIx_l, fIx_t, fIs_n, fIsNot_n, fIs_b, fIsNot_b, isNone_n, isNone_i, isNone_l, isNone_t, isT_tt, isT_ii, isT_bi, isT_ll, fIsT, fEq, fNe, eqOk_i, eqOk_s, eqOk_l, eqOk_t, eqOk_n, eqv_nil, eqv_int, List.isEmpty_nil, List.isEmpty_cons, eq_self, atI_0, atI_1, atI_2, atI_3, atI_last, exists_eq', Int.cast_ofNat_Int, tab_len, endsP, endsI, rho0, List.set_cons_zero, List.set_cons_succ, List.getElem?_cons_zero, List.getElem?_cons_succ, Option.some.injEq, List.cons.injEq, exists_eq_left', exists_eq, and_assoc, exists_and_left, true_and, and_true, id_eq, List.map_cons, List.map_nil, List.replicate_succ, List.replicate_zero, List.cons_append, List.nil_append, List.length_cons, List.length_nil, PyData.bool.injEq, PyData.int.injEq, PyData.list.injEq, PyData.tuple.injEq, Bool.not_true, Bool.not_false, Bool.false_eq_true, if_true, if_false, ite_true, ite_false, decide_eq_true_eq, Nat.zero_add, Nat.zero_le, Nat.reduceAdd, Nat.reduceSub, Option.join, Option.bind_some, List.getElem?_nil]
    refine ⟨f, p, l, i * f + j, b, e, S, hc, by omega, hb, he, rfl, ?_⟩
    simp only [sSeq, sIf, sSet, sSetL, sAsg, sRet, sRetV, sRetL, sRetN, sNx, sBk, sCt, sApp, sExt, sExpr, sFor, sPar, sParL, sPut, gSet, gNilD, gConsD, gTupD, tBool, tNotD, tAndD, tOrD, tYesD, e1, e2, eN, eC, eVar, eIxO, aNil, aCons, eTup, eLst, eFlat, eIf, eChain, eAnd, eOr, eNot, eSl, pNone, pSome, eCall, eCallI, eCallS, iLst, iRg1, iRg2, iRg3, iZipD, iEnumD, sPut2, sSet2, eLc, wipeR, restR, fAdd_i, fAdd_l, fSub_i, fMul_i, fMul_l, fRep_l, fDiv_i, fMod_i, fPow_i, fNeg_i, fCmp_i, fLt, fLe, fGt, fGe, fLen_l, fLen_t, fInt_i, fInt_b, fAbs_i, fMax_i, fMax_l, fMin_i, fSum_l, fList_l, fList_t, fRev_l, fSl_l, fIx_l, fIx_t, fIs_n, fIsNot_n, fIs_b, fIsNot_b, isNone_n, isNone_i, isNone_l, isNone_t, isT_tt, isT_ii, isT_bi, isT_ll, fIsT, fEq, fNe, eqOk_i, eqOk_s, eqOk_l, eqOk_t, eqOk_n, eqv_nil, eqv_int, List.isEmpty_nil, List.isEmpty_cons, eq_self, atI_0, atI_1, atI_2, atI_3, atI_last, exists_eq', Int.cast_ofNat_Int, tab_len, endsP, endsI, rho0, List.set_cons_zero, List.set_cons_succ, List.getElem?_cons_zero, List.getElem?_cons_succ, Option.some.injEq, List.cons.injEq, exists_eq_left', exists_eq, and_assoc, exists_and_left, true_and, and_true, id_eq, List.map_cons, List.map_nil, List.replicate_succ, List.replicate_zero, List.cons_append, List.nil_append, List.length_cons, List.length_nil, PyData.bool.injEq, PyData.int.injEq, PyData.list.injEq, PyData.tuple.injEq, Bool.not_true, Bool.not_false, Bool.false_eq_true, if_true, if_false, ite_true, ite_false, decide_eq_true_eq, Nat.zero_add, Nat.zero_le, Nat.reduceAdd, Nat.reduceSub, Option.join, Option.bind_some, List.getElem?_nil]
    refine ⟨?_, ?_⟩
    · rw [List.length_map, List.length_map]
      have h1 := flat_len (b := b) (e := e) (chN f p (l + 1) i) (fun j hj => wthn_len (b := b) (e := e) hf l (i * f + j) (ch_lt hf hon hj)) j (by omega)
      have h2 := wthn_len (b := b) (e := e) hf l (i * f + j) hc
      have pb := S.pb
      exact Nat.le_trans (show _ ≤ 2 ^ 21 by omega) (by decide)
    · have h := hnx _ ⟨some (dN l (i * f + j)), rfl⟩
      rw [List.range_succ, List.flatMap_append, List.flatMap_singleton, List.map_append] at h
      exact h
abbrev sp_within : List D → (D → Prop) → Prop := sq_within 21
/-- the fewest nodes of b up to e -/
def covL (f p b e : Nat) : List (Nat × Nat) := if b = e then [] else wthn f p b e (ht f p) 0
def sp_cover (ds : List D) (Q : D → Prop) : Prop := ∃ (f p b e : Nat), Shp f p ∧ b ≤ e ∧ e ≤ p ∧ ds = [dSh p f, .int (b : Int), .int (e : Int)] ∧ Q (.list ((covL f p b e).map dP))
def w_cover : DS := (sSeq (sIf (tOrD (tBool (e2 fLt (eVar 1) (eC (.int 0)))) (tOrD (tBool (e2 fGt (eVar 2) (e2 fIx (eVar 0) (eC (.int 0))))) (tBool (e2 fGt (eVar 1) (eVar 2))))) sNever sNx) (sSeq (sIf (tBool (e2 fEq (eVar 1) (eVar 2))) (sRet (eLst aNil)) sNx) (sRet (eCall 4 sp_within (aCons (eVar 0) (aCons (eCall 1 sp_top (aCons (eVar 0) aNil)) (aCons (eVar 1) (aCons (eVar 2) aNil))))))))
theorem m_cover : ∀ ds Q, ds.length = 3 → sp_cover ds Q → w_cover (endsP false Q) (rho0 ds 0) := by
  rintro ds Q - ⟨f, p, b, e, S, hb, he, rfl, q⟩
  have hf := S.f2
  have pb := S.pb
  simp only [w_cover, sSeq, sIf, sSet, sSetL, sAsg, sRet, sRetV, sRetL, sRetN, sNx, sBk, sCt, sApp, sExt, sExpr, sFor, sPar, sParL, sPut, gSet, gNilD, gConsD, gTupD, tBool, tNotD, tAndD, tOrD, tYesD, e1, e2, eN, eC, eVar, eIxO, aNil, aCons, eTup, eLst, eFlat, eIf, eChain, eAnd, eOr, eNot, eSl, pNone, pSome, eCall, eCallI, eCallS, iLst, iRg1, iRg2, iRg3, iZipD, iEnumD, sPut2, sSet2, eLc, wipeR, restR, fAdd_i, fAdd_l, fSub_i, fMul_i, fMul_l, fRep_l, fDiv_i, fMod_i, fPow_i, fNeg_i, fCmp_i, fLt, fLe, fGt, fGe, fLen_l, fLen_t, fInt_i, fInt_b, fAbs_i, fMax_i, fMax_l, fMin_i, fSum_l, fList_l, fList_t, fRev_l, fSl_l, fIx_l, fIx_t, fIs_n, fIsNot_n, fIs_b, fIsNot_b, isNone_n, isNone_i, isNone_l, isNone_t, isT_tt, isT_ii, isT_bi, isT_ll, fIsT, fEq, fNe, eqOk_i, eqOk_s, eqOk_l, eqOk_t, eqOk_n, eqv_nil, eqv_int, List.isEmpty_nil, List.isEmpty_cons, eq_self, atI_0, atI_1, atI_2, atI_3, atI_last, exists_eq', Int.cast_ofNat_Int, tab_len, endsP, endsI, rho0, List.set_cons_zero, List.set_cons_succ, List.getElem?_cons_zero, List.getElem?_cons_succ, Option.some.injEq, List.cons.injEq, exists_eq_left', exists_eq, and_assoc, exists_and_left, true_and, and_true, id_eq, List.map_cons, List.map_nil, List.replicate_succ, List.replicate_zero, List.cons_append, List.nil_append, List.length_cons, List.length_nil, PyData.bool.injEq, PyData.int.injEq, PyData.list.injEq, PyData.tuple.injEq, Bool.not_true, Bool.not_false, Bool.false_eq_true, if_true, if_false, ite_true, ite_false, decide_eq_true_eq, Nat.zero_add, Nat.zero_le, Nat.reduceAdd, Nat.reduceSub, Option.join, Option.bind_some, List.getElem?_nil]
  rw [if_neg (by omega), if_neg (by omega), if_neg (by omega)]
  unfold covL at q
  by_cases c : b = e
  · rw [if_pos (by omega)]
    rw [if_pos c] at q
    exact q
  · rw [if_neg (by omega)]
    rw [if_neg c] at q
    refine ⟨p, f, S, rfl, ?_⟩
    have hp : p ≠ 0 := by omega
    rw [if_neg hp]
    refine ⟨f, p, ht f p, 0, b, e, S, top_on hf hp, by have := S.ht20; omega, by omega, by omega, rfl, q⟩
theorem covL_on {f p b e : Nat} (hf : 2 ≤ f) (he : e ≤ p) (hb : b ≤ e) : ∀ x ∈ covL f p b e, OnT f p x.1 x.2 := by
  unfold covL
  split
  · intro x hx; cases hx
  · exact wthn_on hf _ _ (top_on hf (by omega))
theorem covL_len {f p b e : Nat} (hf : 2 ≤ f) (he : e ≤ p) (hb : b ≤ e) : (covL f p b e).length ≤ p := by
  unfold covL
  split
  · simp
  · have := wthn_len (b := b) (e := e) hf (ht f p) 0 (top_on hf (show p ≠ 0 by omega))
    omega

/-! ### walks -/
def lookT {α : Type} (P : α → Bool) : List α → List α
  | [] => []
  | x :: xs => if P x = true then [x] else x :: lookT P xs
theorem lookT_sub {α : Type} {P : α → Bool} : ∀ {xs : List α}, ∀ x ∈ lookT P xs, x ∈ xs
  | [], x, h => h
  | y :: ys, x, h => by
    rw [lookT] at h
    split at h
    · rw [List.mem_singleton] at h; subst h; simp
    · rcases List.mem_cons.mp h with h | h
      · subst h; simp
      · exact List.mem_cons_of_mem _ (lookT_sub x h)
theorem lookT_len {α : Type} {P : α → Bool} : ∀ {xs : List α}, (lookT P xs).length ≤ xs.length
  | [] => Nat.le_refl _
  | y :: ys => by
    rw [lookT]
    split
    · simp
    · have := lookT_len (P := P) (xs := ys)
      simp only [List.length_cons]; omega
theorem lookT_ne {α : Type} {P : α → Bool} {xs : List α} (h : xs ≠ []) : lookT P xs ≠ [] := by
  cases xs with
  | nil => exact absurd rfl h
  | cons x xs => rw [lookT]; split <;> simp
theorem lookT_pre {α : Type} {P : α → Bool} {pre xs : List α} (h : ∀ x ∈ pre, P x = false) : lookT P (pre ++ xs) = pre ++ lookT P xs := by
  induction pre with
  | nil => rfl
  | cons y ys ih =>
    rw [List.cons_append, lookT, h y (by simp), if_neg (by simp), ih fun x hx => h x (by simp [hx])]
    rfl
def PT (g : Nat → Nat → Int) (need : Int) : Nat × Nat → Bool := fun x => decide (need ≤ g x.1 x.2)
def sp_looked_at (ds : List D) (Q : D → Prop) : Prop := ∃ f p g ns need, Shp f p ∧ ds = [dT f p g, .list (ns.map dP), .int need] ∧ (∀ x ∈ ns, OnT f p x.1 x.2) ∧ ns.length < sizeLine ∧ Q (.list ((lookT (PT g need) ns).map dP))
def w_looked_at : DS := (sSeq (sSetL 3 (eLst aNil)) (sSeq (sFor (iLst (eVar 1)) (gSet 4) (sSeq (sApp 3 (eVar 4)) (sIf (tBool (e2 fGe (eCall 2 sp_tells (aCons (eVar 0) (aCons (eVar 4) aNil))) (eVar 2))) sBk sNx))) (sRetV 3)))
theorem m_looked_at : ∀ ds Q, ds.length = 3 → sp_looked_at ds Q → w_looked_at (endsP true Q) (rho0 ds 2) := by
  rintro ds Q - ⟨f, p, g, ns, need, S, rfl, hon, hl, q⟩
  simp only [w_looked_at, sSeq, sIf, sSet, sSetL, sAsg, sRet, sRetV, sRetL, sRetN, sNx, sBk, sCt, sApp, sExt, sExpr, sFor, sPar, sParL, sPut, gSet, gNilD, gConsD, gTupD, tBool, tNotD, tAndD, tOrD, tYesD, e1, e2, eN, eC, eVar, eIxO, aNil, aCons, eTup, eLst, eFlat, eIf, eChain, eAnd, eOr, eNot, eSl, pNone, pSome, eCall, eCallI, eCallS, iLst, iRg1, iRg2, iRg3, iZipD, iEnumD, sPut2, sSet2, eLc, wipeR, restR, fAdd_i, fAdd_l, fSub_i, fMul_i, fMul_l, fRep_l, fDiv_i, fMod_i, fPow_i, fNeg_i, fCmp_i, fLt, fLe, fGt, fGe, fLen_l, fLen_t, fInt_i, fInt_b, fAbs_i, fMax_i, fMax_l, fMin_i, fSum_l, fList_l, fList_t, fRev_l, fSl_l, fIx_l, fIx_t, fIs_n, fIsNot_n, fIs_b, fIsNot_b, isNone_n, isNone_i, isNone_l, isNone_t, isT_tt, isT_ii, isT_bi, isT_ll, fIsT, fEq, fNe, eqOk_i, eqOk_s, eqOk_l, eqOk_t, eqOk_n, eqv_nil, eqv_int, List.isEmpty_nil, List.isEmpty_cons, eq_self, atI_0, atI_1, atI_2, atI_3, atI_last, exists_eq', Int.cast_ofNat_Int, tab_len, endsP, endsI, rho0, List.set_cons_zero, List.set_cons_succ, List.getElem?_cons_zero, List.getElem?_cons_succ, Option.some.injEq, List.cons.injEq, exists_eq_left', exists_eq, and_assoc, exists_and_left, true_and, and_true, id_eq, List.map_cons, List.map_nil, List.replicate_succ, List.replicate_zero, List.cons_append, List.nil_append, List.length_cons, List.length_nil, PyData.bool.injEq, PyData.int.injEq, PyData.list.injEq, PyData.tuple.injEq, Bool.not_true, Bool.not_false, Bool.false_eq_true, if_true, if_false, ite_true, ite_false, decide_eq_true_eq, Nat.zero_add, Nat.zero_le, Nat.reduceAdd, Nat.reduceSub, Option.join, Option.bind_some, List.getElem?_nil]
  refine forGo_on ns dP (fun pre ρ => ∃ x, (∀ x ∈ pre, PT g need x = false) ∧ ρ = [some (dT f p g), some (.list (ns.map dP)), some (.int need), some (.list (pre.map dP)), x]) ⟨none, by simp, rfl⟩ ?_ ?_
  · rintro ρ ⟨x, h, rfl⟩
    simp only [sSeq, sIf, sSet, sSetL, sAsg, sRet, sRetV, sRetL, sRetN, sNx, sBk, sCt, sApp, sExt, sExpr, sFor, sPar, sParL, sPut, gSet, gNilD, gConsD, gTupD, tBool, tNotD, tAndD, tOrD, tYesD, e1, e2, eN, eC, eVar, eIxO, aNil, aCons, eTup, eLst, eFlat, eIf, eChain, eAnd, eOr, eNot, eSl, pNone, pSome, eCall, eCallI, eCallS, iLst, iRg1, iRg2, iRg3, iZipD, iEnumD, sPut2, sSet2, eLc, wipeR, restR, fAdd_i, fAdd_l, fSub_i, fMul_i, fMul_l, fRep_l, fDiv_i, fMod_i, fPow_i, fNeg_i, fCmp_i, fLt, fLe, fGt, fGe, fLen_l, fLen_t, fInt_i, fInt_b, fAbs_i, fMax_i, fMax_l, fMin_i, fSum_l, fList_l, fList_t, fRev_l, fSl_l, fIx_l, fIx_t, fIs_n, fIsNot_n, fIs_b, fIsNot_b, isNone_n, isNone_i, isNone_l, isNone_t, isT_tt, isT_ii, isT_bi, isT_ll, fIsT, fEq, fNe, eqOk_i, eqOk_s, eqOk_l, eqOk_t, eqOk_n, eqv_nil, eqv_int, List.isEmpty_nil, List.isEmpty_cons, eq_self, atI_0, atI_1, atI_2, atI_3, atI_last, exists_eq', Int.cast_ofNat_Int, tab_len, endsP, endsI, rho0, List.set_cons_zero, List.set_cons_succ, List.getElem?_cons_zero, List.getElem?_cons_succ, Option.some.injEq, List.cons.injEq, exists_eq_left', exists_eq, and_assoc, exists_and_left, true_and, and_true, id_eq, List.map_cons, List.map_nil, List.replicate_succ, List.replicate_zero, List.cons_append, List.nil_append, List.length_cons, List.length_nil, PyData.bool.injEq, PyData.int.injEq, PyData.list.injEq, PyData.tuple.injEq, Bool.not_true, Bool.not_false, Bool.false_eq_true, if_true, if_false, ite_true, ite_false, decide_eq_true_eq, Nat.zero_add, Nat.zero_le, Nat.reduceAdd, Nat.reduceSub, Option.join, Option.bind_some, List.getElem?_nil]
    have := lookT_pre (xs := []) h
    rw [List.append_nil] at this
    rw [this] at q
    simpa [lookT] using q
  · rintro pre n post e ρ ⟨x, h, rfl⟩ nx hnx
    have ho := hon n (by rw [e]; simp)
    simp only [sSeq, sIf, sSet, sSetL, sAsg, sRet, sRetV, sRetL, sRetN, sNx, sBk, sCt, sApp, sExt, sExpr, sFor, sPar, sParL, sPut, gSet, gNilD, gConsD, gTupD, tBool, tNotD, tAndD, tOrD, tYesD, e1, e2, eN, eC, eVar, eIxO, aNil, aCons, eTup, eLst, eFlat, eIf, eChain, eAnd, eOr, eNot, eSl, pNone, pSome, eCall, eCallI, eCallS, iLst, iRg1, iRg2, iRg3, iZipD, iEnumD, sPut2, sSet2, eLc, wipeR, restR, fAdd_i, fAdd_l, fSub_i, fMul_i, fMul_l, fRep_l, fDiv_i, fMod_i, fPow_i, fNeg_i, fCmp_i, fLt, fLe, fGt, fGe, fLen_l, fLen_t, fInt_i, fInt_b, fAbs_i, fMax_i, fMax_l, fMin_i, fSum_l, fList_l, fList_t, fRev_l, fSl_l, fIx_l, fIx_t, fIs_n, fIsNot_n, fIs_b, fIsNot_b, isNone_n, isNone_i, isNone_l, isNone_t, isT_tt, isT_ii, isT_bi, isT_ll, fIsT, fEq, fNe, eqOk_i, eqOk_s, eqOk_l, eqOk_t, eqOk_n, eqv_nil, eqv_int, List.isEmpty_nil, List.isEmpty_cons, eq_self, atI_0, atI_1, atI_2, atI_3, atI_last, exists_eq', Int.cast_ofNat_Int, tab_len, endsP, endsI, rho0, List.set_cons_zero, List.set_cons_succ, List.getElem?_cons_zero, List.getElem?_cons_succ, Option.some.injEq, List.cons.injEq, exists_eq_left', exists_eq, and_assoc, exists_and_left, true_and, and_true, id_eq, List.map_cons, List.map_nil, List.replicate_succ, List.replicate_zero, List.cons_append, List.nil_append, List.length_cons, List.length_nil, PyData.bool.injEq, PyData.int.injEq, PyData.list.injEq, PyData.tuple.injEq, Bool.not_true, Bool.not_false, Bool.false_eq_true, if_true, if_false, ite_true, ite_false, decide_eq_true_eq, Nat.zero_add, Nat.zero_le, Nat.reduceAdd, Nat.reduceSub, Option.join, Option.bind_some, List.getElem?_nil]
    have hlen : pre.length < sizeLine := by
      have := congrArg List.length e
      rw [List.length_append, List.length_cons] at this
      omega
    refine ⟨by rwa [List.length_map], f, p, g, n.1, n.2, S, ho, rfl, ?_⟩
    simp only [sSeq, sIf, sSet, sSetL, sAsg, sRet, sRetV, sRetL, sRetN, sNx, sBk, sCt, sApp, sExt, sExpr, sFor, sPar, sParL, sPut, gSet, gNilD, gConsD, gTupD, tBool, tNotD, tAndD, tOrD, tYesD, e1, e2, eN, eC, eVar, eIxO, aNil, aCons, eTup, eLst, eFlat, eIf, eChain, eAnd, eOr, eNot, eSl, pNone, pSome, eCall, eCallI, eCallS, iLst, iRg1, iRg2, iRg3, iZipD, iEnumD, sPut2, sSet2, eLc, wipeR, restR, fAdd_i, fAdd_l, fSub_i, fMul_i, fMul_l, fRep_l, fDiv_i, fMod_i, fPow_i, fNeg_i, fCmp_i, fLt, fLe, fGt, fGe, fLen_l, fLen_t, fInt_i, fInt_b, fAbs_i, fMax_i, fMax_l, fMin_i, fSum_l, fList_l, fList_t, fRev_l, fSl_l, fIx_l, fIx_t, fIs_n, fIsNot_n, fIs_b, fIsNot_b, isNone_n, isNone_i, isNone_l, isNone_t, isT_tt, isT_ii, isT_bi, isT_ll, fIsT, fEq, fNe, eqOk_i, eqOk_s, eqOk_l, eqOk_t, eqOk_n, eqv_nil, eqv_int, List.isEmpty_nil, List.isEmpty_cons, eq_self, atI_0, atI_1, atI_2, atI_3, atI_last, exists_eq', Int.cast_ofNat_Int, tab_len, endsP, endsI, rho0, List.set_cons_zero, List.set_cons_succ, List.getElem?_cons_zero, List.getElem?_cons_succ, Option.some.injEq, List.cons.injEq, exists_eq_left', exists_eq, and_assoc, exists_and_left, true_and, and_true, id_eq, List.map_cons, List.map_nil, List.replicate_succ, List.replicate_zero, List.cons_append, List.nil_append, List.length_cons, List.length_nil, PyData.bool.injEq, PyData.int.injEq, PyData.list.injEq, PyData.tuple.injEq, Bool.not_true, Bool.not_false, Bool.false_eq_true, if_true, if_false, ite_true, ite_false, decide_eq_true_eq, Nat.zero_add, Nat.zero_le, Nat.reduceAdd, Nat.reduceSub, Option.join, Option.bind_some, List.getElem?_nil]
    by_cases c : need ≤ g n.1 n.2
    · rw [if_pos c]
      have hP : PT g need n = true := by unfold PT; simpa using c
      rw [e, lookT_pre h, lookT, if_pos hP, List.map_append] at q
      exact q
    · rw [if_neg c]
      have hP : PT g need n = false := by unfold PT; simpa using c
      refine hnx _ ⟨some (dP n), ?_, by rw [List.map_append]; rfl⟩
      intro y hy
      rcases List.mem_append.mp hy with hy | hy
      · exact h y hy
      · rw [List.mem_singleton] at hy; subst hy; exact hP

theorem chL_on {f p l i : Nat} (hf : 2 ≤ f) (h : OnT f p (l + 1) i) : ∀ x ∈ chL f p (l + 1) i, x.1 = l ∧ OnT f p x.1 x.2 := fun x hx => by
  obtain ⟨j, hj, rfl⟩ := List.mem_map.mp hx
  exact ⟨rfl, ch_lt hf h (List.mem_range.mp hj)⟩
theorem chL_ne {f p l i : Nat} (hf : 2 ≤ f) (h : OnT f p (l + 1) i) : chL f p (l + 1) i ≠ [] := fun z => by
  have := congrArg List.length z
  have := ch_pos hf h
  unfold chL at *
  simp at *
  omega
/-- what is looked at beneath a node that tells enough -/
def downL (f p : Nat) (P : Nat × Nat → Bool) : Nat → Nat → List (Nat × Nat)
  | 0, _ => []
  | l + 1, i => lookT P (chL f p (l + 1) i) ++ match (lookT P (chL f p (l + 1) i)).getLast? with
    | none => []
    | some x => if P x = true then downL f p P l x.2 else []
def contL (f p : Nat) (P : Nat × Nat → Bool) (x : Nat × Nat) : List (Nat × Nat) := if P x = true then downL f p P x.1 x.2 else []
def walkL (f p : Nat) (P : Nat × Nat → Bool) (b : Nat) : List (Nat × Nat) := lookT P (covL f p b p) ++ match (lookT P (covL f p b p)).getLast? with
  | none => []
  | some x => contL f p P x
theorem downL_len {f p : Nat} {P : Nat × Nat → Bool} (S : Shp f p) : ∀ l i, (downL f p P l i).length ≤ l * p
  | 0, i => by simp [downL]
  | l + 1, i => by
    rw [downL, List.length_append, Nat.succ_mul]
    have h1 : (lookT P (chL f p (l + 1) i)).length ≤ p := by
      refine Nat.le_trans lookT_len ?_
      unfold chL
      rw [List.length_map, List.length_range]
      have := cnt_le (p := p) (l := l) S.f2
      unfold chN; rw [if_neg (by omega)]; simp only [Nat.add_sub_cancel]; omega
    split
    · simp only [List.length_nil]; omega
    · rename_i x hx
      split
      · have := downL_len S (P := P) l x.2
        omega
      · simp only [List.length_nil]; omega
theorem downL_on {f p : Nat} {P : Nat × Nat → Bool} (hf : 2 ≤ f) : ∀ l i, OnT f p l i → ∀ x ∈ downL f p P l i, OnT f p x.1 x.2
  | 0, i, h, x, hx => by cases hx
  | l + 1, i, h, x, hx => by
    rw [downL] at hx
    rcases List.mem_append.mp hx with hx | hx
    · exact (chL_on hf h x (lookT_sub x hx)).2
    · split at hx
      · cases hx
      · rename_i y hy
        split at hx
        · have h2 := chL_on hf h y (lookT_sub y (List.mem_of_getLast? hy))
          have h3 := h2.2
          rw [h2.1] at h3
          exact downL_on hf l y.2 h3 x hx
        · cases hx
def sp_walked (ds : List D) (Q : D → Prop) : Prop := ∃ (f p : Nat) (g : Nat → Nat → Int) (need : Int) (b : Nat), Shp f p ∧ p ≤ 2 ^ 16 ∧ BdT f p g ∧ b < p ∧ ds = [dT f p g, .int (f : Int), .int need, .int (b : Int)] ∧ Q (.list ((walkL f p (PT g need) b).map dP))
def w_walked : DS := (sSeq (sSet 4 (eCall 2 sp_shape_of (aCons (eVar 0) (aCons (eVar 1) aNil)))) (sSeq (sSetL 5 (eCall 3 sp_looked_at (aCons (eVar 0) (aCons (eCall 3 sp_cover (aCons (eVar 4) (aCons (eVar 3) (aCons (eCall 1 sp_pages_of (aCons (eVar 0) aNil)) aNil)))) (aCons (eVar 2) aNil))))) (sSeq (sWhile (tAndD (tBool (e2 fNe (eVar 5) (eLst aNil))) (tAndD (tBool (e2 fGe (eCall 2 sp_tells (aCons (eVar 0) (aCons (eIxO 5 (e1 fNeg (eC (.int 1)))) aNil))) (eVar 2))) (tBool (e2 fGt (e2 fIx (eIxO 5 (e1 fNeg (eC (.int 1)))) (eC (.int 0))) (eC (.int 0)))))) (sExt 5 (eCall 3 sp_looked_at (aCons (eVar 0) (aCons (eCall 2 sp_children (aCons (eVar 4) (aCons (eIxO 5 (e1 fNeg (eC (.int 1)))) aNil))) (aCons (eVar 2) aNil)))))) (sRet (eVar 5)))))
theorem gd_nodes {f p : Nat} {xs : List (Nat × Nat)} (S : Shp f p) (h : ∀ x ∈ xs, OnT f p x.1 x.2) : gd 2 (.list (xs.map dP)) = true := gd_list fun d hd => by
  obtain ⟨x, hx, rfl⟩ := List.mem_map.mp hd
  have hz := (h x hx).sz S
  exact gd_tuple fun y hy => by
    rcases List.mem_cons.mp hy with rfl | hy
    · exact gd_int (by omega)
    · rw [List.mem_singleton] at hy
      subst hy
      exact gd_int (by omega)
theorem wthn_ne {f p b : Nat} (hf : 2 ≤ f) : ∀ l i, OnT f p l i → b < min p ((i + 1) * f ^ l) → wthn f p b p l i ≠ []
  | 0, i, h, hb => by
    have hlt := (lt_cnt hf).mp h.2
    rw [wthn, if_neg (by omega)]
    have : (i + 1) * f ^ 0 = i * f ^ 0 + 1 := by simp
    rw [if_pos (by omega)]
    simp
  | l + 1, i, h, hb => by
    have hlt := (lt_cnt hf).mp h.2
    rw [wthn, if_neg (by omega)]
    split
    · simp
    · intro z
      rw [List.flatMap_eq_nil_iff] at z
      have hpos := ch_pos hf h
      have := z (chN f p (l + 1) i - 1) (List.mem_range.mpr (by omega))
      refine wthn_ne hf l _ (ch_lt hf h (by omega)) ?_ this
      have hc : chN f p (l + 1) i = min (cnt f p l) (i * f + f) - i * f := by unfold chN; rw [if_neg (by omega)]; rfl
      have e5 : (i + 1) * f ^ (l + 1) = (i * f + f) * f ^ l := by rw [Nat.pow_succ, Nat.mul_comm (f ^ l) f, ← Nat.mul_assoc, Nat.succ_mul]
      by_cases q : cnt f p l ≤ i * f + f
      · have e1 : i * f + (chN f p (l + 1) i - 1) + 1 = cnt f p l := by omega
        rw [e1]
        have : ¬ cnt f p l * f ^ l < p := fun z => by have := (lt_cnt (p := p) hf).mpr z; omega
        omega
      · have e1 : i * f + (chN f p (l + 1) i - 1) + 1 = i * f + f := by omega
        rw [e1, ← e5]
        exact hb
theorem covL_ne {f p b : Nat} (hf : 2 ≤ f) (hb : b < p) : covL f p b p ≠ [] := by
  unfold covL
  rw [if_neg (by omega)]
  refine wthn_ne hf _ _ (top_on hf (by omega)) ?_
  have := ht_top (p := p) hf
  rw [Nat.zero_add, Nat.one_mul]
  omega
theorem atI_neg {α : Type} {xs : List α} {x : α} (h : xs.getLast? = some x) : atI xs (-1) = some x := by
  have hne : xs ≠ [] := fun z => by rw [z] at h; cases h
  unfold atI
  rw [ixN_last (List.length_pos_iff.mpr hne)]
  show xs[xs.length - 1]? = some x
  rw [← List.getLast?_eq_getElem?]
  exact h
theorem m_walked : ∀ ds Q, ds.length = 4 → sp_walked ds Q → w_walked (endsP false Q) (rho0 ds 2) := by
  rintro ds Q - ⟨f, p, g, need, b, S, p16, B, hb, rfl, q⟩
  have hf := S.f2
  have pb := S.pb
  have h20 := S.ht20
  simp only [w_walked, sSeq, sIf, sSet, sSetL, sAsg, sRet, sRetV, sRetL, sRetN, sNx, sBk, sCt, sApp, sExt, sExpr, sFor, sPar, sParL, sPut, gSet, gNilD, gConsD, gTupD, tBool, tNotD, tAndD, tOrD, tYesD, e1, e2, eN, eC, eVar, eIxO, aNil, aCons, eTup, eLst, eFlat, eIf, eChain, eAnd, eOr, eNot, eSl, pNone, pSome, eCall, eCallI, eCallS, iLst, iRg1, iRg2, iRg3, iZipD, iEnumD, sPut2, sSet2, eLc, wipeR, restR, fAdd_i, fAdd_l, fSub_i, fMul_i, fMul_l, fRep_l, fDiv_i, fMod_i, fPow_i, fNeg_i, fCmp_i, fLt, fLe, fGt, fGe, fLen_l, fLen_t, fInt_i, fInt_b, fAbs_i, fMax_i, fMax_l, fMin_i, fSum_l, fList_l, fList_t, fRev_l, fSl_l, fIx_l, fIx_t, fIs_n, fIsNot_n, fIs_b, fIsNot_b, isNone_n, isNone_i, isNone_l, isNone_t, isT_tt, isT_ii, isT_bi, isT_ll, fIsT, fEq, fNe, eqOk_i, eqOk_s, eqOk_l, eqOk_t, eqOk_n, eqv_nil, eqv_int, List.isEmpty_nil, List.isEmpty_cons, eq_self, atI_0, atI_1, atI_2, atI_3, atI_last, exists_eq', Int.cast_ofNat_Int, tab_len, endsP, endsI, rho0, List.set_cons_zero, List.set_cons_succ, List.getElem?_cons_zero, List.getElem?_cons_succ, Option.some.injEq, List.cons.injEq, exists_eq_left', exists_eq, and_assoc, exists_and_left, true_and, and_true, id_eq, List.map_cons, List.map_nil, List.replicate_succ, List.replicate_zero, List.cons_append, List.nil_append, List.length_cons, List.length_nil, PyData.bool.injEq, PyData.int.injEq, PyData.list.injEq, PyData.tuple.injEq, Bool.not_true, Bool.not_false, Bool.false_eq_true, if_true, if_false, ite_true, ite_false, decide_eq_true_eq, Nat.zero_add, Nat.zero_le, Nat.reduceAdd, Nat.reduceSub, Option.join, Option.bind_some, List.getElem?_nil]
  refine ⟨f, p, g, B, rfl, f, p, g, B, rfl, f, p, b, p, S, by omega, Nat.le_refl _, rfl, ?_⟩
  have hcl := covL_len (b := b) hf (Nat.le_refl p) (by omega)
  refine ⟨f, p, g, _, need, S, rfl, covL_on hf (Nat.le_refl p) (by omega), Nat.lt_of_le_of_lt (Nat.le_trans hcl p16) (by decide), ?_⟩
  simp only [sSeq, sIf, sSet, sSetL, sAsg, sRet, sRetV, sRetL, sRetN, sNx, sBk, sCt, sApp, sExt, sExpr, sFor, sPar, sParL, sPut, gSet, gNilD, gConsD, gTupD, tBool, tNotD, tAndD, tOrD, tYesD, e1, e2, eN, eC, eVar, eIxO, aNil, aCons, eTup, eLst, eFlat, eIf, eChain, eAnd, eOr, eNot, eSl, pNone, pSome, eCall, eCallI, eCallS, iLst, iRg1, iRg2, iRg3, iZipD, iEnumD, sPut2, sSet2, eLc, wipeR, restR, fAdd_i, fAdd_l, fSub_i, fMul_i, fMul_l, fRep_l, fDiv_i, fMod_i, fPow_i, fNeg_i, fCmp_i, fLt, fLe, fGt, fGe, fLen_l, fLen_t, fInt_i, fInt_b, fAbs_i, fMax_i, fMax_l, fMin_i, fSum_l, fList_l, fList_t, fRev_l, fSl_l, fIx_l, fIx_t, fIs_n, fIsNot_n, fIs_b, fIsNot_b, isNone_n, isNone_i, isNone_l, isNone_t, isT_tt, isT_ii, isT_bi, isT_ll, fIsT, fEq, fNe, eqOk_i, eqOk_s, eqOk_l, eqOk_t, eqOk_n, eqv_nil, eqv_int, List.isEmpty_nil, List.isEmpty_cons, eq_self, atI_0, atI_1, atI_2, atI_3, atI_last, exists_eq', Int.cast_ofNat_Int, tab_len, endsP, endsI, rho0, List.set_cons_zero, List.set_cons_succ, List.getElem?_cons_zero, List.getElem?_cons_succ, Option.some.injEq, List.cons.injEq, exists_eq_left', exists_eq, and_assoc, exists_and_left, true_and, and_true, id_eq, List.map_cons, List.map_nil, List.replicate_succ, List.replicate_zero, List.cons_append, List.nil_append, List.length_cons, List.length_nil, PyData.bool.injEq, PyData.int.injEq, PyData.list.injEq, PyData.tuple.injEq, Bool.not_true, Bool.not_false, Bool.false_eq_true, if_true, if_false, ite_true, ite_false, decide_eq_true_eq, Nat.zero_add, Nat.zero_le, Nat.reduceAdd, Nat.reduceSub, Option.join, Option.bind_some, List.getElem?_nil]
  have hne := lookT_ne (P := PT g need) (covL_ne hf hb)
  have hon0 : ∀ x ∈ lookT (PT g need) (covL f p b p), OnT f p x.1 x.2 := fun x hx => covL_on hf (Nat.le_refl p) (by omega) x (lookT_sub x hx)
  have hlen0 : (lookT (PT g need) (covL f p b p)).length ≤ p := Nat.le_trans lookT_len hcl
  cases hx0 : (lookT (PT g need) (covL f p b p)).getLast? with
  | none => exact absurd (List.getLast?_eq_none_iff.mp hx0) hne
  | some x0 =>
  have hw : walkL f p (PT g need) b = lookT (PT g need) (covL f p b p) ++ contL f p (PT g need) x0 := by unfold walkL; rw [hx0]
  have hx0l : x0.1 ≤ 20 := ((hon0 x0 (List.mem_of_getLast? hx0)).sz S).1
  refine while_rule (fun n ρ => ∃ found x, found.getLast? = some x ∧ x.1 = n ∧ (∀ x ∈ found, OnT f p x.1 x.2) ∧ found.length + n * p ≤ 21 * p ∧ walkL f p (PT g need) b = found ++ contL f p (PT g need) x ∧
      ρ = [some (dT f p g), some (.int (f : Int)), some (.int need), some (.int (b : Int)), some (dSh p f), some (.list (found.map dP))]) x0.1 ⟨_, x0, hx0, rfl, hon0, ?_, hw, rfl⟩ ?_
  · have : x0.1 * p ≤ 20 * p := Nat.mul_le_mul_right _ hx0l
    omega
  rintro n ρ ⟨found, x, hx, hn, hon, hlen, hwk, rfl⟩ nx hnx
  have hox := hon x (List.mem_of_getLast? hx)
  have hfne : found ≠ [] := fun z => by rw [z] at hx; cases hx
  have hat : atI (found.map dP) (-1) = some (dP x) := atI_neg (by rw [List.getLast?_map, hx]; rfl)
  simp only [sSeq, sIf, sSet, sSetL, sAsg, sRet, sRetV, sRetL, sRetN, sNx, sBk, sCt, sApp, sExt, sExpr, sFor, sPar, sParL, sPut, gSet, gNilD, gConsD, gTupD, tBool, tNotD, tAndD, tOrD, tYesD, e1, e2, eN, eC, eVar, eIxO, aNil, aCons, eTup, eLst, eFlat, eIf, eChain, eAnd, eOr, eNot, eSl, pNone, pSome, eCall, eCallI, eCallS, iLst, iRg1, iRg2, iRg3, iZipD, iEnumD, sPut2, sSet2, eLc, wipeR, restR, fAdd_i, fAdd_l, fSub_i, fMul_i, fMul_l, fRep_l, fDiv_i, fMod_i, fPow_i, fNeg_i, fCmp_i, fLt, fLe, fGt, fGe, fLen_l, fLen_t, fInt_i, fInt_b, fAbs_i, fMax_i, fMax_l, fMin_i, fSum_l, fList_l, fList_t, fRev_l, fSl_l, fIx_l, fIx_t, fIs_n, fIsNot_n, fIs_b, fIsNot_b, isNone_n, isNone_i, isNone_l, isNone_t, isT_tt, isT_ii, isT_bi, isT_ll, fIsT, fEq, fNe, eqOk_i, eqOk_s, eqOk_l, eqOk_t, eqOk_n, eqv_nil, eqv_int, List.isEmpty_nil, List.isEmpty_cons, eq_self, atI_0, atI_1, atI_2, atI_3, atI_last, exists_eq', Int.cast_ofNat_Int, tab_len, endsP, endsI, rho0, List.set_cons_zero, List.set_cons_succ, List.getElem?_cons_zero, List.getElem?_cons_succ, Option.some.injEq, List.cons.injEq, exists_eq_left', exists_eq, and_assoc, exists_and_left, true_and, and_true, id_eq, List.map_cons, List.map_nil, List.replicate_succ, List.replicate_zero, List.cons_append, List.nil_append, List.length_cons, List.length_nil, PyData.bool.injEq, PyData.int.injEq, PyData.list.injEq, PyData.tuple.injEq, Bool.not_true, Bool.not_false, Bool.false_eq_true, if_true, if_false, ite_true, ite_false, decide_eq_true_eq, Nat.zero_add, Nat.zero_le, Nat.reduceAdd, Nat.reduceSub, Option.join, Option.bind_some, List.getElem?_nil]
  refine ⟨gd_shaped (n := 2) (by decide) (gd_nodes S hon), shaped_nil, ?_⟩
  rw [if_pos (by cases found with | nil => exact absurd rfl hfne | cons => rfl)]
  rw [hat]
  simp only [sSeq, sIf, sSet, sSetL, sAsg, sRet, sRetV, sRetL, sRetN, sNx, sBk, sCt, sApp, sExt, sExpr, sFor, sPar, sParL, sPut, gSet, gNilD, gConsD, gTupD, tBool, tNotD, tAndD, tOrD, tYesD, e1, e2, eN, eC, eVar, eIxO, aNil, aCons, eTup, eLst, eFlat, eIf, eChain, eAnd, eOr, eNot, eSl, pNone, pSome, eCall, eCallI, eCallS, iLst, iRg1, iRg2, iRg3, iZipD, iEnumD, sPut2, sSet2, eLc, wipeR, restR, fAdd_i, fAdd_l, fSub_i, fMul_i, fMul_l, fRep_l, fDiv_i, fMod_i, fPow_i, fNeg_i, fCmp_i, fLt, fLe, fGt, fGe, fLen_l, fLen_t, fInt_i, fInt_b, fAbs_i, fMax_i, fMax_l, fMin_i, fSum_l, fList_l, fList_t, fRev_l, fSl_l, fIx_l, fIx_t, fIs_n, fIsNot_n, fIs_b, fIsNot_b, isNone_n, isNone_i, isNone_l, isNone_t, isT_tt, isT_ii, isT_bi, isT_ll, fIsT, fEq, fNe, eqOk_i, eqOk_s, eqOk_l, eqOk_t, eqOk_n, eqv_nil, eqv_int, List.isEmpty_nil, List.isEmpty_cons, eq_self, atI_0, atI_1, atI_2, atI_3, atI_last, exists_eq', Int.cast_ofNat_Int, tab_len, endsP, endsI, rho0, List.set_cons_zero, List.set_cons_succ, List.getElem?_cons_zero, List.getElem?_cons_succ, Option.some.injEq, List.cons.injEq, exists_eq_left', exists_eq, and_assoc, exists_and_left, true_and, and_true, id_eq, List.map_cons, List.map_nil, List.replicate_succ, List.replicate_zero, List.cons_append, List.nil_append, List.length_cons, List.length_nil, PyData.bool.injEq, PyData.int.injEq, PyData.list.injEq, PyData.tuple.injEq, Bool.not_true, Bool.not_false, Bool.false_eq_true, if_true, if_false, ite_true, ite_false, decide_eq_true_eq, Nat.zero_add, Nat.zero_le, Nat.reduceAdd, Nat.reduceSub, Option.join, Option.bind_some, List.getElem?_nil]
  refine ⟨f, p, g, x.1, x.2, S, hox, rfl, ?_⟩
  simp only [sSeq, sIf, sSet, sSetL, sAsg, sRet, sRetV, sRetL, sRetN, sNx, sBk, sCt, sApp, sExt, sExpr, sFor, sPar, sParL, sPut, gSet, gNilD, gConsD, gTupD, tBool, tNotD, tAndD, tOrD, tYesD, e1, e2, eN, eC, eVar, eIxO, aNil, aCons, eTup, eLst, eFlat, eIf, eChain, eAnd, eOr, eNot, eSl, pNone, pSome, eCall, eCallI, eCallS, iLst, iRg1, iRg2, iRg3, iZipD, iEnumD, sPut2, sSet2, eLc, wipeR, restR, fAdd_i, fAdd_l, fSub_i, fMul_i, fMul_l, fRep_l, fDiv_i, fMod_i, fPow_i, fNeg_i, fCmp_i, fLt, fLe, fGt, fGe, fLen_l, fLen_t, fInt_i, fInt_b, fAbs_i, fMax_i, fMax_l, fMin_i, fSum_l, fList_l, fList_t, fRev_l, fSl_l, fIx_l, fIx_t, fIs_n, fIsNot_n, fIs_b, fIsNot_b, isNone_n, isNone_i, isNone_l, isNone_t, isT_tt, isT_ii, isT_bi, isT_ll, fIsT, fEq, fNe, eqOk_i, eqOk_s, eqOk_l, eqOk_t, eqOk_n, eqv_nil, eqv_int, List.isEmpty_nil, List.isEmpty_cons, eq_self, atI_0, atI_1, atI_2, atI_3, atI_last, exists_eq', Int.cast_ofNat_Int, tab_len, endsP, endsI, rho0, List.set_cons_zero, List.set_cons_succ, List.getElem?_cons_zero, List.getElem?_cons_succ, Option.some.injEq, List.cons.injEq, exists_eq_left', exists_eq, and_assoc, exists_and_left, true_and, and_true, id_eq, List.map_cons, List.map_nil, List.replicate_succ, List.replicate_zero, List.cons_append, List.nil_append, List.length_cons, List.length_nil, PyData.bool.injEq, PyData.int.injEq, PyData.list.injEq, PyData.tuple.injEq, Bool.not_true, Bool.not_false, Bool.false_eq_true, if_true, if_false, ite_true, ite_false, decide_eq_true_eq, Nat.zero_add, Nat.zero_le, Nat.reduceAdd, Nat.reduceSub, Option.join, Option.bind_some, List.getElem?_nil]
  by_cases c : need ≤ g x.1 x.2
  · have hP : PT g need x = true := by unfold PT; simpa using c
    rw [if_pos c]
    by_cases c2 : x.1 = 0
    · rw [if_neg (by omega)]
      have hc : contL f p (PT g need) x = [] := by unfold contL; rw [if_pos hP, c2]; rfl
      rw [hwk, hc, List.append_nil] at q
      exact q
    · rw [if_pos (by omega)]
      obtain ⟨l, i⟩ := x
      simp only at c2 hn hox c
      obtain ⟨l, rfl⟩ := Nat.exists_eq_succ_of_ne_zero c2
      subst hn
      refine ⟨p, f, l + 1, i, S, rfl, hox, ?_⟩
      rw [dCh_L]
      have hcl2 : (chL f p (l + 1) i).length ≤ p := by
        unfold chL
        rw [List.length_map, List.length_range]
        have := cnt_le (p := p) (l := l) hf
        unfold chN; rw [if_neg (by omega)]; simp only [Nat.add_sub_cancel]; omega
      have hch := chL_on hf hox
      refine ⟨f, p, g, _, need, S, rfl, fun y hy => (hch y hy).2, Nat.lt_of_le_of_lt (Nat.le_trans hcl2 p16) (by decide), ?_⟩
      simp only [sSeq, sIf, sSet, sSetL, sAsg, sRet, sRetV, sRetL, sRetN, sNx, sBk, sCt, sApp, sExt, sExpr, sFor, sPar, sParL, sPut, gSet, gNilD, gConsD, gTupD, tBool, tNotD, tAndD, tOrD, tYesD, e1, e2, eN, eC, eVar, eIxO, aNil, aCons, eTup, eLst, eFlat, eIf, eChain, eAnd, eOr, eNot, eSl, pNone, pSome, eCall, eCallI, eCallS, iLst, iRg1, iRg2, iRg3, iZipD, iEnumD, sPut2, sSet2, eLc, wipeR, restR, fAdd_i, fAdd_l, fSub_i, fMul_i, fMul_l, fRep_l, fDiv_i, fMod_i, fPow_i, fNeg_i, fCmp_i, fLt, fLe, fGt, fGe, fLen_l, fLen_t, fInt_i, fInt_b, fAbs_i, fMax_i, fMax_l, fMin_i, fSum_l, fList_l, fList_t, fRev_l, fSl_l, fIx_l, fIx_t, fIs_n, fIsNot_n, fIs_b, fIsNot_b, isNone_n, isNone_i, isNone_l, isNone_t, isT_tt, isT_ii, isT_bi, isT_ll, fIsT, fEq, fNe, eqOk_i, eqOk_s, eqOk_l, eqOk_t, eqOk_n, eqv_nil, eqv_int, List.isEmpty_nil, List.isEmpty_cons, eq_self, atI_0, atI_1, atI_2, atI_3, atI_last, exists_eq', Int.cast_ofNat_Int, tab_len, endsP, endsI, rho0, List.set_cons_zero, List.set_cons_succ, List.getElem?_cons_zero, List.getElem?_cons_succ, Option.some.injEq, List.cons.injEq, exists_eq_left', exists_eq, and_assoc, exists_and_left, true_and, and_true, id_eq, List.map_cons, List.map_nil, List.replicate_succ, List.replicate_zero, List.cons_append, List.nil_append, List.length_cons, List.length_nil, PyData.bool.injEq, PyData.int.injEq, PyData.list.injEq, PyData.tuple.injEq, Bool.not_true, Bool.not_false, Bool.false_eq_true, if_true, if_false, ite_true, ite_false, decide_eq_true_eq, Nat.zero_add, Nat.zero_le, Nat.reduceAdd, Nat.reduceSub, Option.join, Option.bind_some, List.getElem?_nil]
      have hll := lookT_len (P := PT g need) (xs := chL f p (l + 1) i)
      rw [Nat.succ_mul] at hlen
      refine ⟨by rw [List.length_map, List.length_map]; exact Nat.le_trans (show _ ≤ 21 * p by omega) (Nat.le_trans (Nat.mul_le_mul_left 21 p16) (by decide)), ?_⟩
      have hne2 := lookT_ne (P := PT g need) (chL_ne hf hox)
      cases hy : (lookT (PT g need) (chL f p (l + 1) i)).getLast? with
      | none => exact absurd (List.getLast?_eq_none_iff.mp hy) hne2
      | some y =>
        have hym := lookT_sub y (List.mem_of_getLast? hy)
        have h := hnx l [some (dT f p g), some (.int (f : Int)), some (.int need), some (.int (b : Int)), some (dSh p f), some (.list ((found ++ lookT (PT g need) (chL f p (l + 1) i)).map dP))] rfl ⟨found ++ lookT (PT g need) (chL f p (l + 1) i), y, ?_, (hch y hym).1, ?_, ?_, ?_, rfl⟩
        · rw [List.map_append] at h
          exact h
        · rw [List.getLast?_append, hy]; rfl
        · intro z hz
          rcases List.mem_append.mp hz with hz | hz
          · exact hon z hz
          · exact (hch z (lookT_sub z hz)).2
        · rw [List.length_append]; omega
        · rw [hwk, List.append_assoc]
          congr 1
          unfold contL
          rw [if_pos hP]
          show downL f p (PT g need) (l + 1) i = _
          rw [downL, hy, (hch y hym).1]
  · have hP : PT g need x = false := by unfold PT; simpa using c
    rw [if_neg c]
    have hc : contL f p (PT g need) x = [] := by unfold contL; rw [if_neg (by simp [hP])]
    rw [hwk, hc, List.append_nil] at q
    exact q
end DD

set_option Elab.async false
set_option linter.all false
set_option maxRecDepth 100000
set_option maxHeartbeats 4000000
/-! DM, part 6: finds; what an exact tree tells -/
namespace DD
open PySem PySem.Spec PyProof.Rows L2

def sp_need_page (ds : List D) (Q : D → Prop) : Prop := ∃ p b : Nat, b < p ∧ ds = [.int (p : Int), .int (b : Int)] ∧ Q .none
def w_need_page : DS := (sIf (tOrD (tBool (e2 fLt (eVar 1) (eC (.int 0)))) (tBool (e2 fGe (eVar 1) (eVar 0)))) sNever sNx)
theorem m_need_page : ∀ ds Q, ds.length = 2 → sp_need_page ds Q → w_need_page (endsP false Q) (rho0 ds 0) := by
  rintro ds Q - ⟨p, b, h, rfl, q⟩
  simp only [w_need_page, sSeq, sIf, sSet, sSetL, sAsg, sRet, sRetV, sRetL, sRetN, sNx, sBk, sCt, sApp, sExt, sExpr, sFor, sPar, sParL, sPut, gSet, gNilD, gConsD, gTupD, tBool, tNotD, tAndD, tOrD, tYesD, e1, e2, eN, eC, eVar, eIxO, aNil, aCons, eTup, eLst, eFlat, eIf, eChain, eAnd, eOr, eNot, eSl, pNone, pSome, eCall, eCallI, eCallS, iLst, iRg1, iRg2, iRg3, iZipD, iEnumD, sPut2, sSet2, eLc, wipeR, restR, fAdd_i, fAdd_l, fSub_i, fMul_i, fMul_l, fRep_l, fDiv_i, fMod_i, fPow_i, fNeg_i, fCmp_i, fLt, fLe, fGt, fGe, fLen_l, fLen_t, fInt_i, fInt_b, fAbs_i, fMax_i, fMax_l, fMin_i, fSum_l, fList_l, fList_t, fRev_l, fSl_l, fIx_l, fIx_t, fIs_n, fIsNot_n, fIs_b, fIsNot_b, isNone_n, isNone_i, isNone_l, isNone_t, isT_tt, isT_ii, isT_bi, isT_ll, fIsT, fEq, fNe, eqOk_i, eqOk_s, eqOk_l, eqOk_t, eqOk_n, eqv_nil, eqv_int, List.isEmpty_nil, List.isEmpty_cons, eq_self, atI_0, atI_1, atI_2, atI_3, atI_last, exists_eq', Int.cast_ofNat_Int, tab_len, endsP, endsI, rho0, List.set_cons_zero, List.set_cons_succ, List.getElem?_cons_zero, List.getElem?_cons_succ, Option.some.injEq, List.cons.injEq, exists_eq_left', exists_eq, and_assoc, exists_and_left, true_and, and_true, id_eq, List.map_cons, List.map_nil, List.replicate_succ, List.replicate_zero, List.cons_append, List.nil_append, List.length_cons, List.length_nil, PyData.bool.injEq, PyData.int.injEq, PyData.list.injEq, PyData.tuple.injEq, Bool.not_true, Bool.not_false, Bool.false_eq_true, if_true, if_false, ite_true, ite_false, decide_eq_true_eq, Nat.zero_add, Nat.zero_le, Nat.reduceAdd, Nat.reduceSub, Option.join, Option.bind_some, List.getElem?_nil]
  rw [if_neg (by omega), if_neg (by omega)]
  exact q
def furR (f p : Nat) (P : Nat × Nat → Bool) (b : Nat) : Option Nat := match (walkL f p P b).getLast? with
  | none => none
  | some x => if P x = true then some x.2 else none
def sp_further (ds : List D) (Q : D → Prop) : Prop := ∃ (f p : Nat) (g : Nat → Nat → Int) (need : Int) (b : Nat), Shp f p ∧ p ≤ 2 ^ 16 ∧ BdT f p g ∧ b < p ∧ ds = [dT f p g, .int (f : Int), .int need, .int (b : Int)] ∧ Q (dR (furR f p (PT g need) b))
def w_further : DS := (sSeq (sExpr (eCall 2 sp_need_page (aCons (eCall 1 sp_pages_of (aCons (eVar 0) aNil)) (aCons (eVar 3) aNil)))) (sSeq (sSet 4 (eCall 4 sp_walked (aCons (eVar 0) (aCons (eVar 1) (aCons (eVar 2) (aCons (eVar 3) aNil)))))) (sSeq (sIf (tBool (e2 fLt (eCall 2 sp_tells (aCons (eVar 0) (aCons (e2 fIx (eVar 4) (e1 fNeg (eC (.int 1)))) aNil))) (eVar 2))) (sRet (eC .none)) sNx) (sRet (e2 fIx (e2 fIx (eVar 4) (e1 fNeg (eC (.int 1)))) (eC (.int 1)))))))
theorem walkL_ne {f p b : Nat} {P : Nat × Nat → Bool} (hf : 2 ≤ f) (hb : b < p) : walkL f p P b ≠ [] := by
  have := lookT_ne (P := P) (covL_ne hf hb)
  unfold walkL
  intro z
  exact this (List.append_eq_nil_iff.mp z).1
theorem walkL_on {f p b : Nat} {P : Nat × Nat → Bool} (hf : 2 ≤ f) (hb : b < p) : ∀ x ∈ walkL f p P b, OnT f p x.1 x.2 := by
  intro x hx
  unfold walkL at hx
  rcases List.mem_append.mp hx with hx | hx
  · exact covL_on hf (Nat.le_refl p) (by omega) x (lookT_sub x hx)
  · split at hx
    · cases hx
    · rename_i y hy
      have ho := covL_on hf (Nat.le_refl p) (by omega) y (lookT_sub y (List.mem_of_getLast? hy))
      unfold contL at hx
      split at hx
      · exact downL_on hf _ _ ho x hx
      · cases hx
theorem m_further : ∀ ds Q, ds.length = 4 → sp_further ds Q → w_further (endsP false Q) (rho0 ds 1) := by
  rintro ds Q - ⟨f, p, g, need, b, S, p16, B, hb, rfl, q⟩
  have hf := S.f2
  simp only [w_further, sSeq, sIf, sSet, sSetL, sAsg, sRet, sRetV, sRetL, sRetN, sNx, sBk, sCt, sApp, sExt, sExpr, sFor, sPar, sParL, sPut, gSet, gNilD, gConsD, gTupD, tBool, tNotD, tAndD, tOrD, tYesD, e1, e2, eN, eC, eVar, eIxO, aNil, aCons, eTup, eLst, eFlat, eIf, eChain, eAnd, eOr, eNot, eSl, pNone, pSome, eCall, eCallI, eCallS, iLst, iRg1, iRg2, iRg3, iZipD, iEnumD, sPut2, sSet2, eLc, wipeR, restR, fAdd_i, fAdd_l, fSub_i, fMul_i, fMul_l, fRep_l, fDiv_i, fMod_i, fPow_i, fNeg_i, fCmp_i, fLt, fLe, fGt, fGe, fLen_l, fLen_t, fInt_i, fInt_b, fAbs_i, fMax_i, fMax_l, fMin_i, fSum_l, fList_l, fList_t, fRev_l, fSl_l, fIx_l, fIx_t, fIs_n, fIsNot_n, fIs_b, fIsNot_b, isNone_n, isNone_i, isNone_l, isNone_t, isT_tt, isT_ii, isT_bi, isT_ll, fIsT, fEq, fNe, eqOk_i, eqOk_s, eqOk_l, eqOk_t, eqOk_n, eqv_nil, eqv_int, List.isEmpty_nil, List.isEmpty_cons, eq_self, atI_0, atI_1, atI_2, atI_3, atI_last, exists_eq', Int.cast_ofNat_Int, tab_len, endsP, endsI, rho0, List.set_cons_zero, List.set_cons_succ, List.getElem?_cons_zero, List.getElem?_cons_succ, Option.some.injEq, List.cons.injEq, exists_eq_left', exists_eq, and_assoc, exists_and_left, true_and, and_true, id_eq, List.map_cons, List.map_nil, List.replicate_succ, List.replicate_zero, List.cons_append, List.nil_append, List.length_cons, List.length_nil, PyData.bool.injEq, PyData.int.injEq, PyData.list.injEq, PyData.tuple.injEq, Bool.not_true, Bool.not_false, Bool.false_eq_true, if_true, if_false, ite_true, ite_false, decide_eq_true_eq, Nat.zero_add, Nat.zero_le, Nat.reduceAdd, Nat.reduceSub, Option.join, Option.bind_some, List.getElem?_nil]
  refine ⟨f, p, g, B, rfl, p, b, hb, rfl, f, p, g, need, b, S, p16, B, hb, rfl, ?_⟩
  unfold furR at q
  cases hx : (walkL f p (PT g need) b).getLast? with
  | none => exact absurd (List.getLast?_eq_none_iff.mp hx) (walkL_ne hf hb)
  | some x =>
    rw [hx] at q
    have hat : atI ((walkL f p (PT g need) b).map dP) (-1) = some (dP x) := atI_neg (by rw [List.getLast?_map, hx]; rfl)
    simp only [hat, sSeq, sIf, sSet, sSetL, sAsg, sRet, sRetV, sRetL, sRetN, sNx, sBk, sCt, sApp, sExt, sExpr, sFor, sPar, sParL, sPut, gSet, gNilD, gConsD, gTupD, tBool, tNotD, tAndD, tOrD, tYesD, e1, e2, eN, eC, eVar, eIxO, aNil, aCons, eTup, eLst, eFlat, eIf, eChain, eAnd, eOr, eNot, eSl, pNone, pSome, eCall, eCallI, eCallS, iLst, iRg1, iRg2, iRg3, iZipD, iEnumD, sPut2, sSet2, eLc, wipeR, restR, fAdd_i, fAdd_l, fSub_i, fMul_i, fMul_l, fRep_l, fDiv_i, fMod_i, fPow_i, fNeg_i, fCmp_i, fLt, fLe, fGt, fGe, fLen_l, fLen_t, fInt_i, fInt_b, fAbs_i, fMax_i, fMax_l, fMin_i, fSum_l, fList_l, fList_t, fRev_l, fSl_l, fIx_l, fIx_t, fIs_n, fIsNot_n, fIs_b, fIsNot_b, isNone_n, isNone_i, isNone_l, isNone_t, isT_tt, isT_ii, isT_bi, isT_ll, fIsT, fEq, fNe, eqOk_i, eqOk_s, eqOk_l, eqOk_t, eqOk_n, eqv_nil, eqv_int, List.isEmpty_nil, List.isEmpty_cons, eq_self, atI_0, atI_1, atI_2, atI_3, atI_last, exists_eq', Int.cast_ofNat_Int, tab_len, endsP, endsI, rho0, List.set_cons_zero, List.set_cons_succ, List.getElem?_cons_zero, List.getElem?_cons_succ, Option.some.injEq, List.cons.injEq, exists_eq_left', exists_eq, and_assoc, exists_and_left, true_and, and_true, id_eq, List.map_cons, List.map_nil, List.replicate_succ, List.replicate_zero, List.cons_append, List.nil_append, List.length_cons, List.length_nil, PyData.bool.injEq, PyData.int.injEq, PyData.list.injEq, PyData.tuple.injEq, Bool.not_true, Bool.not_false, Bool.false_eq_true, if_true, if_false, ite_true, ite_false, decide_eq_true_eq, Nat.zero_add, Nat.zero_le, Nat.reduceAdd, Nat.reduceSub, Option.join, Option.bind_some, List.getElem?_nil]
    refine ⟨f, p, g, x.1, x.2, S, walkL_on hf hb x (List.mem_of_getLast? hx), rfl, ?_⟩
    simp only [sSeq, sIf, sSet, sSetL, sAsg, sRet, sRetV, sRetL, sRetN, sNx, sBk, sCt, sApp, sExt, sExpr, sFor, sPar, sParL, sPut, gSet, gNilD, gConsD, gTupD, tBool, tNotD, tAndD, tOrD, tYesD, e1, e2, eN, eC, eVar, eIxO, aNil, aCons, eTup, eLst, eFlat, eIf, eChain, eAnd, eOr, eNot, eSl, pNone, pSome, eCall, eCallI, eCallS, iLst, iRg1, iRg2, iRg3, iZipD, iEnumD, sPut2, sSet2, eLc, wipeR, restR, fAdd_i, fAdd_l, fSub_i, fMul_i, fMul_l, fRep_l, fDiv_i, fMod_i, fPow_i, fNeg_i, fCmp_i, fLt, fLe, fGt, fGe, fLen_l, fLen_t, fInt_i, fInt_b, fAbs_i, fMax_i, fMax_l, fMin_i, fSum_l, fList_l, fList_t, fRev_l, fSl_l, fIx_l, fIx_t, fIs_n, fIsNot_n, fIs_b, fIsNot_b, isNone_n, isNone_i, isNone_l, isNone_t, isT_tt, isT_ii, isT_bi, isT_ll, fIsT, fEq, fNe, eqOk_i, eqOk_s, eqOk_l, eqOk_t, eqOk_n, eqv_nil, eqv_int, List.isEmpty_nil, List.isEmpty_cons, eq_self, atI_0, atI_1, atI_2, atI_3, atI_last, exists_eq', Int.cast_ofNat_Int, tab_len, endsP, endsI, rho0, List.set_cons_zero, List.set_cons_succ, List.getElem?_cons_zero, List.getElem?_cons_succ, Option.some.injEq, List.cons.injEq, exists_eq_left', exists_eq, and_assoc, exists_and_left, true_and, and_true, id_eq, List.map_cons, List.map_nil, List.replicate_succ, List.replicate_zero, List.cons_append, List.nil_append, List.length_cons, List.length_nil, PyData.bool.injEq, PyData.int.injEq, PyData.list.injEq, PyData.tuple.injEq, Bool.not_true, Bool.not_false, Bool.false_eq_true, if_true, if_false, ite_true, ite_false, decide_eq_true_eq, Nat.zero_add, Nat.zero_le, Nat.reduceAdd, Nat.reduceSub, Option.join, Option.bind_some, List.getElem?_nil]
    by_cases c : need ≤ g x.1 x.2
    · have hP : PT g need x = true := by unfold PT; simpa using c
      rw [if_neg (by omega)]
      simp only [hP, if_true] at q
      exact q
    · have hP : PT g need x = false := by unfold PT; simpa using c
      rw [if_pos (by omega)]
      simp only [hP] at q
      exact q
def sp_first (ds : List D) (Q : D → Prop) : Prop := ∃ (f p : Nat) (g : Nat → Nat → Int) (need : Int), Shp f p ∧ p ≤ 2 ^ 16 ∧ BdT f p g ∧ ds = [dT f p g, .int (f : Int), .int need] ∧ Q (if p = 0 then .none else dR (furR f p (PT g need) 0))
def w_first : DS := (sSeq (sIf (tBool (e2 fEq (eVar 0) (eLst aNil))) (sRet (eC .none)) sNx) (sRet (eCall 4 sp_further (aCons (eVar 0) (aCons (eVar 1) (aCons (eVar 2) (aCons (eC (.int 0)) aNil)))))))
theorem m_first : ∀ ds Q, ds.length = 3 → sp_first ds Q → w_first (endsP false Q) (rho0 ds 0) := by
  rintro ds Q - ⟨f, p, g, need, S, p16, B, rfl, q⟩
  simp only [w_first, eqv_T, sSeq, sIf, sSet, sSetL, sAsg, sRet, sRetV, sRetL, sRetN, sNx, sBk, sCt, sApp, sExt, sExpr, sFor, sPar, sParL, sPut, gSet, gNilD, gConsD, gTupD, tBool, tNotD, tAndD, tOrD, tYesD, e1, e2, eN, eC, eVar, eIxO, aNil, aCons, eTup, eLst, eFlat, eIf, eChain, eAnd, eOr, eNot, eSl, pNone, pSome, eCall, eCallI, eCallS, iLst, iRg1, iRg2, iRg3, iZipD, iEnumD, sPut2, sSet2, eLc, wipeR, restR, fAdd_i, fAdd_l, fSub_i, fMul_i, fMul_l, fRep_l, fDiv_i, fMod_i, fPow_i, fNeg_i, fCmp_i, fLt, fLe, fGt, fGe, fLen_l, fLen_t, fInt_i, fInt_b, fAbs_i, fMax_i, fMax_l, fMin_i, fSum_l, fList_l, fList_t, fRev_l, fSl_l, fIx_l, fIx_t, fIs_n, fIsNot_n, fIs_b, fIsNot_b, isNone_n, isNone_i, isNone_l, isNone_t, isT_tt, isT_ii, isT_bi, isT_ll, fIsT, fEq, fNe, eqOk_i, eqOk_s, eqOk_l, eqOk_t, eqOk_n, eqv_nil, eqv_int, List.isEmpty_nil, List.isEmpty_cons, eq_self, atI_0, atI_1, atI_2, atI_3, atI_last, exists_eq', Int.cast_ofNat_Int, tab_len, endsP, endsI, rho0, List.set_cons_zero, List.set_cons_succ, List.getElem?_cons_zero, List.getElem?_cons_succ, Option.some.injEq, List.cons.injEq, exists_eq_left', exists_eq, and_assoc, exists_and_left, true_and, and_true, id_eq, List.map_cons, List.map_nil, List.replicate_succ, List.replicate_zero, List.cons_append, List.nil_append, List.length_cons, List.length_nil, PyData.bool.injEq, PyData.int.injEq, PyData.list.injEq, PyData.tuple.injEq, Bool.not_true, Bool.not_false, Bool.false_eq_true, if_true, if_false, ite_true, ite_false, decide_eq_true_eq, Nat.zero_add, Nat.zero_le, Nat.reduceAdd, Nat.reduceSub, Option.join, Option.bind_some, List.getElem?_nil]
  refine ⟨gd_shaped (by decide) (gd_tree B), shaped_nil, ?_⟩
  by_cases hp : p = 0
  · rw [if_pos hp] at q ⊢
    exact q
  · rw [if_neg hp] at q ⊢
    exact ⟨f, p, g, need, 0, S, p16, B, by omega, rfl, q⟩

/-! ### exact trees -/
def loN (f l i : Nat) : Nat := i * f ^ l
def hiN (f p l i : Nat) : Nat := min p ((i + 1) * f ^ l)
theorem lo_ch {f l i : Nat} : loN f (l + 1) i = i * f * f ^ l := by unfold loN; rw [Nat.pow_succ, Nat.mul_comm (f ^ l) f, Nat.mul_assoc]
theorem hi_ch {f p l i : Nat} : hiN f p (l + 1) i = min p ((i * f + f) * f ^ l) := by unfold hiN; rw [Nat.pow_succ, Nat.mul_comm (f ^ l) f, ← Nat.mul_assoc, Nat.succ_mul]
theorem lo_lt_hi {f p l i : Nat} (hf : 2 ≤ f) (h : OnT f p l i) : loN f l i < hiN f p l i := by
  have := (lt_cnt hf).mp h.2
  have h2 : (i + 1) * f ^ l = i * f ^ l + f ^ l := Nat.succ_mul _ _
  have := pw_pos (f := f) (l := l) hf
  unfold loN hiN
  omega
/-- a page of a node lies in one of its children -/
theorem ch_of {f p l i a : Nat} (hf : 2 ≤ f) (h1 : loN f (l + 1) i ≤ a) (h2 : a < hiN f p (l + 1) i) : ∃ j, j < chN f p (l + 1) i ∧ loN f l (i * f + j) ≤ a ∧ a < hiN f p l (i * f + j) := by
  rw [lo_ch] at h1
  rw [hi_ch] at h2
  have hw := pw_pos (f := f) (l := l) hf
  have d1 := Nat.div_mul_le_self a (f ^ l)
  have d2 : a < (a / f ^ l + 1) * f ^ l := by rw [Nat.succ_mul]; have := Nat.div_add_mod a (f ^ l); have := Nat.mod_lt a hw; rw [Nat.mul_comm]; omega
  have k1 : i * f ≤ a / f ^ l := (Nat.le_div_iff_mul_le hw).mpr h1
  have k2 : a / f ^ l < i * f + f := (Nat.div_lt_iff_lt_mul hw).mpr (by omega)
  have k3 : a / f ^ l < cnt f p l := (lt_cnt hf).mpr (by omega)
  refine ⟨a / f ^ l - i * f, ?_, ?_, ?_⟩
  · unfold chN; rw [if_neg (by omega)]; simp only [Nat.add_sub_cancel]; omega
  · unfold loN
    rw [show i * f + (a / f ^ l - i * f) = a / f ^ l by omega]
    exact d1
  · unfold hiN
    rw [show i * f + (a / f ^ l - i * f) = a / f ^ l by omega]
    omega
theorem ch_in {f p l i j : Nat} (hf : 2 ≤ f) (hj : j < chN f p (l + 1) i) : loN f (l + 1) i ≤ loN f l (i * f + j) ∧ hiN f p l (i * f + j) ≤ hiN f p (l + 1) i := by
  rw [lo_ch, hi_ch]
  unfold chN at hj
  rw [if_neg (by omega)] at hj
  unfold loN hiN
  have h1 : i * f * f ^ l ≤ (i * f + j) * f ^ l := Nat.mul_le_mul_right _ (by omega)
  have h2 : (i * f + j + 1) * f ^ l ≤ (i * f + f) * f ^ l := Nat.mul_le_mul_right _ (by omega)
  omega
theorem bt_le {f p : Nat} {r : Nat → Int} (hf : 2 ≤ f) : ∀ l i a, loN f l i ≤ a → a < hiN f p l i → r a ≤ bt f p r l i
  | 0, i, a, h1, h2 => by
    unfold loN hiN at *
    simp only [Nat.pow_zero, Nat.mul_one] at h1 h2
    have : a = i := by omega
    subst this
    exact Int.le_refl _
  | l + 1, i, a, h1, h2 => by
    obtain ⟨j, hj, k1, k2⟩ := ch_of hf h1 h2
    exact Int.le_trans (bt_le hf l _ a k1 k2) (mxs_ge hj)
theorem bt_at {f p : Nat} {r : Nat → Int} (hf : 2 ≤ f) : ∀ l i, OnT f p l i → ∃ a, loN f l i ≤ a ∧ a < hiN f p l i ∧ bt f p r l i = r a
  | 0, i, h => ⟨i, by simp [loN], by have := h.2; rw [cnt_zero] at this; simp [hiN]; omega, rfl⟩
  | l + 1, i, h => by
    obtain ⟨j, hj, e⟩ := mxs_mem (r := bt f p r l) (a := i * f) (ch_pos hf h)
    obtain ⟨a, k1, k2, e2⟩ := bt_at hf l _ (ch_lt hf h hj)
    have := ch_in hf hj
    exact ⟨a, by omega, by omega, by show mxs _ _ _ = _; rw [e, e2]⟩
theorem bt_ge {f p l i : Nat} {r : Nat → Int} {n : Int} (hf : 2 ≤ f) (h : OnT f p l i) : n ≤ bt f p r l i ↔ ∃ a, loN f l i ≤ a ∧ a < hiN f p l i ∧ n ≤ r a := by
  constructor
  · intro q
    obtain ⟨a, h1, h2, e⟩ := bt_at (r := r) hf l i h
    exact ⟨a, h1, h2, by omega⟩
  · rintro ⟨a, h1, h2, q⟩
    have := bt_le (r := r) hf l i a h1 h2
    omega
theorem bt_eq {f p l i : Nat} {r : Nat → Int} {m : Int} (hf : 2 ≤ f) (h : OnT f p l i) (h1 : ∀ a, loN f l i ≤ a → a < hiN f p l i → r a ≤ m) (h2 : ∃ a, loN f l i ≤ a ∧ a < hiN f p l i ∧ r a = m) : bt f p r l i = m := by
  obtain ⟨a, k1, k2, e⟩ := bt_at (r := r) hf l i h
  obtain ⟨b, k3, k4, e2⟩ := h2
  have := bt_le (r := r) hf l i b k3 k4
  have := h1 a k1 k2
  omega

/-- the first of a stretch that is enough -/
def FirstIn (r : Nat → Int) (n : Int) (a e c : Nat) : Prop := a ≤ c ∧ c < e ∧ n ≤ r c ∧ ∀ d, a ≤ d → d < c → r d < n
def NoneIn (r : Nat → Int) (n : Int) (a e : Nat) : Prop := ∀ d, a ≤ d → d < e → r d < n
theorem FirstIn.uniq {r : Nat → Int} {n : Int} {a e c d : Nat} (h : FirstIn r n a e c) (k : FirstIn r n a e d) : c = d := by
  by_cases q : c < d
  · have := k.2.2.2 c h.1 q; have := h.2.2.1; omega
  · by_cases q2 : d < c
    · have := h.2.2.2 d k.1 q2; have := k.2.2.1; omega
    · omega
/-- nodes one behind the other, from a page up to another -/
def Cov (f p : Nat) : Nat → Nat → List (Nat × Nat) → Prop
  | a, e, [] => a = e
  | a, e, x :: xs => OnT f p x.1 x.2 ∧ loN f x.1 x.2 = a ∧ Cov f p (hiN f p x.1 x.2) e xs
theorem Cov.app {f p : Nat} : ∀ {xs ys : List (Nat × Nat)} {a m e : Nat}, Cov f p a m xs → Cov f p m e ys → Cov f p a e (xs ++ ys)
  | [], ys, a, m, e, h, k => by cases h; exact k
  | x :: xs, ys, a, m, e, h, k => ⟨h.1, h.2.1, Cov.app h.2.2 k⟩
theorem Cov.le {f p : Nat} (hf : 2 ≤ f) : ∀ {xs : List (Nat × Nat)} {a e : Nat}, Cov f p a e xs → a ≤ e
  | [], a, e, h => by cases h; exact Nat.le_refl _
  | x :: xs, a, e, h => by
    have := lo_lt_hi hf h.1
    have := Cov.le hf h.2.2
    have := h.2.1
    omega
theorem ch_cov_n {f p l i : Nat} (hf : 2 ≤ f) (h : OnT f p (l + 1) i) : ∀ n, n ≤ chN f p (l + 1) i → Cov f p (loN f (l + 1) i) (min p ((i * f + n) * f ^ l)) ((List.range n).map fun j => (l, i * f + j))
  | 0, _ => by
    have h2 := (lt_cnt hf).mp h.2
    have : i * f ^ (l + 1) = i * f * f ^ l := lo_ch
    show loN f (l + 1) i = _
    rw [lo_ch, Nat.add_zero]; omega
  | n + 1, hn => by
    rw [List.range_succ, List.map_append]
    refine (ch_cov_n hf h n (by omega)).app ⟨ch_lt hf h (show n < chN f p (l + 1) i by omega), ?_, ?_⟩
    · have h2 := (lt_cnt hf).mp (ch_lt hf h (show n < _ by omega)).2
      show (i * f + n) * f ^ l = _
      omega
    · show hiN f p l (i * f + n) = _
      rfl
theorem ch_end {f p l i : Nat} (hf : 2 ≤ f) (h : OnT f p (l + 1) i) : min p ((i * f + chN f p (l + 1) i) * f ^ l) = hiN f p (l + 1) i := by
  rw [hi_ch]
  have hc : chN f p (l + 1) i = min (cnt f p l) (i * f + f) - i * f := by unfold chN; rw [if_neg (by omega)]; rfl
  have hp := ch_pos hf h
  by_cases q : cnt f p l ≤ i * f + f
  · have e1 : i * f + chN f p (l + 1) i = cnt f p l := by omega
    rw [e1]
    have h1 : ¬ cnt f p l * f ^ l < p := fun z => by have := (lt_cnt (p := p) hf).mpr z; omega
    have h2 : cnt f p l * f ^ l ≤ (i * f + f) * f ^ l := Nat.mul_le_mul_right _ q
    omega
  · have e1 : i * f + chN f p (l + 1) i = i * f + f := by omega
    rw [e1]
theorem ch_cov {f p l i : Nat} (hf : 2 ≤ f) (h : OnT f p (l + 1) i) : Cov f p (loN f (l + 1) i) (hiN f p (l + 1) i) (chL f p (l + 1) i) := by
  have k := ch_cov_n hf h (chN f p (l + 1) i) (Nat.le_refl _)
  rw [ch_end hf h] at k
  exact k
theorem wthn_cov {f p b e : Nat} (hf : 2 ≤ f) (hbe : b ≤ e) (he : e ≤ p) : ∀ l i, OnT f p l i → Cov f p (min (max (loN f l i) b) e) (min (max (hiN f p l i) b) e) (wthn f p b e l i)
  | 0, i, h => by
    have hlt := (lt_cnt hf).mp h.2
    have e0 : (i + 1) * f ^ 0 = i * f ^ 0 + 1 := by simp
    rw [wthn]
    split
    · show min (max (i * f ^ 0) b) e = min (max (min p ((i + 1) * f ^ 0)) b) e
      omega
    · rw [if_pos (by omega)]
      refine ⟨h, ?_, ?_⟩
      · show i * f ^ 0 = min (max (i * f ^ 0) b) e
        omega
      · show min p ((i + 1) * f ^ 0) = min (max (min p ((i + 1) * f ^ 0)) b) e
        omega
  | l + 1, i, h => by
    have hlt := (lt_cnt hf).mp h.2
    have hpw := pw_pos (f := f) (l := l + 1) hf
    have e0 : (i + 1) * f ^ (l + 1) = i * f ^ (l + 1) + f ^ (l + 1) := Nat.succ_mul _ _
    rw [wthn]
    split
    · show min (max (i * f ^ (l + 1)) b) e = min (max (min p ((i + 1) * f ^ (l + 1))) b) e
      omega
    · split
      · refine ⟨h, ?_, ?_⟩
        · show i * f ^ (l + 1) = min (max (i * f ^ (l + 1)) b) e
          omega
        · show min p ((i + 1) * f ^ (l + 1)) = min (max (min p ((i + 1) * f ^ (l + 1))) b) e
          omega
      · have key : ∀ n, n ≤ chN f p (l + 1) i → Cov f p (min (max (loN f (l + 1) i) b) e) (min (max (min p ((i * f + n) * f ^ l)) b) e) ((List.range n).flatMap fun j => wthn f p b e l (i * f + j)) := by
          intro n
          induction n with
          | zero =>
            intro _
            show min (max (loN f (l + 1) i) b) e = _
            rw [lo_ch, Nat.add_zero]
            have : i * f ^ (l + 1) = i * f * f ^ l := lo_ch
            omega
          | succ n ih =>
            intro hn
            rw [List.range_succ, List.flatMap_append, List.flatMap_singleton]
            refine (ih (by omega)).app ?_
            have ho := ch_lt hf h (show n < chN f p (l + 1) i by omega)
            have h2 := (lt_cnt hf).mp ho.2
            have k := wthn_cov hf hbe he l (i * f + n) ho
            have e1 : min p ((i * f + n) * f ^ l) = loN f l (i * f + n) := by show _ = (i * f + n) * f ^ l; omega
            rw [e1]
            exact k
        have k := key _ (Nat.le_refl _)
        rw [ch_end hf h] at k
        exact k
theorem covL_cov {f p b e : Nat} (hf : 2 ≤ f) (hb : b ≤ e) (he : e ≤ p) : Cov f p b e (covL f p b e) := by
  unfold covL
  split
  · rename_i q; exact q
  · have k := wthn_cov hf hb he (ht f p) 0 (top_on hf (by omega))
    have h1 := ht_top (p := p) hf
    have e1 : loN f (ht f p) 0 = 0 := by unfold loN; omega
    have e2 : hiN f p (ht f p) 0 = p := by unfold hiN; rw [Nat.zero_add, Nat.one_mul]; omega
    rw [e1, e2, show min (max 0 b) e = b by omega, show min (max p b) e = e by omega] at k
    exact k
theorem look_first {f p : Nat} {r : Nat → Int} {n : Int} (hf : 2 ≤ f) : ∀ {xs : List (Nat × Nat)} {a e : Nat}, Cov f p a e xs → ∀ x, (lookT (PT (bt f p r) n) xs).getLast? = some x →
    OnT f p x.1 x.2 ∧ (PT (bt f p r) n x = true → ∀ c, FirstIn r n (loN f x.1 x.2) (hiN f p x.1 x.2) c → FirstIn r n a e c) ∧ (PT (bt f p r) n x = false → NoneIn r n a e)
  | [], a, e, h, x, hx => by cases hx
  | y :: ys, a, e, h, x, hx => by
    have hle := Cov.le hf h.2.2
    have hlt := lo_lt_hi hf h.1
    have ha := h.2.1
    rw [lookT] at hx
    by_cases q : PT (bt f p r) n y = true
    · rw [if_pos q, List.getLast?_singleton] at hx
      cases hx
      refine ⟨h.1, fun _ c k => ⟨by have := k.1; omega, by have := k.2.1; omega, k.2.2.1, fun d h1 h2 => k.2.2.2 d (by omega) h2⟩, fun z => by rw [q] at z; cases z⟩
    · rw [if_neg q] at hx
      have hno : ∀ d, loN f y.1 y.2 ≤ d → d < hiN f p y.1 y.2 → r d < n := fun d h1 h2 => by
        have h3 : ¬ n ≤ bt f p r y.1 y.2 := fun z => q (by unfold PT; simpa using z)
        have := bt_le (r := r) hf _ _ d h1 h2
        omega
      cases ys with
      | nil =>
        cases hx
        refine ⟨h.1, fun z => absurd z q, fun _ d h1 h2 => hno d (by omega) ?_⟩
        have h4 : hiN f p y.1 y.2 = e := h.2.2
        omega
      | cons z zs =>
        have hne := lookT_ne (P := PT (bt f p r) n) (xs := z :: zs) (by simp)
        have hx2 : (lookT (PT (bt f p r) n) (z :: zs)).getLast? = some x := by
          cases hq : lookT (PT (bt f p r) n) (z :: zs) with
          | nil => exact absurd hq hne
          | cons u us => rw [hq] at hx; simpa using hx
        obtain ⟨k1, k2, k3⟩ := look_first hf h.2.2 x hx2
        refine ⟨k1, fun hP c hc => ?_, fun hP d h1 h2 => ?_⟩
        · have k := k2 hP c hc
          refine ⟨by have := k.1; omega, k.2.1, k.2.2.1, fun d h1 h2 => ?_⟩
          by_cases z : d < hiN f p y.1 y.2
          · exact hno d (by omega) z
          · exact k.2.2.2 d (by omega) h2
        · by_cases z : d < hiN f p y.1 y.2
          · exact hno d (by omega) z
          · exact k3 hP d (by omega) h2
theorem down_first {f p : Nat} {r : Nat → Int} {n : Int} (hf : 2 ≤ f) : ∀ l i, OnT f p l i → PT (bt f p r) n (l, i) = true →
    ∃ c, ((l, i) :: downL f p (PT (bt f p r) n) l i).getLast? = some (0, c) ∧ FirstIn r n (loN f l i) (hiN f p l i) c
  | 0, i, h, hP => by
    have hi := h.2
    rw [cnt_zero] at hi
    have : n ≤ r i := of_decide_eq_true hP
    exact ⟨i, rfl, by simp [loN], by simp [hiN]; omega, this, fun d h1 h2 => by simp [loN] at h1; omega⟩
  | l + 1, i, h, hP => by
    have hne := lookT_ne (P := PT (bt f p r) n) (chL_ne hf h)
    cases hx : (lookT (PT (bt f p r) n) (chL f p (l + 1) i)).getLast? with
    | none => exact absurd (List.getLast?_eq_none_iff.mp hx) hne
    | some x =>
      obtain ⟨k1, k2, k3⟩ := look_first hf (ch_cov hf h) x hx
      have hxl := (chL_on hf h x (lookT_sub x (List.mem_of_getLast? hx))).1
      by_cases q : PT (bt f p r) n x = true
      · obtain ⟨l', i'⟩ := x
        simp only at hxl
        subst hxl
        obtain ⟨c, e, F⟩ := down_first hf l' i' k1 q
        refine ⟨c, ?_, k2 q c F⟩
        rw [downL, hx]
        simp only [q, if_true]
        cases hd : downL f p (PT (bt f p r) n) l' i' with
        | nil =>
          rw [hd] at e
          rw [List.append_nil, List.getLast?_cons, hx]
          simpa using e
        | cons u us =>
          rw [hd] at e
          rw [List.getLast?_cons, List.getLast?_append]
          rw [List.getLast?_cons_cons] at e
          rw [e]; rfl
      · have := k3 (by simpa using q)
        have hg : n ≤ bt f p r (l + 1) i := by unfold PT at hP; simpa using hP
        obtain ⟨a, h1, h2, h3⟩ := (bt_ge hf h).mp hg
        have := this a h1 h2
        omega
/-- what an exact tree is asked: the first page from b on that is enough -/
theorem fur_cov {f p b : Nat} {r : Nat → Int} {n : Int} (hf : 2 ≤ f) (hb : b < p) (hc : Cov f p b p (covL f p b p)) : match furR f p (PT (bt f p r) n) b with
    | none => NoneIn r n b p
    | some c => FirstIn r n b p c := by
  have hne := lookT_ne (P := PT (bt f p r) n) (covL_ne hf hb)
  unfold furR walkL
  cases hx : (lookT (PT (bt f p r) n) (covL f p b p)).getLast? with
  | none => exact absurd (List.getLast?_eq_none_iff.mp hx) hne
  | some x =>
    obtain ⟨k1, k2, k3⟩ := look_first hf hc x hx
    simp only [List.getLast?_append, contL]
    by_cases q : PT (bt f p r) n x = true
    · obtain ⟨c, e, F⟩ := down_first hf x.1 x.2 k1 q
      rw [if_pos q]
      have hlast : ((downL f p (PT (bt f p r) n) x.1 x.2).getLast?.or (lookT (PT (bt f p r) n) (covL f p b p)).getLast?) = some (0, c) := by
        rw [hx]
        cases hd : downL f p (PT (bt f p r) n) x.1 x.2 with
        | nil => rw [hd, List.getLast?_singleton] at e; exact e
        | cons u us =>
          rw [hd, List.getLast?_cons_cons] at e
          rw [e]; rfl
      rw [hlast]
      have hP0 : PT (bt f p r) n (0, c) = true := by
        exact decide_eq_true F.2.2.1
      simp only [hP0, if_true]
      exact k2 q c F
    · rw [if_neg q]
      have q : PT (bt f p r) n x = false := by simpa using q
      simp only [List.getLast?_nil, Option.none_or, hx, q]
      exact k3 q
theorem fur_first {f p b : Nat} {r : Nat → Int} {n : Int} (hf : 2 ≤ f) (hb : b < p) : match furR f p (PT (bt f p r) n) b with
    | none => NoneIn r n b p
    | some c => FirstIn r n b p c := fur_cov hf hb (covL_cov hf (by omega) (Nat.le_refl p))
end DD

set_option Elab.async false
set_option linter.all false
set_option maxRecDepth 100000
set_option maxHeartbeats 4000000
/-! DB: the laws' own bag -/
namespace DD
open PySem PySem.Spec PyProof.Rows L2

theorem seq_of {a b : DS} {de : DEnds} {ρ : Rho} (P : Rho → Prop) (h2 : ∀ ρ1, P ρ1 → b de ρ1) (h1 : ∀ nx : Rho → Prop, (∀ ρ1, P ρ1 → nx ρ1) → a { nx := nx, rt := de.rt, bk := de.bk, ct := de.ct } ρ) : sSeq a b de ρ := h1 _ h2
abbrev dB (a m t : Nat) (ns : List Nat) : D := .list [.int (a : Int), .int (m : Int), .int (t : Int), .list (ns.map fun (n : Nat) => PyData.int (n : Int))]
def BagOk (k : Nat) (d : D) : Prop := ∃ (a m t : Nat) (ns : List Nat), d = dB a m t ns ∧ ns.length ≤ 63 ∧ m < 2 ^ 40 ∧ t + k ≤ 2 ^ 40
theorem BagOk.mono {k j : Nat} {d : D} (h : BagOk k d) (l : j ≤ k) : BagOk j d := by
  obtain ⟨a, m, t, ns, h1, h2, h3, h4⟩ := h
  exact ⟨a, m, t, ns, h1, h2, h3, by omega⟩

def sp_law_bag (ns : List Int) (ds : List D) (Q : D → Prop) : Prop := ds = [] ∧ ∀ d, BagOk (2 ^ 39) d → Q d
def w_law_bag : DS := (sRetL (eLst (aCons (eC (.int 0)) (aCons (eC (.int 1234567891)) (aCons (eC (.int 0)) (aCons (eLc [1] (iLst (eSlSc 0 pNone (pSome (eC (.int 63))))) (gSet 1) tYesD (eN fAbs (aCons (eVar 1) aNil))) aNil))))))
theorem cutD_take {α : Type} {xs : List α} {n : Nat} : cutD xs none (some (n : Int)) = xs.take n := by
  unfold cutD
  rw [HT.sIx_none, HT.sIx_nat, List.drop_zero, Nat.sub_zero]
  by_cases h : n ≤ xs.length
  · rw [Nat.min_eq_left h]
  · rw [Nat.min_eq_right (by omega), List.take_length, List.take_of_length_le (by omega)]
theorem m_law_bag : ∀ (ns : List Int) ds Q, ds.length = 0 → sp_law_bag ns ds Q → w_law_bag (endsP true Q) (rho0 (.list (ns.map .int) :: ds) 1) := by
  rintro ns ds Q - ⟨rfl, q⟩
  simp only [w_law_bag, eSlSc, eSlSc0, sSeq, sIf, sSet, sSetL, sAsg, sRet, sRetV, sRetL, sRetN, sNx, sBk, sCt, sApp, sExt, sExpr, sFor, sPar, sParL, sPut, gSet, gNilD, gConsD, gTupD, tBool, tNotD, tAndD, tOrD, tYesD, e1, e2, eN, eC, eVar, eIxO, aNil, aCons, eTup, eLst, eFlat, eIf, eChain, eAnd, eOr, eNot, eSl, pNone, pSome, eCall, eCallI, eCallS, iLst, iRg1, iRg2, iRg3, iZipD, iEnumD, sPut2, sSet2, eLc, wipeR, restR, fAdd_i, fAdd_l, fSub_i, fMul_i, fMul_l, fRep_l, fDiv_i, fMod_i, fPow_i, fNeg_i, fCmp_i, fLt, fLe, fGt, fGe, fLen_l, fLen_t, fInt_i, fInt_b, fAbs_i, fMax_i, fMax_l, fMin_i, fSum_l, fList_l, fList_t, fRev_l, fSl_l, fIx_l, fIx_t, fIs_n, fIsNot_n, fIs_b, fIsNot_b, isNone_n, isNone_i, isNone_l, isNone_t, isT_tt, isT_ii, isT_bi, isT_ll, fIsT, fEq, fNe, eqOk_i, eqOk_s, eqOk_l, eqOk_t, eqOk_n, eqv_nil, eqv_int, List.isEmpty_nil, List.isEmpty_cons, eq_self, atI_0, atI_1, atI_2, atI_3, atI_last, exists_eq', Int.cast_ofNat_Int, tab_len, endsP, endsI, rho0, List.set_cons_zero, List.set_cons_succ, List.getElem?_cons_zero, List.getElem?_cons_succ, Option.some.injEq, List.cons.injEq, exists_eq_left', exists_eq, and_assoc, exists_and_left, true_and, and_true, id_eq, List.map_cons, List.map_nil, List.replicate_succ, List.replicate_zero, List.cons_append, List.nil_append, List.length_cons, List.length_nil, PyData.bool.injEq, PyData.int.injEq, PyData.list.injEq, PyData.tuple.injEq, Bool.not_true, Bool.not_false, Bool.false_eq_true, if_true, if_false, ite_true, ite_false, decide_eq_true_eq, Nat.zero_add, Nat.zero_le, Nat.reduceAdd, Nat.reduceSub, Option.join, Option.bind_some, List.getElem?_nil]
  refine ⟨ns, rfl, ?_⟩
  have e : cutD ns none (some (63 : Int)) = ns.take 63 := cutD_take (n := 63)
  rw [e]
  refine lcGo_onm (ns.take 63) _ (fun i => .int (i.natAbs : Int)) [] (by simp; exact Nat.le_trans (Nat.min_le_left _ _) (by decide)) ?_ ?_
  · intro j hj K Fl hK
    simp only [sSeq, sIf, sSet, sSetL, sAsg, sRet, sRetV, sRetL, sRetN, sNx, sBk, sCt, sApp, sExt, sExpr, sFor, sPar, sParL, sPut, gSet, gNilD, gConsD, gTupD, tBool, tNotD, tAndD, tOrD, tYesD, e1, e2, eN, eC, eVar, eIxO, aNil, aCons, eTup, eLst, eFlat, eIf, eChain, eAnd, eOr, eNot, eSl, pNone, pSome, eCall, eCallI, eCallS, iLst, iRg1, iRg2, iRg3, iZipD, iEnumD, sPut2, sSet2, eLc, wipeR, restR, fAdd_i, fAdd_l, fSub_i, fMul_i, fMul_l, fRep_l, fDiv_i, fMod_i, fPow_i, fNeg_i, fCmp_i, fLt, fLe, fGt, fGe, fLen_l, fLen_t, fInt_i, fInt_b, fAbs_i, fMax_i, fMax_l, fMin_i, fSum_l, fList_l, fList_t, fRev_l, fSl_l, fIx_l, fIx_t, fIs_n, fIsNot_n, fIs_b, fIsNot_b, isNone_n, isNone_i, isNone_l, isNone_t, isT_tt, isT_ii, isT_bi, isT_ll, fIsT, fEq, fNe, eqOk_i, eqOk_s, eqOk_l, eqOk_t, eqOk_n, eqv_nil, eqv_int, List.isEmpty_nil, List.isEmpty_cons, eq_self, atI_0, atI_1, atI_2, atI_3, atI_last, exists_eq', Int.cast_ofNat_Int, tab_len, endsP, endsI, rho0, List.set_cons_zero, List.set_cons_succ, List.getElem?_cons_zero, List.getElem?_cons_succ, Option.some.injEq, List.cons.injEq, exists_eq_left', exists_eq, and_assoc, exists_and_left, true_and, and_true, id_eq, List.map_cons, List.map_nil, List.replicate_succ, List.replicate_zero, List.cons_append, List.nil_append, List.length_cons, List.length_nil, PyData.bool.injEq, PyData.int.injEq, PyData.list.injEq, PyData.tuple.injEq, Bool.not_true, Bool.not_false, Bool.false_eq_true, if_true, if_false, ite_true, ite_false, decide_eq_true_eq, Nat.zero_add, Nat.zero_le, Nat.reduceAdd, Nat.reduceSub, Option.join, Option.bind_some, List.getElem?_nil]
    exact hK _ rfl
  · simp only [sSeq, sIf, sSet, sSetL, sAsg, sRet, sRetV, sRetL, sRetN, sNx, sBk, sCt, sApp, sExt, sExpr, sFor, sPar, sParL, sPut, gSet, gNilD, gConsD, gTupD, tBool, tNotD, tAndD, tOrD, tYesD, e1, e2, eN, eC, eVar, eIxO, aNil, aCons, eTup, eLst, eFlat, eIf, eChain, eAnd, eOr, eNot, eSl, pNone, pSome, eCall, eCallI, eCallS, iLst, iRg1, iRg2, iRg3, iZipD, iEnumD, sPut2, sSet2, eLc, wipeR, restR, fAdd_i, fAdd_l, fSub_i, fMul_i, fMul_l, fRep_l, fDiv_i, fMod_i, fPow_i, fNeg_i, fCmp_i, fLt, fLe, fGt, fGe, fLen_l, fLen_t, fInt_i, fInt_b, fAbs_i, fMax_i, fMax_l, fMin_i, fSum_l, fList_l, fList_t, fRev_l, fSl_l, fIx_l, fIx_t, fIs_n, fIsNot_n, fIs_b, fIsNot_b, isNone_n, isNone_i, isNone_l, isNone_t, isT_tt, isT_ii, isT_bi, isT_ll, fIsT, fEq, fNe, eqOk_i, eqOk_s, eqOk_l, eqOk_t, eqOk_n, eqv_nil, eqv_int, List.isEmpty_nil, List.isEmpty_cons, eq_self, atI_0, atI_1, atI_2, atI_3, atI_last, exists_eq', Int.cast_ofNat_Int, tab_len, endsP, endsI, rho0, List.set_cons_zero, List.set_cons_succ, List.getElem?_cons_zero, List.getElem?_cons_succ, Option.some.injEq, List.cons.injEq, exists_eq_left', exists_eq, and_assoc, exists_and_left, true_and, and_true, id_eq, List.map_cons, List.map_nil, List.replicate_succ, List.replicate_zero, List.cons_append, List.nil_append, List.length_cons, List.length_nil, PyData.bool.injEq, PyData.int.injEq, PyData.list.injEq, PyData.tuple.injEq, Bool.not_true, Bool.not_false, Bool.false_eq_true, if_true, if_false, ite_true, ite_false, decide_eq_true_eq, Nat.zero_add, Nat.zero_le, Nat.reduceAdd, Nat.reduceSub, Option.join, Option.bind_some, List.getElem?_nil]
    refine ⟨by decide, q _ ⟨0, 1234567891, 0, (ns.take 63).map Int.natAbs, ?_, ?_, by decide, by decide⟩⟩
    · rw [dB, List.map_map]; rfl
    · rw [List.length_map, List.length_take]; omega

def sp_law_take (d : D) (ds : List D) (Q : D → D → Prop) : Prop := ∃ k many : Nat, BagOk (k + 1) d ∧ 0 < many ∧ many ≤ 2 ^ 100 ∧ ds = [.int (many : Int)] ∧ ∀ (r : Nat) d', r < many → BagOk k d' → Q (.int (r : Int)) d'
def w_law_take : DS := (sSeq (sIf (tBool (e2 fEq (eIxO 0 (eC (.int 0))) (eC (.int 0)))) (sSeq (sSet 4 (e2 fIx (e2 fAdd (eSl (eIxO 0 (eC (.int 3))) (pSome (eIxO 0 (eC (.int 2)))) pNone) (eLst (aCons (eC (.int 0)) aNil))) (eC (.int 0)))) (sSeq (sAugPut 0 fAugAdd (eC (.int 2)) (eC (.int 1))) (sSeq (sIf (tBool (e2 fGe (eVar 4) (e2 fPow (eC (.int 10)) (eC (.int 18))))) (sPut 0 (eVar 4) (eC (.int 0))) sNx) (sSeq (sSet 5 (e2 fAdd (e2 fAdd (e2 fMul (eIxO 0 (eC (.int 1))) (eC (.int 48271))) (e2 fMod (eN fInt (aCons (eVar 4) aNil)) (eC (.int 2147483647)))) (e2 fMul (eC (.int 7919)) (eIxO 0 (eC (.int 2)))))) (sPut 0 (e2 fMod (eN fInt (aCons (eVar 5) aNil)) (eC (.int 2147483647))) (eC (.int 1))))))) sNx) (sSeq (sIf (tBool (e2 fGt (eIxO 0 (eC (.int 0))) (eC (.int 0)))) (sSeq (sSet 6 (e2 fMod (eN fInt (aCons (eIxO 0 (eC (.int 0))) aNil)) (eVar 1))) (sSeq (sPut 0 (e2 fDiv (eN fInt (aCons (eIxO 0 (eC (.int 0))) aNil)) (eVar 1)) (eC (.int 0))) (sRet (eVar 6)))) sNx) (sSeq (sSet 2 (e2 fMod (eN fInt (aCons (e2 fMul (e2 fAdd (eIxO 0 (eC (.int 1))) (eC (.int 1))) (eC (.int 39373))) aNil)) (eC (.int 1000000007)))) (sSeq (sSet 3 (e2 fMod (eN fInt (aCons (e2 fMul (e2 fMod (eN fInt (aCons (e2 fMul (eVar 2) (eVar 2)) aNil)) (eC (.int 998244353))) (eC (.int 30011))) aNil)) (eC (.int 998244353)))) (sRet (e2 fMod (eN fInt (aCons (e2 fDiv (eVar 3) (eC (.int 7))) aNil)) (eVar 1)))))))
theorem cutD_drop {α : Type} {xs : List α} {n : Nat} : cutD xs (some (n : Int)) none = xs.drop n := by
  unfold cutD
  rw [HT.sIx_none, HT.sIx_nat]
  by_cases h : n ≤ xs.length
  · rw [Nat.min_eq_left h, List.take_of_length_le (by rw [List.length_drop]; omega)]
  · rw [Nat.min_eq_right (by omega), List.drop_eq_nil_of_le (Nat.le_refl _), List.drop_eq_nil_of_le (by omega)]; simp
theorem atI_nn {α : Type} {xs : List α} {i : Int} (h : 0 ≤ i) : atI xs i = xs[i.toNat]? := by
  obtain ⟨n, rfl⟩ := Int.eq_ofNat_of_zero_le h
  unfold atI ixN
  rw [if_pos (by omega)]
  by_cases q : n < xs.length
  · rw [if_pos (by omega)]; rfl
  · rw [if_neg (by omega)]
    simp
    omega
theorem ixN_0 {n : Nat} (h : 0 < n) : ixN n 0 = some 0 := ixN_nat h
theorem ixN_1 {n : Nat} (h : 1 < n) : ixN n 1 = some 1 := ixN_nat h
theorem ixN_2 {n : Nat} (h : 2 < n) : ixN n 2 = some 2 := ixN_nat h
theorem fAugAdd_i {i j : Int} {Q : D → Prop} : fAugAdd (.int i) (.int j) Q = Q (.int (i + j)) := propext ⟨fun ⟨_, _, h1, h2, q⟩ => by cases h1; cases h2; exact q, fun q => ⟨_, _, rfl, rfl, q⟩⟩
theorem ix42 : ixN 4 2 = some 2 := rfl
theorem ix41 : ixN 4 1 = some 1 := rfl
theorem ix40 : ixN 4 0 = some 0 := rfl
theorem m_law_take : ∀ d ds Q, ds.length = 1 → sp_law_take d ds Q → w_law_take (endsI Q) (rho0 (d :: ds) 5) := by
  rintro d ds Q - ⟨k, many, ⟨a, m, t, ns, rfl, hl, hm, ht⟩, h0, hb, rfl, q⟩
  unfold w_law_take
  refine seq_of (fun ρ => ∃ d x y, BagOk k d ∧ ρ = [some d, some (.int (many : Int)), none, none, x, y, none]) ?_ ?_
  · rintro ρ ⟨d, x, y, ⟨a, m, t, ns, rfl, hl, hm, ht⟩, rfl⟩
    simp only [sAugPut, sPut, sSeq, sIf, sSet, sSetL, sAsg, sRet, sRetV, sRetL, sRetN, sNx, sBk, sCt, sApp, sExt, sExpr, sFor, sPar, sParL, sPut, gSet, gNilD, gConsD, gTupD, tBool, tNotD, tAndD, tOrD, tYesD, e1, e2, eN, eC, eVar, eIxO, aNil, aCons, eTup, eLst, eFlat, eIf, eChain, eAnd, eOr, eNot, eSl, pNone, pSome, eCall, eCallI, eCallS, iLst, iRg1, iRg2, iRg3, iZipD, iEnumD, sPut2, sSet2, eLc, wipeR, restR, fAdd_i, fAdd_l, fSub_i, fMul_i, fMul_l, fRep_l, fDiv_i, fMod_i, fPow_i, fNeg_i, fCmp_i, fLt, fLe, fGt, fGe, fLen_l, fLen_t, fInt_i, fInt_b, fAbs_i, fMax_i, fMax_l, fMin_i, fSum_l, fList_l, fList_t, fRev_l, fSl_l, fIx_l, fIx_t, fIs_n, fIsNot_n, fIs_b, fIsNot_b, isNone_n, isNone_i, isNone_l, isNone_t, isT_tt, isT_ii, isT_bi, isT_ll, fIsT, fEq, fNe, eqOk_i, eqOk_s, eqOk_l, eqOk_t, eqOk_n, eqv_nil, eqv_int, List.isEmpty_nil, List.isEmpty_cons, eq_self, atI_0, atI_1, atI_2, atI_3, atI_last, exists_eq', Int.cast_ofNat_Int, tab_len, endsP, endsI, rho0, List.set_cons_zero, List.set_cons_succ, List.getElem?_cons_zero, List.getElem?_cons_succ, Option.some.injEq, List.cons.injEq, exists_eq_left', exists_eq, and_assoc, exists_and_left, true_and, and_true, id_eq, List.map_cons, List.map_nil, List.replicate_succ, List.replicate_zero, List.cons_append, List.nil_append, List.length_cons, List.length_nil, PyData.bool.injEq, PyData.int.injEq, PyData.list.injEq, PyData.tuple.injEq, Bool.not_true, Bool.not_false, Bool.false_eq_true, if_true, if_false, ite_true, ite_false, decide_eq_true_eq, Nat.zero_add, Nat.zero_le, Nat.reduceAdd, Nat.reduceSub, Option.join, Option.bind_some, List.getElem?_nil]
    by_cases c : 0 < a
    · rw [if_pos (by omega)]
      refine ⟨by omega, divW (by omega) (by omega), 0, rfl, ?_⟩
      have h := q (a % many) (dB (a / many) m t ns) (Nat.mod_lt _ h0) ⟨_, _, _, _, rfl, hl, hm, ht⟩
      rw [Int.natCast_emod] at h
      rw [dB, Int.natCast_ediv] at h
      exact h
    · rw [if_neg (by omega)]
      refine ⟨mulW (by omega) (by decide), by omega, ?_⟩
      have e1 : ((m : Int) + 1) * 39373 % 1000000007 = (((m + 1) * 39373 % 1000000007 : Nat) : Int) := by omega
      have l1 : (m + 1) * 39373 % 1000000007 < 1000000007 := Nat.mod_lt _ (by decide)
      rw [e1]
      generalize (m + 1) * 39373 % 1000000007 = x1 at l1
      refine ⟨mulW (by omega) (by omega), by omega, ?_⟩
      have e2 : (x1 : Int) * (x1 : Int) % 998244353 = ((x1 * x1 % 998244353 : Nat) : Int) := by rw [← Int.natCast_mul]; omega
      have l2 : x1 * x1 % 998244353 < 998244353 := Nat.mod_lt _ (by decide)
      rw [e2]
      generalize x1 * x1 % 998244353 = x2 at l2
      refine ⟨mulW (by omega) (by decide), by omega, divW (by omega) (by decide), by omega, ?_⟩
      have e3 : (x2 : Int) * 30011 % 998244353 / 7 % (many : Int) = ((x2 * 30011 % 998244353 / 7 % many : Nat) : Int) := by
        rw [Int.natCast_emod]; congr 1
      rw [e3]
      exact q _ _ (Nat.mod_lt _ h0) ⟨_, _, _, _, rfl, hl, hm, ht⟩
  · intro nx hnx
    simp only [sAugPut, sPut, sSeq, sIf, sSet, sSetL, sAsg, sRet, sRetV, sRetL, sRetN, sNx, sBk, sCt, sApp, sExt, sExpr, sFor, sPar, sParL, sPut, gSet, gNilD, gConsD, gTupD, tBool, tNotD, tAndD, tOrD, tYesD, e1, e2, eN, eC, eVar, eIxO, aNil, aCons, eTup, eLst, eFlat, eIf, eChain, eAnd, eOr, eNot, eSl, pNone, pSome, eCall, eCallI, eCallS, iLst, iRg1, iRg2, iRg3, iZipD, iEnumD, sPut2, sSet2, eLc, wipeR, restR, fAdd_i, fAdd_l, fSub_i, fMul_i, fMul_l, fRep_l, fDiv_i, fMod_i, fPow_i, fNeg_i, fCmp_i, fLt, fLe, fGt, fGe, fLen_l, fLen_t, fInt_i, fInt_b, fAbs_i, fMax_i, fMax_l, fMin_i, fSum_l, fList_l, fList_t, fRev_l, fSl_l, fIx_l, fIx_t, fIs_n, fIsNot_n, fIs_b, fIsNot_b, isNone_n, isNone_i, isNone_l, isNone_t, isT_tt, isT_ii, isT_bi, isT_ll, fIsT, fEq, fNe, eqOk_i, eqOk_s, eqOk_l, eqOk_t, eqOk_n, eqv_nil, eqv_int, List.isEmpty_nil, List.isEmpty_cons, eq_self, atI_0, atI_1, atI_2, atI_3, atI_last, exists_eq', Int.cast_ofNat_Int, tab_len, endsP, endsI, rho0, List.set_cons_zero, List.set_cons_succ, List.getElem?_cons_zero, List.getElem?_cons_succ, Option.some.injEq, List.cons.injEq, exists_eq_left', exists_eq, and_assoc, exists_and_left, true_and, and_true, id_eq, List.map_cons, List.map_nil, List.replicate_succ, List.replicate_zero, List.cons_append, List.nil_append, List.length_cons, List.length_nil, PyData.bool.injEq, PyData.int.injEq, PyData.list.injEq, PyData.tuple.injEq, Bool.not_true, Bool.not_false, Bool.false_eq_true, if_true, if_false, ite_true, ite_false, decide_eq_true_eq, Nat.zero_add, Nat.zero_le, Nat.reduceAdd, Nat.reduceSub, Option.join, Option.bind_some, List.getElem?_nil]
    by_cases c : a = 0
    · rw [if_pos (by omega)]
      have hcell : ∃ cell : Nat, atI (cutD (ns.map fun (n : Nat) => PyData.int (n : Int)) (some (t : Int)) none ++ [PyData.int 0]) 0 = some (.int (cell : Int)) := by
        rw [cutD_drop, ← List.map_drop]
        cases ns.drop t with
        | nil => exact ⟨0, rfl⟩
        | cons c cs => exact ⟨c, atI_0⟩
      obtain ⟨cell, hcell⟩ := hcell
      simp only [hcell, fAugAdd_i, ix42, ix41, ix40, sSeq, sIf, sSet, sSetL, sAsg, sRet, sRetV, sRetL, sRetN, sNx, sBk, sCt, sApp, sExt, sExpr, sFor, sPar, sParL, sPut, gSet, gNilD, gConsD, gTupD, tBool, tNotD, tAndD, tOrD, tYesD, e1, e2, eN, eC, eVar, eIxO, aNil, aCons, eTup, eLst, eFlat, eIf, eChain, eAnd, eOr, eNot, eSl, pNone, pSome, eCall, eCallI, eCallS, iLst, iRg1, iRg2, iRg3, iZipD, iEnumD, sPut2, sSet2, eLc, wipeR, restR, fAdd_i, fAdd_l, fSub_i, fMul_i, fMul_l, fRep_l, fDiv_i, fMod_i, fPow_i, fNeg_i, fCmp_i, fLt, fLe, fGt, fGe, fLen_l, fLen_t, fInt_i, fInt_b, fAbs_i, fMax_i, fMax_l, fMin_i, fSum_l, fList_l, fList_t, fRev_l, fSl_l, fIx_l, fIx_t, fIs_n, fIsNot_n, fIs_b, fIsNot_b, isNone_n, isNone_i, isNone_l, isNone_t, isT_tt, isT_ii, isT_bi, isT_ll, fIsT, fEq, fNe, eqOk_i, eqOk_s, eqOk_l, eqOk_t, eqOk_n, eqv_nil, eqv_int, List.isEmpty_nil, List.isEmpty_cons, eq_self, atI_0, atI_1, atI_2, atI_3, atI_last, exists_eq', Int.cast_ofNat_Int, tab_len, endsP, endsI, rho0, List.set_cons_zero, List.set_cons_succ, List.getElem?_cons_zero, List.getElem?_cons_succ, Option.some.injEq, List.cons.injEq, exists_eq_left', exists_eq, and_assoc, exists_and_left, true_and, and_true, id_eq, List.map_cons, List.map_nil, List.replicate_succ, List.replicate_zero, List.cons_append, List.nil_append, List.length_cons, List.length_nil, PyData.bool.injEq, PyData.int.injEq, PyData.list.injEq, PyData.tuple.injEq, Bool.not_true, Bool.not_false, Bool.false_eq_true, if_true, if_false, ite_true, ite_false, decide_eq_true_eq, Nat.zero_add, Nat.zero_le, Nat.reduceAdd, Nat.reduceSub, Option.join, Option.bind_some, List.getElem?_nil]
      have hst : ∀ x y : Int, ∃ w : Nat, (x + y) % 2147483647 = (w : Int) ∧ w < 2 ^ 40 := fun x y => ⟨((x + y) % 2147483647).toNat, by omega, by omega⟩
      refine ⟨by decide, by rw [cutD_drop, List.length_drop, List.length_map]; exact Nat.le_trans (show _ ≤ 64 by omega) (by decide), by decide, ⟨by decide, by decide, by decide⟩, ?_⟩
      obtain ⟨w, e1, e2⟩ := hst ((m : Int) * 48271 + (cell : Int) % 2147483647) (7919 * ((t : Int) + 1))
      have m1 : CMulW (m : Int) 48271 := mulW (by omega) (by decide)
      have m2 : CMulW 7919 ((t : Int) + 1) := mulW (by decide) (by omega)
      have ht1 : (t : Int) + 1 = ((t + 1 : Nat) : Int) := by omega
      split
      · refine ⟨m1, by decide, m2, by decide, ?_⟩
        rw [e1, ht1]
        exact hnx _ ⟨_, _, _, ⟨cell, w, t + 1, ns, rfl, hl, e2, by omega⟩, rfl⟩
      · refine ⟨m1, by decide, m2, by decide, ?_⟩
        rw [e1, ht1]
        exact hnx _ ⟨_, _, _, ⟨a, w, t + 1, ns, rfl, hl, e2, by omega⟩, rfl⟩
    · rw [if_neg (by omega)]
      exact hnx _ ⟨_, _, _, ⟨_, _, _, _, rfl, hl, hm, by omega⟩, rfl⟩

def sp_law_some (d : D) (ds : List D) (Q : D → D → Prop) : Prop := ∃ k xs, BagOk (k + 1) d ∧ xs ≠ [] ∧ xs.length ≤ 2 ^ 20 ∧ ds = [.list xs] ∧ ∀ x ∈ xs, ∀ d', BagOk k d' → Q x d'
def w_law_some : DS := (sRet (e2 fIx (eVar 1) (eCallI 0 1 sp_law_take (aCons (eN fLen (aCons (eVar 1) aNil)) aNil))))
theorem m_law_some : ∀ d ds Q, ds.length = 1 → sp_law_some d ds Q → w_law_some (endsI Q) (rho0 (d :: ds) 0) := by
  rintro d ds Q - ⟨k, xs, hB, hne, hl, rfl, q⟩
  simp only [w_law_some, sSeq, sIf, sSet, sSetL, sAsg, sRet, sRetV, sRetL, sRetN, sNx, sBk, sCt, sApp, sExt, sExpr, sFor, sPar, sParL, sPut, gSet, gNilD, gConsD, gTupD, tBool, tNotD, tAndD, tOrD, tYesD, e1, e2, eN, eC, eVar, eIxO, aNil, aCons, eTup, eLst, eFlat, eIf, eChain, eAnd, eOr, eNot, eSl, pNone, pSome, eCall, eCallI, eCallS, iLst, iRg1, iRg2, iRg3, iZipD, iEnumD, sPut2, sSet2, eLc, wipeR, restR, fAdd_i, fAdd_l, fSub_i, fMul_i, fMul_l, fRep_l, fDiv_i, fMod_i, fPow_i, fNeg_i, fCmp_i, fLt, fLe, fGt, fGe, fLen_l, fLen_t, fInt_i, fInt_b, fAbs_i, fMax_i, fMax_l, fMin_i, fSum_l, fList_l, fList_t, fRev_l, fSl_l, fIx_l, fIx_t, fIs_n, fIsNot_n, fIs_b, fIsNot_b, isNone_n, isNone_i, isNone_l, isNone_t, isT_tt, isT_ii, isT_bi, isT_ll, fIsT, fEq, fNe, eqOk_i, eqOk_s, eqOk_l, eqOk_t, eqOk_n, eqv_nil, eqv_int, List.isEmpty_nil, List.isEmpty_cons, eq_self, atI_0, atI_1, atI_2, atI_3, atI_last, exists_eq', Int.cast_ofNat_Int, tab_len, endsP, endsI, rho0, List.set_cons_zero, List.set_cons_succ, List.getElem?_cons_zero, List.getElem?_cons_succ, Option.some.injEq, List.cons.injEq, exists_eq_left', exists_eq, and_assoc, exists_and_left, true_and, and_true, id_eq, List.map_cons, List.map_nil, List.replicate_succ, List.replicate_zero, List.cons_append, List.nil_append, List.length_cons, List.length_nil, PyData.bool.injEq, PyData.int.injEq, PyData.list.injEq, PyData.tuple.injEq, Bool.not_true, Bool.not_false, Bool.false_eq_true, if_true, if_false, ite_true, ite_false, decide_eq_true_eq, Nat.zero_add, Nat.zero_le, Nat.reduceAdd, Nat.reduceSub, Option.join, Option.bind_some, List.getElem?_nil]
  have hpos := List.length_pos_iff.mpr hne
  refine ⟨k, xs.length, hB, hpos, Nat.le_trans hl (by decide), rfl, ?_⟩
  intro r d' hr hB'
  have e : atI xs (r : Int) = some xs[r] := atI_nat (List.getElem?_eq_getElem hr)
  simp only [e, sSeq, sIf, sSet, sSetL, sAsg, sRet, sRetV, sRetL, sRetN, sNx, sBk, sCt, sApp, sExt, sExpr, sFor, sPar, sParL, sPut, gSet, gNilD, gConsD, gTupD, tBool, tNotD, tAndD, tOrD, tYesD, e1, e2, eN, eC, eVar, eIxO, aNil, aCons, eTup, eLst, eFlat, eIf, eChain, eAnd, eOr, eNot, eSl, pNone, pSome, eCall, eCallI, eCallS, iLst, iRg1, iRg2, iRg3, iZipD, iEnumD, sPut2, sSet2, eLc, wipeR, restR, fAdd_i, fAdd_l, fSub_i, fMul_i, fMul_l, fRep_l, fDiv_i, fMod_i, fPow_i, fNeg_i, fCmp_i, fLt, fLe, fGt, fGe, fLen_l, fLen_t, fInt_i, fInt_b, fAbs_i, fMax_i, fMax_l, fMin_i, fSum_l, fList_l, fList_t, fRev_l, fSl_l, fIx_l, fIx_t, fIs_n, fIsNot_n, fIs_b, fIsNot_b, isNone_n, isNone_i, isNone_l, isNone_t, isT_tt, isT_ii, isT_bi, isT_ll, fIsT, fEq, fNe, eqOk_i, eqOk_s, eqOk_l, eqOk_t, eqOk_n, eqv_nil, eqv_int, List.isEmpty_nil, List.isEmpty_cons, eq_self, atI_0, atI_1, atI_2, atI_3, atI_last, exists_eq', Int.cast_ofNat_Int, tab_len, endsP, endsI, rho0, List.set_cons_zero, List.set_cons_succ, List.getElem?_cons_zero, List.getElem?_cons_succ, Option.some.injEq, List.cons.injEq, exists_eq_left', exists_eq, and_assoc, exists_and_left, true_and, and_true, id_eq, List.map_cons, List.map_nil, List.replicate_succ, List.replicate_zero, List.cons_append, List.nil_append, List.length_cons, List.length_nil, PyData.bool.injEq, PyData.int.injEq, PyData.list.injEq, PyData.tuple.injEq, Bool.not_true, Bool.not_false, Bool.false_eq_true, if_true, if_false, ite_true, ite_false, decide_eq_true_eq, Nat.zero_add, Nat.zero_le, Nat.reduceAdd, Nat.reduceSub, Option.join, Option.bind_some, List.getElem?_nil]
  exact q _ (List.getElem_mem hr) d' hB'

def sp_law_alike (ds : List D) (Q : D → Prop) : Prop := ∃ n d, n ≤ 64 ∧ gd n d = true ∧ sz d ≤ sizeLine ∧ ds = [d, d] ∧ Q (.bool true)
def w_law_alike : DS := (sRet (eAnd (e2 fEq (eVar 0) (eVar 1)) (e2 fEqS (eN fRepr (aCons (eVar 0) aNil)) (eN fRepr (aCons (eVar 1) aNil)))))
theorem fRepr_1 {d : D} {Q : D → Prop} : fRepr [d] Q = (shown1 d ∧ Q (.str d.shown)) := rfl
theorem fEqS_s {x y : Str} {Q : D → Prop} : fEqS (.str x) (.str y) Q = Q (.bool (decide (x = y))) := rfl
theorem m_law_alike : ∀ ds Q, ds.length = 2 → sp_law_alike ds Q → w_law_alike (endsP false Q) (rho0 ds 0) := by
  rintro ds Q - ⟨n, d, hn, hg, hs, rfl, q⟩
  have h1 := gd_shaped hn hg
  have h2 := gd_shown hn hg hs
  have h3 : PyData.eqv d d = true := (gd_eqv n n d d hg hg).mpr rfl
  simp only [w_law_alike, fRepr_1, fEqS_s, h3, sSeq, sIf, sSet, sSetL, sAsg, sRet, sRetV, sRetL, sRetN, sNx, sBk, sCt, sApp, sExt, sExpr, sFor, sPar, sParL, sPut, gSet, gNilD, gConsD, gTupD, tBool, tNotD, tAndD, tOrD, tYesD, e1, e2, eN, eC, eVar, eIxO, aNil, aCons, eTup, eLst, eFlat, eIf, eChain, eAnd, eOr, eNot, eSl, pNone, pSome, eCall, eCallI, eCallS, iLst, iRg1, iRg2, iRg3, iZipD, iEnumD, sPut2, sSet2, eLc, wipeR, restR, fAdd_i, fAdd_l, fSub_i, fMul_i, fMul_l, fRep_l, fDiv_i, fMod_i, fPow_i, fNeg_i, fCmp_i, fLt, fLe, fGt, fGe, fLen_l, fLen_t, fInt_i, fInt_b, fAbs_i, fMax_i, fMax_l, fMin_i, fSum_l, fList_l, fList_t, fRev_l, fSl_l, fIx_l, fIx_t, fIs_n, fIsNot_n, fIs_b, fIsNot_b, isNone_n, isNone_i, isNone_l, isNone_t, isT_tt, isT_ii, isT_bi, isT_ll, fIsT, fEq, fNe, eqOk_i, eqOk_s, eqOk_l, eqOk_t, eqOk_n, eqv_nil, eqv_int, List.isEmpty_nil, List.isEmpty_cons, eq_self, atI_0, atI_1, atI_2, atI_3, atI_last, exists_eq', Int.cast_ofNat_Int, tab_len, endsP, endsI, rho0, List.set_cons_zero, List.set_cons_succ, List.getElem?_cons_zero, List.getElem?_cons_succ, Option.some.injEq, List.cons.injEq, exists_eq_left', exists_eq, and_assoc, exists_and_left, true_and, and_true, id_eq, List.map_cons, List.map_nil, List.replicate_succ, List.replicate_zero, List.cons_append, List.nil_append, List.length_cons, List.length_nil, PyData.bool.injEq, PyData.int.injEq, PyData.list.injEq, PyData.tuple.injEq, Bool.not_true, Bool.not_false, Bool.false_eq_true, if_true, if_false, ite_true, ite_false, decide_eq_true_eq, Nat.zero_add, Nat.zero_le, Nat.reduceAdd, Nat.reduceSub, Option.join, Option.bind_some, List.getElem?_nil]
  refine ⟨eqOk_of h1 h1, h2, h2, ?_⟩
  simp only [decide_true]
  exact q

def sp_law_power (ds : List D) (Q : D → Prop) : Prop := ∃ b n : Nat, 0 < b ∧ b ^ n ≤ 2 ^ 100 ∧ b ≤ 2 ^ 100 ∧ n ≤ 2 ^ 20 ∧ ds = [.int (b : Int), .int (n : Int)] ∧ Q (.int ((b ^ n : Nat) : Int))
def w_law_power : DS := (sSeq (sSet 2 (eC (.int 1))) (sSeq (sFor (iRg1 (aCons (eVar 1) aNil)) (gSet 3) (sSet 2 (e2 fMul (eVar 2) (eVar 0)))) (sRet (eVar 2))))
theorem m_law_power : ∀ ds Q, ds.length = 2 → sp_law_power ds Q → w_law_power (endsP false Q) (rho0 ds 2) := by
  rintro ds Q - ⟨b, n, hb, hp, hb2, hn, rfl, q⟩
  simp only [w_law_power, sSeq, sIf, sSet, sSetL, sAsg, sRet, sRetV, sRetL, sRetN, sNx, sBk, sCt, sApp, sExt, sExpr, sFor, sPar, sParL, sPut, gSet, gNilD, gConsD, gTupD, tBool, tNotD, tAndD, tOrD, tYesD, e1, e2, eN, eC, eVar, eIxO, aNil, aCons, eTup, eLst, eFlat, eIf, eChain, eAnd, eOr, eNot, eSl, pNone, pSome, eCall, eCallI, eCallS, iLst, iRg1, iRg2, iRg3, iZipD, iEnumD, sPut2, sSet2, eLc, wipeR, restR, fAdd_i, fAdd_l, fSub_i, fMul_i, fMul_l, fRep_l, fDiv_i, fMod_i, fPow_i, fNeg_i, fCmp_i, fLt, fLe, fGt, fGe, fLen_l, fLen_t, fInt_i, fInt_b, fAbs_i, fMax_i, fMax_l, fMin_i, fSum_l, fList_l, fList_t, fRev_l, fSl_l, fIx_l, fIx_t, fIs_n, fIsNot_n, fIs_b, fIsNot_b, isNone_n, isNone_i, isNone_l, isNone_t, isT_tt, isT_ii, isT_bi, isT_ll, fIsT, fEq, fNe, eqOk_i, eqOk_s, eqOk_l, eqOk_t, eqOk_n, eqv_nil, eqv_int, List.isEmpty_nil, List.isEmpty_cons, eq_self, atI_0, atI_1, atI_2, atI_3, atI_last, exists_eq', Int.cast_ofNat_Int, tab_len, endsP, endsI, rho0, List.set_cons_zero, List.set_cons_succ, List.getElem?_cons_zero, List.getElem?_cons_succ, Option.some.injEq, List.cons.injEq, exists_eq_left', exists_eq, and_assoc, exists_and_left, true_and, and_true, id_eq, List.map_cons, List.map_nil, List.replicate_succ, List.replicate_zero, List.cons_append, List.nil_append, List.length_cons, List.length_nil, PyData.bool.injEq, PyData.int.injEq, PyData.list.injEq, PyData.tuple.injEq, Bool.not_true, Bool.not_false, Bool.false_eq_true, if_true, if_false, ite_true, ite_false, decide_eq_true_eq, Nat.zero_add, Nat.zero_le, Nat.reduceAdd, Nat.reduceSub, Option.join, Option.bind_some, List.getElem?_nil]
  refine ⟨by omega, by omega, ?_⟩
  rw [Int.toNat_natCast, rngD_tab]
  refine forGo_tab _ _ (fun j ρ => ∃ x, ρ = [some (.int (b : Int)), some (.int (n : Int)), some (.int ((b ^ j : Nat) : Int)), x]) ⟨none, rfl⟩ ?_ ?_
  · rintro ρ ⟨x, rfl⟩
    simp only [sSeq, sIf, sSet, sSetL, sAsg, sRet, sRetV, sRetL, sRetN, sNx, sBk, sCt, sApp, sExt, sExpr, sFor, sPar, sParL, sPut, gSet, gNilD, gConsD, gTupD, tBool, tNotD, tAndD, tOrD, tYesD, e1, e2, eN, eC, eVar, eIxO, aNil, aCons, eTup, eLst, eFlat, eIf, eChain, eAnd, eOr, eNot, eSl, pNone, pSome, eCall, eCallI, eCallS, iLst, iRg1, iRg2, iRg3, iZipD, iEnumD, sPut2, sSet2, eLc, wipeR, restR, fAdd_i, fAdd_l, fSub_i, fMul_i, fMul_l, fRep_l, fDiv_i, fMod_i, fPow_i, fNeg_i, fCmp_i, fLt, fLe, fGt, fGe, fLen_l, fLen_t, fInt_i, fInt_b, fAbs_i, fMax_i, fMax_l, fMin_i, fSum_l, fList_l, fList_t, fRev_l, fSl_l, fIx_l, fIx_t, fIs_n, fIsNot_n, fIs_b, fIsNot_b, isNone_n, isNone_i, isNone_l, isNone_t, isT_tt, isT_ii, isT_bi, isT_ll, fIsT, fEq, fNe, eqOk_i, eqOk_s, eqOk_l, eqOk_t, eqOk_n, eqv_nil, eqv_int, List.isEmpty_nil, List.isEmpty_cons, eq_self, atI_0, atI_1, atI_2, atI_3, atI_last, exists_eq', Int.cast_ofNat_Int, tab_len, endsP, endsI, rho0, List.set_cons_zero, List.set_cons_succ, List.getElem?_cons_zero, List.getElem?_cons_succ, Option.some.injEq, List.cons.injEq, exists_eq_left', exists_eq, and_assoc, exists_and_left, true_and, and_true, id_eq, List.map_cons, List.map_nil, List.replicate_succ, List.replicate_zero, List.cons_append, List.nil_append, List.length_cons, List.length_nil, PyData.bool.injEq, PyData.int.injEq, PyData.list.injEq, PyData.tuple.injEq, Bool.not_true, Bool.not_false, Bool.false_eq_true, if_true, if_false, ite_true, ite_false, decide_eq_true_eq, Nat.zero_add, Nat.zero_le, Nat.reduceAdd, Nat.reduceSub, Option.join, Option.bind_some, List.getElem?_nil]
    exact q
  · rintro j hj ρ ⟨x, rfl⟩ nx hnx
    simp only [sSeq, sIf, sSet, sSetL, sAsg, sRet, sRetV, sRetL, sRetN, sNx, sBk, sCt, sApp, sExt, sExpr, sFor, sPar, sParL, sPut, gSet, gNilD, gConsD, gTupD, tBool, tNotD, tAndD, tOrD, tYesD, e1, e2, eN, eC, eVar, eIxO, aNil, aCons, eTup, eLst, eFlat, eIf, eChain, eAnd, eOr, eNot, eSl, pNone, pSome, eCall, eCallI, eCallS, iLst, iRg1, iRg2, iRg3, iZipD, iEnumD, sPut2, sSet2, eLc, wipeR, restR, fAdd_i, fAdd_l, fSub_i, fMul_i, fMul_l, fRep_l, fDiv_i, fMod_i, fPow_i, fNeg_i, fCmp_i, fLt, fLe, fGt, fGe, fLen_l, fLen_t, fInt_i, fInt_b, fAbs_i, fMax_i, fMax_l, fMin_i, fSum_l, fList_l, fList_t, fRev_l, fSl_l, fIx_l, fIx_t, fIs_n, fIsNot_n, fIs_b, fIsNot_b, isNone_n, isNone_i, isNone_l, isNone_t, isT_tt, isT_ii, isT_bi, isT_ll, fIsT, fEq, fNe, eqOk_i, eqOk_s, eqOk_l, eqOk_t, eqOk_n, eqv_nil, eqv_int, List.isEmpty_nil, List.isEmpty_cons, eq_self, atI_0, atI_1, atI_2, atI_3, atI_last, exists_eq', Int.cast_ofNat_Int, tab_len, endsP, endsI, rho0, List.set_cons_zero, List.set_cons_succ, List.getElem?_cons_zero, List.getElem?_cons_succ, Option.some.injEq, List.cons.injEq, exists_eq_left', exists_eq, and_assoc, exists_and_left, true_and, and_true, id_eq, List.map_cons, List.map_nil, List.replicate_succ, List.replicate_zero, List.cons_append, List.nil_append, List.length_cons, List.length_nil, PyData.bool.injEq, PyData.int.injEq, PyData.list.injEq, PyData.tuple.injEq, Bool.not_true, Bool.not_false, Bool.false_eq_true, if_true, if_false, ite_true, ite_false, decide_eq_true_eq, Nat.zero_add, Nat.zero_le, Nat.reduceAdd, Nat.reduceSub, Option.join, Option.bind_some, List.getElem?_nil]
    have : b ^ j ≤ b ^ n := Nat.pow_le_pow_right hb (by omega)
    refine ⟨mulW (by omega) (by omega), ?_⟩
    rw [← Int.natCast_mul, ← Nat.pow_succ]
    exact hnx _ ⟨_, rfl⟩

def sp_law_great (d : D) (ds : List D) (Q : D → D → Prop) : Prop := ∃ k many : Nat, BagOk (k + 4) d ∧ 0 < many ∧ many ≤ 2 ^ 100 ∧ ds = [.int (many : Int)] ∧ ∀ (r : Nat) d', r < many → BagOk k d' → Q (.int (r : Int)) d'
def w_law_great : DS := (sSeq (sSet 2 (eC (.int 0))) (sSeq (sFor (iRg1 (aCons (eC (.int 3)) aNil)) (gSet 3) (sSet 2 (e2 fAdd (e2 fMul (eVar 2) (eC (.int 1000000))) (eCallI 0 1 sp_law_take (aCons (eC (.int 1000000)) aNil))))) (sRet (eCallI 0 1 sp_law_some (aCons (eLst (aCons (e2 fMod (eVar 2) (eVar 1)) (aCons (eC (.int 0)) (aCons (e2 fSub (eVar 1) (eC (.int 1))) (aCons (e2 fMod (eN fInt (aCons (eVar 2) aNil)) (e2 fAdd (eC (.int 1)) (eN fInt (aCons (e2 fDiv (eVar 1) (eC (.int 2))) aNil)))) aNil))))) aNil)))))
theorem m_law_great : ∀ d ds Q, ds.length = 1 → sp_law_great d ds Q → w_law_great (endsI Q) (rho0 (d :: ds) 2) := by
  rintro d ds Q - ⟨k, many, hB, h0, hb, rfl, q⟩
  unfold w_law_great
  refine seq_of (fun ρ => ∃ x, ρ = [some d, some (.int (many : Int)), some (.int 0), x]) ?_ (fun nx hnx => by simp only [sSeq, sIf, sSet, sSetL, sAsg, sRet, sRetV, sRetL, sRetN, sNx, sBk, sCt, sApp, sExt, sExpr, sFor, sPar, sParL, sPut, gSet, gNilD, gConsD, gTupD, tBool, tNotD, tAndD, tOrD, tYesD, e1, e2, eN, eC, eVar, eIxO, aNil, aCons, eTup, eLst, eFlat, eIf, eChain, eAnd, eOr, eNot, eSl, pNone, pSome, eCall, eCallI, eCallS, iLst, iRg1, iRg2, iRg3, iZipD, iEnumD, sPut2, sSet2, eLc, wipeR, restR, fAdd_i, fAdd_l, fSub_i, fMul_i, fMul_l, fRep_l, fDiv_i, fMod_i, fPow_i, fNeg_i, fCmp_i, fLt, fLe, fGt, fGe, fLen_l, fLen_t, fInt_i, fInt_b, fAbs_i, fMax_i, fMax_l, fMin_i, fSum_l, fList_l, fList_t, fRev_l, fSl_l, fIx_l, fIx_t, fIs_n, fIsNot_n, fIs_b, fIsNot_b, isNone_n, isNone_i, isNone_l, isNone_t, isT_tt, isT_ii, isT_bi, isT_ll, fIsT, fEq, fNe, eqOk_i, eqOk_s, eqOk_l, eqOk_t, eqOk_n, eqv_nil, eqv_int, List.isEmpty_nil, List.isEmpty_cons, eq_self, atI_0, atI_1, atI_2, atI_3, atI_last, exists_eq', Int.cast_ofNat_Int, tab_len, endsP, endsI, rho0, List.set_cons_zero, List.set_cons_succ, List.getElem?_cons_zero, List.getElem?_cons_succ, Option.some.injEq, List.cons.injEq, exists_eq_left', exists_eq, and_assoc, exists_and_left, true_and, and_true, id_eq, List.map_cons, List.map_nil, List.replicate_succ, List.replicate_zero, List.cons_append, List.nil_append, List.length_cons, List.length_nil, PyData.bool.injEq, PyData.int.injEq, PyData.list.injEq, PyData.tuple.injEq, Bool.not_true, Bool.not_false, Bool.false_eq_true, if_true, if_false, ite_true, ite_false, decide_eq_true_eq, Nat.zero_add, Nat.zero_le, Nat.reduceAdd, Nat.reduceSub, Option.join, Option.bind_some, List.getElem?_nil]; exact hnx _ ⟨_, rfl⟩)
  rintro ρ ⟨x, rfl⟩
  refine seq_of (fun ρ => ∃ d x, ∃ f : Nat, BagOk (k + 1) d ∧ ρ = [some d, some (.int (many : Int)), some (.int (f : Int)), x]) ?_ ?_
  · rintro ρ ⟨d, x, f, hB, rfl⟩
    simp only [sSeq, sIf, sSet, sSetL, sAsg, sRet, sRetV, sRetL, sRetN, sNx, sBk, sCt, sApp, sExt, sExpr, sFor, sPar, sParL, sPut, gSet, gNilD, gConsD, gTupD, tBool, tNotD, tAndD, tOrD, tYesD, e1, e2, eN, eC, eVar, eIxO, aNil, aCons, eTup, eLst, eFlat, eIf, eChain, eAnd, eOr, eNot, eSl, pNone, pSome, eCall, eCallI, eCallS, iLst, iRg1, iRg2, iRg3, iZipD, iEnumD, sPut2, sSet2, eLc, wipeR, restR, fAdd_i, fAdd_l, fSub_i, fMul_i, fMul_l, fRep_l, fDiv_i, fMod_i, fPow_i, fNeg_i, fCmp_i, fLt, fLe, fGt, fGe, fLen_l, fLen_t, fInt_i, fInt_b, fAbs_i, fMax_i, fMax_l, fMin_i, fSum_l, fList_l, fList_t, fRev_l, fSl_l, fIx_l, fIx_t, fIs_n, fIsNot_n, fIs_b, fIsNot_b, isNone_n, isNone_i, isNone_l, isNone_t, isT_tt, isT_ii, isT_bi, isT_ll, fIsT, fEq, fNe, eqOk_i, eqOk_s, eqOk_l, eqOk_t, eqOk_n, eqv_nil, eqv_int, List.isEmpty_nil, List.isEmpty_cons, eq_self, atI_0, atI_1, atI_2, atI_3, atI_last, exists_eq', Int.cast_ofNat_Int, tab_len, endsP, endsI, rho0, List.set_cons_zero, List.set_cons_succ, List.getElem?_cons_zero, List.getElem?_cons_succ, Option.some.injEq, List.cons.injEq, exists_eq_left', exists_eq, and_assoc, exists_and_left, true_and, and_true, id_eq, List.map_cons, List.map_nil, List.replicate_succ, List.replicate_zero, List.cons_append, List.nil_append, List.length_cons, List.length_nil, PyData.bool.injEq, PyData.int.injEq, PyData.list.injEq, PyData.tuple.injEq, Bool.not_true, Bool.not_false, Bool.false_eq_true, if_true, if_false, ite_true, ite_false, decide_eq_true_eq, Nat.zero_add, Nat.zero_le, Nat.reduceAdd, Nat.reduceSub, Option.join, Option.bind_some, List.getElem?_nil]
    refine ⟨by omega, divW (by decide) (by decide), by omega, ?_⟩
    refine ⟨by decide, k, _, hB, by simp, by simp, rfl, ?_⟩
    intro z hz d' hB'
    simp only [List.mem_cons, List.not_mem_nil, or_false] at hz
    rcases hz with rfl | rfl | rfl | rfl
    · rw [← Int.natCast_emod]
      exact q _ d' (Nat.mod_lt _ h0) hB'
    · exact q 0 d' h0 hB'
    · rw [show (many : Int) - 1 = ((many - 1 : Nat) : Int) by omega]
      exact q _ d' (by omega) hB'
    · have e : (f : Int) % (1 + (many : Int) / 2) = ((f % (1 + many / 2) : Nat) : Int) := by rw [Int.natCast_emod]; congr 1
      rw [e]
      have := Nat.mod_lt f (show 0 < 1 + many / 2 by omega)
      exact q _ d' (by omega) hB'
  · intro nx hnx
    simp only [sSeq, sIf, sSet, sSetL, sAsg, sRet, sRetV, sRetL, sRetN, sNx, sBk, sCt, sApp, sExt, sExpr, sFor, sPar, sParL, sPut, gSet, gNilD, gConsD, gTupD, tBool, tNotD, tAndD, tOrD, tYesD, e1, e2, eN, eC, eVar, eIxO, aNil, aCons, eTup, eLst, eFlat, eIf, eChain, eAnd, eOr, eNot, eSl, pNone, pSome, eCall, eCallI, eCallS, iLst, iRg1, iRg2, iRg3, iZipD, iEnumD, sPut2, sSet2, eLc, wipeR, restR, fAdd_i, fAdd_l, fSub_i, fMul_i, fMul_l, fRep_l, fDiv_i, fMod_i, fPow_i, fNeg_i, fCmp_i, fLt, fLe, fGt, fGe, fLen_l, fLen_t, fInt_i, fInt_b, fAbs_i, fMax_i, fMax_l, fMin_i, fSum_l, fList_l, fList_t, fRev_l, fSl_l, fIx_l, fIx_t, fIs_n, fIsNot_n, fIs_b, fIsNot_b, isNone_n, isNone_i, isNone_l, isNone_t, isT_tt, isT_ii, isT_bi, isT_ll, fIsT, fEq, fNe, eqOk_i, eqOk_s, eqOk_l, eqOk_t, eqOk_n, eqv_nil, eqv_int, List.isEmpty_nil, List.isEmpty_cons, eq_self, atI_0, atI_1, atI_2, atI_3, atI_last, exists_eq', Int.cast_ofNat_Int, tab_len, endsP, endsI, rho0, List.set_cons_zero, List.set_cons_succ, List.getElem?_cons_zero, List.getElem?_cons_succ, Option.some.injEq, List.cons.injEq, exists_eq_left', exists_eq, and_assoc, exists_and_left, true_and, and_true, id_eq, List.map_cons, List.map_nil, List.replicate_succ, List.replicate_zero, List.cons_append, List.nil_append, List.length_cons, List.length_nil, PyData.bool.injEq, PyData.int.injEq, PyData.list.injEq, PyData.tuple.injEq, Bool.not_true, Bool.not_false, Bool.false_eq_true, if_true, if_false, ite_true, ite_false, decide_eq_true_eq, Nat.zero_add, Nat.zero_le, Nat.reduceAdd, Nat.reduceSub, Option.join, Option.bind_some, List.getElem?_nil]
    refine ⟨by decide, by decide, ?_⟩
    rw [show rngD 0 (Int.toNat 3) = tab 3 fun i => .int (i : Int) from rngD_tab 3]
    refine forGo_tab _ _ (fun j ρ => ∃ d x, ∃ f : Nat, BagOk (k + 4 - j) d ∧ f < 10 ^ (6 * j) ∧ ρ = [some d, some (.int (many : Int)), some (.int (f : Int)), x]) ⟨d, x, 0, hB, by decide, rfl⟩ ?_ ?_
    · rintro ρ ⟨d, x, f, hB, _, rfl⟩
      exact hnx _ ⟨_, _, _, hB, rfl⟩
    · rintro j hj ρ ⟨d, x, f, hB, hf, rfl⟩ nx2 hnx2
      simp only [sSeq, sIf, sSet, sSetL, sAsg, sRet, sRetV, sRetL, sRetN, sNx, sBk, sCt, sApp, sExt, sExpr, sFor, sPar, sParL, sPut, gSet, gNilD, gConsD, gTupD, tBool, tNotD, tAndD, tOrD, tYesD, e1, e2, eN, eC, eVar, eIxO, aNil, aCons, eTup, eLst, eFlat, eIf, eChain, eAnd, eOr, eNot, eSl, pNone, pSome, eCall, eCallI, eCallS, iLst, iRg1, iRg2, iRg3, iZipD, iEnumD, sPut2, sSet2, eLc, wipeR, restR, fAdd_i, fAdd_l, fSub_i, fMul_i, fMul_l, fRep_l, fDiv_i, fMod_i, fPow_i, fNeg_i, fCmp_i, fLt, fLe, fGt, fGe, fLen_l, fLen_t, fInt_i, fInt_b, fAbs_i, fMax_i, fMax_l, fMin_i, fSum_l, fList_l, fList_t, fRev_l, fSl_l, fIx_l, fIx_t, fIs_n, fIsNot_n, fIs_b, fIsNot_b, isNone_n, isNone_i, isNone_l, isNone_t, isT_tt, isT_ii, isT_bi, isT_ll, fIsT, fEq, fNe, eqOk_i, eqOk_s, eqOk_l, eqOk_t, eqOk_n, eqv_nil, eqv_int, List.isEmpty_nil, List.isEmpty_cons, eq_self, atI_0, atI_1, atI_2, atI_3, atI_last, exists_eq', Int.cast_ofNat_Int, tab_len, endsP, endsI, rho0, List.set_cons_zero, List.set_cons_succ, List.getElem?_cons_zero, List.getElem?_cons_succ, Option.some.injEq, List.cons.injEq, exists_eq_left', exists_eq, and_assoc, exists_and_left, true_and, and_true, id_eq, List.map_cons, List.map_nil, List.replicate_succ, List.replicate_zero, List.cons_append, List.nil_append, List.length_cons, List.length_nil, PyData.bool.injEq, PyData.int.injEq, PyData.list.injEq, PyData.tuple.injEq, Bool.not_true, Bool.not_false, Bool.false_eq_true, if_true, if_false, ite_true, ite_false, decide_eq_true_eq, Nat.zero_add, Nat.zero_le, Nat.reduceAdd, Nat.reduceSub, Option.join, Option.bind_some, List.getElem?_nil]
      have h6 : 10 ^ (6 * j) ≤ 10 ^ 12 := Nat.pow_le_pow_right (by decide) (by omega)
      refine ⟨mulW (by omega) (by decide), k + 3 - j, 1000000, hB.mono (by omega), by decide, by decide, rfl, ?_⟩
      intro r d' hr hB'
      refine hnx2 _ ⟨d', _, f * 1000000 + r, hB'.mono (by omega), ?_, rfl⟩
      have : 10 ^ (6 * (j + 1)) = 10 ^ (6 * j) * 10 ^ 6 := by rw [Nat.mul_succ, Nat.pow_add]
      omega

def sp_law_sizes (ds : List D) (Q : D → Prop) : Prop := ∃ p f : Nat, Shp f p ∧ p ≤ 512 ∧ ds = [.int (p : Int), .int (f : Int)] ∧ Q (dLv f p)
def w_law_sizes : DS := (sSeq (sSetL 2 (eIf (tBool (e2 fGt (eVar 0) (eC (.int 0)))) (eLst (aCons (eVar 0) aNil)) (eLst aNil))) (sSeq (sFor (iRg1 (aCons (eC (.int 9)) aNil)) (gSet 3) (sIf (tAndD (tBool (e2 fNe (eVar 2) (eLst aNil))) (tBool (e2 fGt (eIxO 2 (e1 fNeg (eC (.int 1)))) (eC (.int 1))))) (sApp 2 (e2 fDiv (eN fInt (aCons (e2 fSub (e2 fAdd (eIxO 2 (e1 fNeg (eC (.int 1)))) (eVar 1)) (eC (.int 1))) aNil)) (eVar 1))) sNx)) (sRet (eVar 2))))
theorem ht_le9 {f p : Nat} (hf : 2 ≤ f) (h : p ≤ 512) : ht f p ≤ 9 := by
  by_cases q : ht f p ≤ 9
  · exact q
  · have h1 := ht_low hf (show 9 < ht f p by omega)
    have h2 : (2 : Nat) ^ 9 ≤ f ^ 9 := Nat.pow_le_pow_left hf 9
    omega
theorem gd_cnts {f p n : Nat} (S : Shp f p) : gd 1 (.list (tab n fun l => .int (cnt f p l : Int))) = true := gd_list fun x hx => by
  obtain ⟨l, _, rfl⟩ := tab_mem hx
  have := cnt_le (p := p) (l := l) S.f2
  have := S.pb
  exact gd_int (by omega)
theorem m_law_sizes : ∀ ds Q, ds.length = 2 → sp_law_sizes ds Q → w_law_sizes (endsP false Q) (rho0 ds 2) := by
  rintro ds Q - ⟨p, f, S, hp5, rfl, q⟩
  have hf := S.f2
  have fb := S.fb
  have h9 := ht_le9 hf hp5
  have hN : lvN f p ≤ 10 := by unfold lvN; split <;> omega
  unfold w_law_sizes
  refine seq_of (fun ρ => ρ = [some (.int (p : Int)), some (.int (f : Int)), some (.list (tab (min (lvN f p) 1) fun l => .int (cnt f p l : Int))), none]) ?_ ?_
  · rintro ρ rfl
    simp only [sSeq, sIf, sSet, sSetL, sAsg, sRet, sRetV, sRetL, sRetN, sNx, sBk, sCt, sApp, sExt, sExpr, sFor, sPar, sParL, sPut, gSet, gNilD, gConsD, gTupD, tBool, tNotD, tAndD, tOrD, tYesD, e1, e2, eN, eC, eVar, eIxO, aNil, aCons, eTup, eLst, eFlat, eIf, eChain, eAnd, eOr, eNot, eSl, pNone, pSome, eCall, eCallI, eCallS, iLst, iRg1, iRg2, iRg3, iZipD, iEnumD, sPut2, sSet2, eLc, wipeR, restR, fAdd_i, fAdd_l, fSub_i, fMul_i, fMul_l, fRep_l, fDiv_i, fMod_i, fPow_i, fNeg_i, fCmp_i, fLt, fLe, fGt, fGe, fLen_l, fLen_t, fInt_i, fInt_b, fAbs_i, fMax_i, fMax_l, fMin_i, fSum_l, fList_l, fList_t, fRev_l, fSl_l, fIx_l, fIx_t, fIs_n, fIsNot_n, fIs_b, fIsNot_b, isNone_n, isNone_i, isNone_l, isNone_t, isT_tt, isT_ii, isT_bi, isT_ll, fIsT, fEq, fNe, eqOk_i, eqOk_s, eqOk_l, eqOk_t, eqOk_n, eqv_nil, eqv_int, List.isEmpty_nil, List.isEmpty_cons, eq_self, atI_0, atI_1, atI_2, atI_3, atI_last, exists_eq', Int.cast_ofNat_Int, tab_len, endsP, endsI, rho0, List.set_cons_zero, List.set_cons_succ, List.getElem?_cons_zero, List.getElem?_cons_succ, Option.some.injEq, List.cons.injEq, exists_eq_left', exists_eq, and_assoc, exists_and_left, true_and, and_true, id_eq, List.map_cons, List.map_nil, List.replicate_succ, List.replicate_zero, List.cons_append, List.nil_append, List.length_cons, List.length_nil, PyData.bool.injEq, PyData.int.injEq, PyData.list.injEq, PyData.tuple.injEq, Bool.not_true, Bool.not_false, Bool.false_eq_true, if_true, if_false, ite_true, ite_false, decide_eq_true_eq, Nat.zero_add, Nat.zero_le, Nat.reduceAdd, Nat.reduceSub, Option.join, Option.bind_some, List.getElem?_nil]
    refine ⟨by decide, by decide, ?_⟩
    rw [show rngD 0 (Int.toNat 9) = tab 9 fun i => .int (i : Int) from rngD_tab 9]
    refine forGo_tab _ _ (fun j ρ => ∃ x, ρ = [some (.int (p : Int)), some (.int (f : Int)), some (.list (tab (min (lvN f p) (j + 1)) fun l => .int (cnt f p l : Int))), x]) ⟨none, rfl⟩ ?_ ?_
    · rintro ρ ⟨x, rfl⟩
      simp only [sSeq, sIf, sSet, sSetL, sAsg, sRet, sRetV, sRetL, sRetN, sNx, sBk, sCt, sApp, sExt, sExpr, sFor, sPar, sParL, sPut, gSet, gNilD, gConsD, gTupD, tBool, tNotD, tAndD, tOrD, tYesD, e1, e2, eN, eC, eVar, eIxO, aNil, aCons, eTup, eLst, eFlat, eIf, eChain, eAnd, eOr, eNot, eSl, pNone, pSome, eCall, eCallI, eCallS, iLst, iRg1, iRg2, iRg3, iZipD, iEnumD, sPut2, sSet2, eLc, wipeR, restR, fAdd_i, fAdd_l, fSub_i, fMul_i, fMul_l, fRep_l, fDiv_i, fMod_i, fPow_i, fNeg_i, fCmp_i, fLt, fLe, fGt, fGe, fLen_l, fLen_t, fInt_i, fInt_b, fAbs_i, fMax_i, fMax_l, fMin_i, fSum_l, fList_l, fList_t, fRev_l, fSl_l, fIx_l, fIx_t, fIs_n, fIsNot_n, fIs_b, fIsNot_b, isNone_n, isNone_i, isNone_l, isNone_t, isT_tt, isT_ii, isT_bi, isT_ll, fIsT, fEq, fNe, eqOk_i, eqOk_s, eqOk_l, eqOk_t, eqOk_n, eqv_nil, eqv_int, List.isEmpty_nil, List.isEmpty_cons, eq_self, atI_0, atI_1, atI_2, atI_3, atI_last, exists_eq', Int.cast_ofNat_Int, tab_len, endsP, endsI, rho0, List.set_cons_zero, List.set_cons_succ, List.getElem?_cons_zero, List.getElem?_cons_succ, Option.some.injEq, List.cons.injEq, exists_eq_left', exists_eq, and_assoc, exists_and_left, true_and, and_true, id_eq, List.map_cons, List.map_nil, List.replicate_succ, List.replicate_zero, List.cons_append, List.nil_append, List.length_cons, List.length_nil, PyData.bool.injEq, PyData.int.injEq, PyData.list.injEq, PyData.tuple.injEq, Bool.not_true, Bool.not_false, Bool.false_eq_true, if_true, if_false, ite_true, ite_false, decide_eq_true_eq, Nat.zero_add, Nat.zero_le, Nat.reduceAdd, Nat.reduceSub, Option.join, Option.bind_some, List.getElem?_nil]
      rw [Nat.min_eq_left (by omega)]
      exact q
    · rintro j hj ρ ⟨x, rfl⟩ nx hnx
      simp only [sSeq, sIf, sSet, sSetL, sAsg, sRet, sRetV, sRetL, sRetN, sNx, sBk, sCt, sApp, sExt, sExpr, sFor, sPar, sParL, sPut, gSet, gNilD, gConsD, gTupD, tBool, tNotD, tAndD, tOrD, tYesD, e1, e2, eN, eC, eVar, eIxO, aNil, aCons, eTup, eLst, eFlat, eIf, eChain, eAnd, eOr, eNot, eSl, pNone, pSome, eCall, eCallI, eCallS, iLst, iRg1, iRg2, iRg3, iZipD, iEnumD, sPut2, sSet2, eLc, wipeR, restR, fAdd_i, fAdd_l, fSub_i, fMul_i, fMul_l, fRep_l, fDiv_i, fMod_i, fPow_i, fNeg_i, fCmp_i, fLt, fLe, fGt, fGe, fLen_l, fLen_t, fInt_i, fInt_b, fAbs_i, fMax_i, fMax_l, fMin_i, fSum_l, fList_l, fList_t, fRev_l, fSl_l, fIx_l, fIx_t, fIs_n, fIsNot_n, fIs_b, fIsNot_b, isNone_n, isNone_i, isNone_l, isNone_t, isT_tt, isT_ii, isT_bi, isT_ll, fIsT, fEq, fNe, eqOk_i, eqOk_s, eqOk_l, eqOk_t, eqOk_n, eqv_nil, eqv_int, List.isEmpty_nil, List.isEmpty_cons, eq_self, atI_0, atI_1, atI_2, atI_3, atI_last, exists_eq', Int.cast_ofNat_Int, tab_len, endsP, endsI, rho0, List.set_cons_zero, List.set_cons_succ, List.getElem?_cons_zero, List.getElem?_cons_succ, Option.some.injEq, List.cons.injEq, exists_eq_left', exists_eq, and_assoc, exists_and_left, true_and, and_true, id_eq, List.map_cons, List.map_nil, List.replicate_succ, List.replicate_zero, List.cons_append, List.nil_append, List.length_cons, List.length_nil, PyData.bool.injEq, PyData.int.injEq, PyData.list.injEq, PyData.tuple.injEq, Bool.not_true, Bool.not_false, Bool.false_eq_true, if_true, if_false, ite_true, ite_false, decide_eq_true_eq, Nat.zero_add, Nat.zero_le, Nat.reduceAdd, Nat.reduceSub, Option.join, Option.bind_some, List.getElem?_nil]
      refine ⟨gd_shaped (n := 1) (by decide) (gd_cnts S), shaped_nil, ?_⟩
      by_cases hp : p = 0
      · have e : lvN f p = 0 := by rw [hp]; rfl
        rw [e, Nat.min_eq_left (by omega)]
        rw [if_neg (by simp [tab])]
        refine hnx _ ⟨some (.int (j : Int)), ?_⟩
        rw [e, Nat.min_eq_left (by omega)]
      · have e : lvN f p = ht f p + 1 := lvN_pos (by omega)
        obtain ⟨m, hm⟩ : ∃ m, min (lvN f p) (j + 1) = m + 1 := ⟨min (lvN f p) (j + 1) - 1, by omega⟩
        rw [hm, if_pos (by simp [tab])]
        simp only [sSeq, sIf, sSet, sSetL, sAsg, sRet, sRetV, sRetL, sRetN, sNx, sBk, sCt, sApp, sExt, sExpr, sFor, sPar, sParL, sPut, gSet, gNilD, gConsD, gTupD, tBool, tNotD, tAndD, tOrD, tYesD, e1, e2, eN, eC, eVar, eIxO, aNil, aCons, eTup, eLst, eFlat, eIf, eChain, eAnd, eOr, eNot, eSl, pNone, pSome, eCall, eCallI, eCallS, iLst, iRg1, iRg2, iRg3, iZipD, iEnumD, sPut2, sSet2, eLc, wipeR, restR, fAdd_i, fAdd_l, fSub_i, fMul_i, fMul_l, fRep_l, fDiv_i, fMod_i, fPow_i, fNeg_i, fCmp_i, fLt, fLe, fGt, fGe, fLen_l, fLen_t, fInt_i, fInt_b, fAbs_i, fMax_i, fMax_l, fMin_i, fSum_l, fList_l, fList_t, fRev_l, fSl_l, fIx_l, fIx_t, fIs_n, fIsNot_n, fIs_b, fIsNot_b, isNone_n, isNone_i, isNone_l, isNone_t, isT_tt, isT_ii, isT_bi, isT_ll, fIsT, fEq, fNe, eqOk_i, eqOk_s, eqOk_l, eqOk_t, eqOk_n, eqv_nil, eqv_int, List.isEmpty_nil, List.isEmpty_cons, eq_self, atI_0, atI_1, atI_2, atI_3, atI_last, exists_eq', Int.cast_ofNat_Int, tab_len, endsP, endsI, rho0, List.set_cons_zero, List.set_cons_succ, List.getElem?_cons_zero, List.getElem?_cons_succ, Option.some.injEq, List.cons.injEq, exists_eq_left', exists_eq, and_assoc, exists_and_left, true_and, and_true, id_eq, List.map_cons, List.map_nil, List.replicate_succ, List.replicate_zero, List.cons_append, List.nil_append, List.length_cons, List.length_nil, PyData.bool.injEq, PyData.int.injEq, PyData.list.injEq, PyData.tuple.injEq, Bool.not_true, Bool.not_false, Bool.false_eq_true, if_true, if_false, ite_true, ite_false, decide_eq_true_eq, Nat.zero_add, Nat.zero_le, Nat.reduceAdd, Nat.reduceSub, Option.join, Option.bind_some, List.getElem?_nil]
        have hc : (1 : Int) < (cnt f p m : Int) ↔ m < ht f p := by rw [← lt_ht hf, ← cnt_gt1 (p := p) hf]; omega
        have hcl := cnt_le (p := p) (l := m) hf
        by_cases c : m < ht f p
        · rw [if_pos (hc.mpr c)]
          refine ⟨divW (by omega) (by omega), Nat.lt_of_le_of_lt (show m + 1 ≤ 10 by omega) (by decide), ?_⟩
          have e2 : ((cnt f p m : Int) + (f : Int) - 1) / (f : Int) = (cnt f p (m + 1) : Int) := by
            rw [cnt_succ hf]
            unfold cl
            rw [Int.natCast_ediv]
            congr 1
            omega
          rw [e2, tab_snoc (m + 1)]
          refine hnx _ ⟨some (.int (j : Int)), ?_⟩
          rw [show min (lvN f p) (j + 1 + 1) = m + 1 + 1 by omega]
        · rw [if_neg (fun z => c (hc.mp z))]
          refine hnx _ ⟨some (.int (j : Int)), ?_⟩
          rw [show min (lvN f p) (j + 1 + 1) = m + 1 by omega]
  · intro nx hnx
    simp only [sSeq, sIf, sSet, sSetL, sAsg, sRet, sRetV, sRetL, sRetN, sNx, sBk, sCt, sApp, sExt, sExpr, sFor, sPar, sParL, sPut, gSet, gNilD, gConsD, gTupD, tBool, tNotD, tAndD, tOrD, tYesD, e1, e2, eN, eC, eVar, eIxO, aNil, aCons, eTup, eLst, eFlat, eIf, eChain, eAnd, eOr, eNot, eSl, pNone, pSome, eCall, eCallI, eCallS, iLst, iRg1, iRg2, iRg3, iZipD, iEnumD, sPut2, sSet2, eLc, wipeR, restR, fAdd_i, fAdd_l, fSub_i, fMul_i, fMul_l, fRep_l, fDiv_i, fMod_i, fPow_i, fNeg_i, fCmp_i, fLt, fLe, fGt, fGe, fLen_l, fLen_t, fInt_i, fInt_b, fAbs_i, fMax_i, fMax_l, fMin_i, fSum_l, fList_l, fList_t, fRev_l, fSl_l, fIx_l, fIx_t, fIs_n, fIsNot_n, fIs_b, fIsNot_b, isNone_n, isNone_i, isNone_l, isNone_t, isT_tt, isT_ii, isT_bi, isT_ll, fIsT, fEq, fNe, eqOk_i, eqOk_s, eqOk_l, eqOk_t, eqOk_n, eqv_nil, eqv_int, List.isEmpty_nil, List.isEmpty_cons, eq_self, atI_0, atI_1, atI_2, atI_3, atI_last, exists_eq', Int.cast_ofNat_Int, tab_len, endsP, endsI, rho0, List.set_cons_zero, List.set_cons_succ, List.getElem?_cons_zero, List.getElem?_cons_succ, Option.some.injEq, List.cons.injEq, exists_eq_left', exists_eq, and_assoc, exists_and_left, true_and, and_true, id_eq, List.map_cons, List.map_nil, List.replicate_succ, List.replicate_zero, List.cons_append, List.nil_append, List.length_cons, List.length_nil, PyData.bool.injEq, PyData.int.injEq, PyData.list.injEq, PyData.tuple.injEq, Bool.not_true, Bool.not_false, Bool.false_eq_true, if_true, if_false, ite_true, ite_false, decide_eq_true_eq, Nat.zero_add, Nat.zero_le, Nat.reduceAdd, Nat.reduceSub, Option.join, Option.bind_some, List.getElem?_nil]
    by_cases hp : p = 0
    · rw [if_neg (by omega)]
      have e : lvN f p = 0 := by rw [hp]; rfl
      refine hnx _ ?_
      rw [e]; rfl
    · rw [if_pos (by omega)]
      have e : lvN f p = ht f p + 1 := lvN_pos (by omega)
      refine ⟨by decide, hnx _ ?_⟩
      rw [show min (lvN f p) 1 = 1 by omega]
      simp [tab, cnt_zero]

def sp_law_span (ds : List D) (Q : D → Prop) : Prop := ∃ p f l i : Nat, 0 < f ∧ f ≤ 2 ^ 100 ∧ f ^ l ≤ 2 ^ 100 ∧ l ≤ 2 ^ 20 ∧ i ≤ 2 ^ 50 ∧ ds = [.int (p : Int), .int (f : Int), .int (l : Int), .int (i : Int)] ∧ Q (.tuple [.int ((i * f ^ l : Nat) : Int), .int ((min p ((i + 1) * f ^ l) : Nat) : Int)])
def w_law_span : DS := (sSeq (sSet 4 (eCall 2 sp_law_power (aCons (eVar 1) (aCons (eVar 2) aNil)))) (sRet (eTup (aCons (e2 fMul (eVar 3) (eVar 4)) (aCons (eN fMinL (aCons (eVar 0) (aCons (e2 fMul (e2 fAdd (eVar 3) (eC (.int 1))) (eVar 4)) aNil))) aNil)))))
theorem m_law_span : ∀ ds Q, ds.length = 4 → sp_law_span ds Q → w_law_span (endsP false Q) (rho0 ds 1) := by
  rintro ds Q - ⟨p, f, l, i, h0, hf, hp, hl, hi, rfl, q⟩
  simp only [w_law_span, sSeq, sIf, sSet, sSetL, sAsg, sRet, sRetV, sRetL, sRetN, sNx, sBk, sCt, sApp, sExt, sExpr, sFor, sPar, sParL, sPut, gSet, gNilD, gConsD, gTupD, tBool, tNotD, tAndD, tOrD, tYesD, e1, e2, eN, eC, eVar, eIxO, aNil, aCons, eTup, eLst, eFlat, eIf, eChain, eAnd, eOr, eNot, eSl, pNone, pSome, eCall, eCallI, eCallS, iLst, iRg1, iRg2, iRg3, iZipD, iEnumD, sPut2, sSet2, eLc, wipeR, restR, fAdd_i, fAdd_l, fSub_i, fMul_i, fMul_l, fRep_l, fDiv_i, fMod_i, fPow_i, fNeg_i, fCmp_i, fLt, fLe, fGt, fGe, fLen_l, fLen_t, fInt_i, fInt_b, fAbs_i, fMax_i, fMax_l, fMin_i, fSum_l, fList_l, fList_t, fRev_l, fSl_l, fIx_l, fIx_t, fIs_n, fIsNot_n, fIs_b, fIsNot_b, isNone_n, isNone_i, isNone_l, isNone_t, isT_tt, isT_ii, isT_bi, isT_ll, fIsT, fEq, fNe, eqOk_i, eqOk_s, eqOk_l, eqOk_t, eqOk_n, eqv_nil, eqv_int, List.isEmpty_nil, List.isEmpty_cons, eq_self, atI_0, atI_1, atI_2, atI_3, atI_last, exists_eq', Int.cast_ofNat_Int, tab_len, endsP, endsI, rho0, List.set_cons_zero, List.set_cons_succ, List.getElem?_cons_zero, List.getElem?_cons_succ, Option.some.injEq, List.cons.injEq, exists_eq_left', exists_eq, and_assoc, exists_and_left, true_and, and_true, id_eq, List.map_cons, List.map_nil, List.replicate_succ, List.replicate_zero, List.cons_append, List.nil_append, List.length_cons, List.length_nil, PyData.bool.injEq, PyData.int.injEq, PyData.list.injEq, PyData.tuple.injEq, Bool.not_true, Bool.not_false, Bool.false_eq_true, if_true, if_false, ite_true, ite_false, decide_eq_true_eq, Nat.zero_add, Nat.zero_le, Nat.reduceAdd, Nat.reduceSub, Option.join, Option.bind_some, List.getElem?_nil]
  refine ⟨f, l, h0, hp, hf, hl, rfl, ?_⟩
  simp only [sSeq, sIf, sSet, sSetL, sAsg, sRet, sRetV, sRetL, sRetN, sNx, sBk, sCt, sApp, sExt, sExpr, sFor, sPar, sParL, sPut, gSet, gNilD, gConsD, gTupD, tBool, tNotD, tAndD, tOrD, tYesD, e1, e2, eN, eC, eVar, eIxO, aNil, aCons, eTup, eLst, eFlat, eIf, eChain, eAnd, eOr, eNot, eSl, pNone, pSome, eCall, eCallI, eCallS, iLst, iRg1, iRg2, iRg3, iZipD, iEnumD, sPut2, sSet2, eLc, wipeR, restR, fAdd_i, fAdd_l, fSub_i, fMul_i, fMul_l, fRep_l, fDiv_i, fMod_i, fPow_i, fNeg_i, fCmp_i, fLt, fLe, fGt, fGe, fLen_l, fLen_t, fInt_i, fInt_b, fAbs_i, fMax_i, fMax_l, fMin_i, fSum_l, fList_l, fList_t, fRev_l, fSl_l, fIx_l, fIx_t, fIs_n, fIsNot_n, fIs_b, fIsNot_b, isNone_n, isNone_i, isNone_l, isNone_t, isT_tt, isT_ii, isT_bi, isT_ll, fIsT, fEq, fNe, eqOk_i, eqOk_s, eqOk_l, eqOk_t, eqOk_n, eqv_nil, eqv_int, List.isEmpty_nil, List.isEmpty_cons, eq_self, atI_0, atI_1, atI_2, atI_3, atI_last, exists_eq', Int.cast_ofNat_Int, tab_len, endsP, endsI, rho0, List.set_cons_zero, List.set_cons_succ, List.getElem?_cons_zero, List.getElem?_cons_succ, Option.some.injEq, List.cons.injEq, exists_eq_left', exists_eq, and_assoc, exists_and_left, true_and, and_true, id_eq, List.map_cons, List.map_nil, List.replicate_succ, List.replicate_zero, List.cons_append, List.nil_append, List.length_cons, List.length_nil, PyData.bool.injEq, PyData.int.injEq, PyData.list.injEq, PyData.tuple.injEq, Bool.not_true, Bool.not_false, Bool.false_eq_true, if_true, if_false, ite_true, ite_false, decide_eq_true_eq, Nat.zero_add, Nat.zero_le, Nat.reduceAdd, Nat.reduceSub, Option.join, Option.bind_some, List.getElem?_nil]
  refine ⟨mulW (by omega) (by omega), mulW (by omega) (by omega), by decide, ?_⟩
  rw [← Int.natCast_mul, show ((i : Int) + 1) * ((f ^ l : Nat) : Int) = (((i + 1) * f ^ l : Nat) : Int) by push_cast; rfl,
    show min (p : Int) (((i + 1) * f ^ l : Nat) : Int) = ((min p ((i + 1) * f ^ l) : Nat) : Int) by omega]
  exact q
end DD

set_option Elab.async false
set_option linter.all false
set_option maxRecDepth 100000
set_option maxHeartbeats 4000000
/-! k30: the mends, by formulas -/
namespace DD
open PySem PySem.Spec PyProof.Rows L2

/-- the page is the last one beneath its node of this level -/
abbrev EndN (f p a l : Nat) : Prop := hiN f p l (a / f ^ l) = a + 1
theorem anc_on {f p a l : Nat} (hf : 2 ≤ f) (ha : a < p) (hl : l ≤ ht f p) : OnT f p l (a / f ^ l) :=
  ⟨by rw [lvN_pos (by omega)]; omega, (lt_cnt hf).mpr (by have := Nat.div_mul_le_self a (f ^ l); omega)⟩
theorem anc_lo {f a l : Nat} : loN f l (a / f ^ l) ≤ a := Nat.div_mul_le_self a (f ^ l)
theorem anc_up {f a l : Nat} (hf : 2 ≤ f) : a < (a / f ^ l + 1) * f ^ l := by
  have hw := pw_pos (f := f) (l := l) hf
  have := Nat.div_add_mod a (f ^ l)
  have := Nat.mod_lt a hw
  rw [Nat.succ_mul, Nat.mul_comm]
  omega
theorem anc_hi {f p a l : Nat} (hf : 2 ≤ f) (ha : a < p) : a < hiN f p l (a / f ^ l) := by
  have := anc_up (a := a) (l := l) hf
  unfold hiN; omega
theorem anc_nest {f p a l : Nat} (hf : 2 ≤ f) : hiN f p l (a / f ^ l) ≤ hiN f p (l + 1) (a / f ^ (l + 1)) := by
  unfold hiN
  have e : a / f ^ (l + 1) = a / f ^ l / f := by rw [Nat.pow_succ, Nat.div_div_eq_div_mul]
  have h1 : a / f ^ l + 1 ≤ (a / f ^ l / f + 1) * f := by
    have := anc_up (f := f) (a := a / f ^ l) (l := 1) hf
    rw [Nat.pow_one] at this
    exact this
  have h2 : (a / f ^ l + 1) * f ^ l ≤ (a / f ^ l / f + 1) * f * f ^ l := Nat.mul_le_mul_right _ h1
  have h3 : (a / f ^ (l + 1) + 1) * f ^ (l + 1) = (a / f ^ l / f + 1) * f * f ^ l := by rw [e, Nat.pow_succ, Nat.mul_comm (f ^ l) f, Nat.mul_assoc]
  omega
theorem end_down {f p a l : Nat} (hf : 2 ≤ f) (ha : a < p) (h : EndN f p a (l + 1)) : EndN f p a l := by
  have h1 := anc_nest (p := p) (a := a) (l := l) hf
  have h2 := anc_hi (l := l) hf ha
  unfold EndN at *
  omega
theorem end_le {f p a l j : Nat} (hf : 2 ≤ f) (ha : a < p) (h : EndN f p a l) (hj : j ≤ l) : EndN f p a j := by
  induction l with
  | zero => rw [show j = 0 by omega]; exact h
  | succ l ih =>
    by_cases q : j = l + 1
    · rw [q]; exact h
    · exact ih (end_down hf ha h) (by omega)
theorem end_0 {f p a : Nat} (ha : a < p) : EndN f p a 0 := by unfold EndN hiN; simp; omega
/-- a node that ends with a page is the one above it -/
theorem end_is {f p a l i : Nat} (hf : 2 ≤ f) (h : OnT f p l i) (e : hiN f p l i = a + 1) : i = a / f ^ l := by
  have hw := pw_pos (f := f) (l := l) hf
  have h1 := lo_lt_hi hf h
  have h2 : (i + 1) * f ^ l = i * f ^ l + f ^ l := Nat.succ_mul _ _
  unfold loN at h1
  have h3 : hiN f p l i ≤ (i + 1) * f ^ l := Nat.min_le_right _ _
  have k1 : i ≤ a / f ^ l := (Nat.le_div_iff_mul_le hw).mpr (by omega)
  have k2 : a / f ^ l < i + 1 := (Nat.div_lt_iff_lt_mul hw).mpr (by omega)
  omega

abbrev ndM (f : Nat) (room : Int) (a l : Nat) : Nat × Nat × Int × Int := (l, a / f ^ l, room, 0)
def blkL (f p : Nat) (room : Int) (a : Nat) : List (Nat × Nat × Int × Int) := ((List.range (ht f p + 1)).filter fun l => decide (EndN f p a l)).map (ndM f room a)
def menL (f p : Nat) (room : Int) (a j : Nat) : List (Nat × Nat × Int × Int) := (List.range a).flatMap (blkL f p room) ++ (List.range j).map (ndM f room a)
theorem menL_step {f p : Nat} {room : Int} {a j : Nat} : menL f p room a (j + 1) = menL f p room a j ++ [ndM f room a j] := by
  unfold menL; rw [List.range_succ, List.map_append, List.append_assoc]; rfl
theorem filter_down {P : Nat → Bool} (h : ∀ l, P (l + 1) = true → P l = true) : ∀ n, ∃ J, J ≤ n ∧ (List.range n).filter P = List.range J ∧ (∀ l, l < J → P l = true) ∧ (J < n → P J = false)
  | 0 => ⟨0, Nat.le_refl _, rfl, by omega, by omega⟩
  | n + 1 => by
    obtain ⟨J, h1, h2, h3, h4⟩ := filter_down h n
    rw [List.range_succ, List.filter_append, h2]
    by_cases q : J = n
    · subst q
      cases c : P J with
      | true => exact ⟨J + 1, by omega, by simp [c, List.range_succ], fun l hl => by
          by_cases z : l = J
          · rw [z]; exact c
          · exact h3 l (by omega), by omega⟩
      | false => exact ⟨J, by omega, by simp [c], h3, fun _ => c⟩
    · have hJ := h4 (by omega)
      have hn : P n = false := by
        cases c : P n with
        | false => rfl
        | true =>
          have down : ∀ k, k ≤ n → P (n - k) = true := fun k => by
            induction k with
            | zero => intro _; exact c
            | succ k ih => intro hk; exact h _ (by rw [show n - (k + 1) + 1 = n - k by omega]; exact ih (by omega))
          have := down (n - J) (by omega)
          rw [show n - (n - J) = J by omega, hJ] at this
          cases this
      exact ⟨J, by omega, by simp [hn], h3, fun _ => hJ⟩
/-- all that a page brings -/
theorem blk_J {f p a : Nat} {room : Int} (hf : 2 ≤ f) (ha : a < p) : ∃ J, J ≤ ht f p + 1 ∧ 0 < J ∧ blkL f p room a = (List.range J).map (ndM f room a) ∧ (∀ l, l < J → EndN f p a l) ∧ ¬ (J ≤ ht f p ∧ EndN f p a J) := by
  obtain ⟨J, h1, h2, h3, h4⟩ := filter_down (P := fun l => decide (EndN f p a l)) (fun l h => decide_eq_true (end_down hf ha (of_decide_eq_true h))) (ht f p + 1)
  refine ⟨J, h1, ?_, by unfold blkL; rw [h2], fun l hl => of_decide_eq_true (h3 l hl), fun z => by have := h4 (by omega); rw [decide_eq_true z.2] at this; cases this⟩
  by_cases q : J = 0
  · subst q
    have := h4 (by omega)
    rw [decide_eq_true (end_0 (f := f) ha)] at this
    cases this
  · omega
theorem menL_next {f p a : Nat} {room : Int} : menL f p room (a + 1) 0 = menL f p room a 0 ++ blkL f p room a := by
  unfold menL
  rw [List.range_succ, List.flatMap_append, List.flatMap_singleton]
  simp
theorem menL_norm {f p a j : Nat} {room : Int} (hf : 2 ≤ f) (ha : a < p) (hj : j ≤ ht f p + 1) (h1 : ∀ l, l < j → EndN f p a l) (h2 : ¬ (j ≤ ht f p ∧ EndN f p a j)) : menL f p room a j = menL f p room (a + 1) 0 := by
  obtain ⟨J, k1, k2, k3, k4, k5⟩ := blk_J (room := room) hf ha
  have e : j = J := by
    by_cases q : j < J
    · exact absurd ⟨by omega, k4 j q⟩ h2
    · by_cases q2 : J < j
      · exact absurd ⟨by omega, h1 J q2⟩ k5
      · omega
  rw [menL_next, k3, e]
  unfold menL
  simp

/-- what is told once the mends up to here are done -/
def stv (f p : Nat) (room : Int) (a j : Nat) : Nat → Nat → Int := fun l i => if hiN f p l i ≤ (if l < j then a + 1 else a) then 0 else room
theorem stv_lt {f p a j l i : Nat} {room : Int} (h : l < j) : stv f p room a j l i = if hiN f p l i ≤ a + 1 then 0 else room := by unfold stv; rw [if_pos h]
theorem stv_ge {f p a j l i : Nat} {room : Int} (h : ¬ l < j) : stv f p room a j l i = if hiN f p l i ≤ a then 0 else room := by unfold stv; rw [if_neg h]
def IsSt (f p : Nat) (room : Int) (a j : Nat) (g : Nat → Nat → Int) : Prop := ∀ l i, OnT f p l i → g l i = stv f p room a j l i
theorem st_step {f p a j : Nat} {room : Int} {g : Nat → Nat → Int} (hf : 2 ≤ f) (h : IsSt f p room a j g) (he : EndN f p a j) : IsSt f p room a (j + 1) (put g j (a / f ^ j) 0) := by
  intro l i ho
  have hg := h l i ho
  unfold put
  by_cases q : l = j
  · subst q
    rw [if_pos rfl, stv_lt (by omega)]
    rw [stv_ge (by omega)] at hg
    by_cases q2 : i = a / f ^ l
    · rw [if_pos q2]
      subst q2
      have he : hiN f p l (a / f ^ l) = a + 1 := he
      rw [if_pos (by omega)]
    · rw [if_neg q2, hg]
      have : hiN f p l i ≠ a + 1 := fun z => q2 (end_is hf ho z)
      by_cases c : hiN f p l i ≤ a
      · rw [if_pos c, if_pos (by omega)]
      · rw [if_neg c, if_neg (by omega)]
  · rw [if_neg q, hg]
    by_cases c : l < j
    · rw [stv_lt c, stv_lt (by omega)]
    · rw [stv_ge c, stv_ge (by omega)]
theorem st_norm {f p a j : Nat} {room : Int} {g : Nat → Nat → Int} (hf : 2 ≤ f) (ha : a < p) (h : IsSt f p room a j g) (h2 : ¬ (j ≤ ht f p ∧ EndN f p a j)) : IsSt f p room (a + 1) 0 g := by
  intro l i ho
  rw [h l i ho, stv_ge (show ¬ l < 0 by omega)]
  by_cases c : l < j
  · rw [stv_lt c]
  · rw [stv_ge c]
    have : hiN f p l i ≠ a + 1 := fun z => by
      have e := end_is hf ho z
      subst e
      have hl := ho.lo.2
      exact h2 ⟨by omega, end_le hf ha z (by omega)⟩
    by_cases q : hiN f p l i ≤ a
    · rw [if_pos q, if_pos (by omega)]
    · rw [if_neg q, if_neg (by omega)]
theorem st_0 {f p : Nat} {room : Int} {g : Nat → Nat → Int} (hf : 2 ≤ f) (h : ∀ l i, OnT f p l i → g l i = room) : IsSt f p room 0 0 g := by
  intro l i ho
  have := lo_lt_hi hf ho
  rw [h l i ho, stv_ge (by omega), if_neg (by omega)]
abbrev wrM (m : Nat × Nat × Int × Int) : Nat × Nat × Int := (m.1, m.2.1, m.2.2.2)
theorem doAll_snoc {g : Nat → Nat → Int} {ws : List (Nat × Nat × Int)} {w : Nat × Nat × Int} : doAll g (ws ++ [w]) = put (doAll g ws) w.1 w.2.1 w.2.2 := by
  unfold doAll; rw [List.foldl_append]; rfl
theorem do_st {f p : Nat} {room : Int} {g : Nat → Nat → Int} (hf : 2 ≤ f) (h : ∀ l i, OnT f p l i → g l i = room) : ∀ a j, a ≤ p → (a = p → j = 0) → j ≤ ht f p + 1 → (∀ l, l < j → EndN f p a l) → IsSt f p room a j (doAll g ((menL f p room a j).map wrM)) := by
  intro a
  induction a with
  | zero =>
    intro j
    induction j with
    | zero => intro _ _ _ _; exact st_0 hf h
    | succ j ih =>
      intro h1 h2 h3 h4
      rw [menL_step, List.map_append, List.map_singleton, doAll_snoc]
      exact st_step hf (ih h1 (fun z => by have := h2 z; omega) (by omega) fun l hl => h4 l (by omega)) (h4 j (by omega))
  | succ a iha =>
    intro j
    induction j with
    | zero =>
      intro h1 _ _ _
      obtain ⟨J, k1, k2, k3, k4, k5⟩ := blk_J (room := room) hf (show a < p by omega)
      rw [← menL_norm hf (show a < p by omega) k1 k4 k5]
      exact st_norm hf (by omega) (iha J (by omega) (by omega) k1 k4) k5
    | succ j ih =>
      intro h1 h2 h3 h4
      rw [menL_step, List.map_append, List.map_singleton, doAll_snoc]
      exact st_step hf (ih h1 (fun z => by have := h2 z; omega) (by omega) fun l hl => h4 l (by omega)) (h4 j (by omega))
/-- the mends up to some point -/
theorem take_men {f p : Nat} {room : Int} (hf : 2 ≤ f) (n : Nat) : ∀ c, c ≤ p → ∃ a j, a ≤ p ∧ (a = p → j = 0) ∧ j ≤ ht f p + 1 ∧ (∀ l, l < j → EndN f p a l) ∧ (menL f p room c 0).take n = menL f p room a j
  | 0, _ => ⟨0, 0, by omega, fun _ => rfl, by omega, by omega, by simp [menL]⟩
  | c + 1, hc => by
    rw [menL_next]
    by_cases q : n ≤ (menL f p room c 0).length
    · rw [List.take_append_of_le_length q]
      exact take_men hf n c (by omega)
    · obtain ⟨J, k1, k2, k3, k4, k5⟩ := blk_J (room := room) hf (show c < p by omega)
      rw [List.take_append, List.take_of_length_le (by omega), k3, ← List.map_take, List.take_range]
      refine ⟨c, min (n - (menL f p room c 0).length) J, by omega, by omega, by omega, fun l hl => k4 l (by omega), ?_⟩
      unfold menL
      simp
theorem men_on {f p : Nat} {room : Int} (hf : 2 ≤ f) {c : Nat} (hc : c ≤ p) : ∀ m ∈ menL f p room c 0, OnT f p m.1 m.2.1 ∧ m.2.2.1 = room ∧ m.2.2.2 = 0 := by
  intro m hm
  unfold menL at hm
  rw [List.range_zero, List.map_nil, List.append_nil] at hm
  obtain ⟨a, ha, hm⟩ := List.mem_flatMap.mp hm
  unfold blkL at hm
  obtain ⟨l, hl, rfl⟩ := List.mem_map.mp hm
  have h1 := List.mem_range.mp (List.mem_filter.mp hl).1
  have h2 := List.mem_range.mp ha
  exact ⟨anc_on (l := l) hf (by omega) (by omega), rfl, rfl⟩
theorem men_len {f p : Nat} {room : Int} {c : Nat} : (menL f p room c 0).length ≤ c * (ht f p + 1) := by
  induction c with
  | zero => simp [menL]
  | succ c ih =>
    rw [menL_next, List.length_append, Nat.succ_mul]
    have : (blkL f p room c).length ≤ ht f p + 1 := by
      unfold blkL
      rw [List.length_map]
      exact Nat.le_trans (List.length_filter_le _ _) (by simp)
    omega
theorem st_safe {f p a j : Nat} {room : Int} {g : Nat → Nat → Int} (hf : 2 ≤ f) (hr : 0 ≤ room) (h : IsSt f p room a j g) : SafeT f p g := by
  intro l i ho
  obtain ⟨c, hc, e⟩ := mxs_mem (r := g l) (a := i * f) (ch_pos hf ho)
  have hch := ch_lt hf ho hc
  have e : due f p g (l + 1) i = g l (i * f + c) := e
  rw [e, h _ _ hch, h _ _ ho]
  have hin := (ch_in hf hc).2
  unfold stv
  by_cases q : hiN f p (l + 1) i ≤ (if l + 1 < j then a + 1 else a)
  · rw [if_pos q, if_pos (by split at q <;> split <;> omega)]
    exact Int.le_refl _
  · rw [if_neg q]
    split <;> omega
end DD

set_option Elab.async false
set_option linter.all false
set_option maxRecDepth 100000
set_option maxHeartbeats 4000000
/-! k30: the search that mends -/
namespace DD
open PySem PySem.Spec PyProof.Rows L2

theorem filt_head {P : Nat → Bool} {n j : Nat} (hj : j < n) (hp : P j = true) (hno : ∀ i, i < j → P i = false) : ∃ r, (List.range n).filter P = j :: r := by
  induction n with
  | zero => omega
  | succ n ih =>
    rw [List.range_succ, List.filter_append]
    by_cases q : j < n
    · obtain ⟨r, e⟩ := ih q
      rw [e]
      exact ⟨_, rfl⟩
    · have e : j = n := by omega
      subst e
      have : (List.range j).filter P = [] := List.filter_eq_nil_iff.mpr fun x hx => by simp [hno x (List.mem_range.mp hx)]
      rw [this]
      exact ⟨[], by simp [hp]⟩
theorem st_val {f p a j l i : Nat} {room need : Int} {g : Nat → Nat → Int} (h : IsSt f p room a j g) (ho : OnT f p l i) (h1 : 1 ≤ need) (h2 : need ≤ room) :
    need ≤ g l i ↔ ¬ hiN f p l i ≤ (if l < j then a + 1 else a) := by
  rw [h l i ho]
  unfold stv
  by_cases q : hiN f p l i ≤ (if l < j then a + 1 else a)
  · rw [if_pos q]; constructor
    · omega
    · intro z; exact absurd q z
  · rw [if_neg q]; exact ⟨fun _ => q, fun _ => h2⟩
/-- the walk down ends at the node whose turn it is -/
theorem st_down {f p a j : Nat} {room need : Int} {g : Nat → Nat → Int} (hf : 2 ≤ f) (ha : a < p) (h : IsSt f p room a j g) (h1 : 1 ≤ need) (h2 : need ≤ room) (he : EndN f p a j) :
    ∀ k, j + k ≤ ht f p → goD f p g need (j + k) (a / f ^ (j + k)) = (j, a / f ^ j)
  | 0, hk => by
    cases j with
    | zero => rfl
    | succ j =>
      have ho := anc_on hf ha (show j + 1 ≤ ht f p by omega)
      have he' : hiN f p (j + 1) (a / f ^ (j + 1)) = a + 1 := he
      rw [Nat.add_zero, goD]
      have : (List.range (chN f p (j + 1) (a / f ^ (j + 1)))).filter (fun c => decide (need ≤ g j (a / f ^ (j + 1) * f + c))) = [] := List.filter_eq_nil_iff.mpr fun c hc => by
        have hc := List.mem_range.mp hc
        rw [decide_eq_true_eq, st_val h (ch_lt hf ho hc) h1 h2, if_pos (by omega)]
        have := (ch_in hf hc).2
        omega
      rw [this]
  | k + 1, hk => by
    have ho := anc_on hf ha (show j + k + 1 ≤ ht f p by omega)
    show goD f p g need (j + k + 1) (a / f ^ (j + k + 1)) = _
    rw [goD]
    have hb := anc_on hf ha (show j + k ≤ ht f p by omega)
    have e1 : a / f ^ (j + k + 1) = a / f ^ (j + k) / f := by rw [Nat.pow_succ, Nat.div_div_eq_div_mul]
    have hle := Nat.div_mul_le_self (a / f ^ (j + k)) f
    have hlt : a / f ^ (j + k) < a / f ^ (j + k) / f * f + f := by
      have := anc_up (f := f) (a := a / f ^ (j + k)) (l := 1) hf
      rw [Nat.pow_one, Nat.succ_mul] at this
      exact this
    have hup := anc_hi (l := j + k) hf ha
    have hlo := anc_lo (f := f) (a := a) (l := j + k)
    have f1 : a / f ^ (j + k) - a / f ^ (j + k) / f * f < chN f p (j + k + 1) (a / f ^ (j + k + 1)) := by
      rw [e1]
      have := hb.2
      unfold chN
      rw [if_neg (by omega)]
      simp only [Nat.add_sub_cancel]
      omega
    have e3 : a / f ^ (j + k) / f * f + (a / f ^ (j + k) - a / f ^ (j + k) / f * f) = a / f ^ (j + k) := by omega
    have f2 : decide (need ≤ g (j + k) (a / f ^ (j + k + 1) * f + (a / f ^ (j + k) - a / f ^ (j + k) / f * f))) = true := by
      rw [e1, e3, decide_eq_true_eq, st_val h hb h1 h2, if_neg (by omega)]
      omega
    have f3 : ∀ c, c < a / f ^ (j + k) - a / f ^ (j + k) / f * f → decide (need ≤ g (j + k) (a / f ^ (j + k + 1) * f + c)) = false := by
      intro c hc
      have hj : c < chN f p (j + k + 1) (a / f ^ (j + k + 1)) := by omega
      have hoc := ch_lt hf ho hj
      rw [decide_eq_false_iff_not, st_val h hoc h1 h2, if_neg (by omega)]
      rw [e1]
      have h3 : (a / f ^ (j + k) / f * f + c + 1) * f ^ (j + k) ≤ a / f ^ (j + k) * f ^ (j + k) := Nat.mul_le_mul_right _ (by omega)
      unfold loN at hlo
      unfold hiN
      omega
    obtain ⟨r, e⟩ := filt_head (P := fun c => decide (need ≤ g (j + k) (a / f ^ (j + k + 1) * f + c))) f1 f2 f3
    rw [e]
    simp only
    rw [e1, e3]
    exact st_down hf ha h h1 h2 he k (by omega)
theorem st_gdown {f p a j : Nat} {room need : Int} {g : Nat → Nat → Int} (hf : 2 ≤ f) (ha : a < p) (h : IsSt f p room a j g) (h1 : 1 ≤ need) (h2 : need ≤ room) (hj : j ≤ ht f p) (he : EndN f p a j) :
    gdown f p g need = some (j, a / f ^ j) := by
  have htop := top_on (f := f) (p := p) hf (by omega)
  have e0 : a / f ^ ht f p = 0 := Nat.div_eq_of_lt (by have := ht_top (p := p) hf; omega)
  unfold gdown
  rw [if_neg]
  · have := st_down hf ha h h1 h2 he (ht f p - j) (by omega)
    rw [show j + (ht f p - j) = ht f p by omega, e0] at this
    rw [this]
  · rintro (z | z)
    · omega
    · have : need ≤ g (ht f p) 0 := (st_val h htop h1 h2).mpr (by
        rw [if_neg (by omega)]
        have := anc_hi (l := ht f p) hf ha
        rw [e0] at this
        omega)
      omega
theorem st_due {f p a j : Nat} {room : Int} {g : Nat → Nat → Int} (hf : 2 ≤ f) (ha : a < p) (h : IsSt f p room a (j + 1) g) (hj : j + 1 ≤ ht f p) (he : EndN f p a (j + 1)) : due f p g (j + 1) (a / f ^ (j + 1)) = 0 := by
  have ho := anc_on hf ha hj
  have he' : hiN f p (j + 1) (a / f ^ (j + 1)) = a + 1 := he
  refine mxs_const (ch_pos hf ho) fun c hc => ?_
  show g j _ = 0
  rw [h _ _ (ch_lt hf ho hc), stv_lt (by omega), if_pos]
  have := (ch_in hf hc).2
  omega
/-- the search from a state on -/
theorem seek_run {f p pg : Nat} {room need : Int} {r : Nat → Int} {g0 : Nat → Nat → Int} (hf : 2 ≤ f) (hp : 0 < p) (hpg : pg ≤ p) (h1 : 1 ≤ need) (h2 : need ≤ room) (hr : ∀ i, i < p → r i = if pg ≤ i then room else 0) :
    ∀ n a j g, a ≤ pg → (a = pg → j = 0) → j ≤ ht f p + 1 → (∀ l, l < j → EndN f p a l) → IsSt f p room a j g → g = doAll g0 ((menL f p room a j).map wrM) → (pg - a) * (ht f p + 2) < n + j →
      seekRun f p r need n g (menL f p room a j) = some (if pg < p then some pg else none, doAll g0 ((menL f p room pg 0).map wrM), menL f p room pg 0) := by
  intro n
  induction n with
  | zero =>
    intro a j g ha hz hj _ _ _ hlt
    exfalso
    by_cases q : a = pg
    · have := hz q; omega
    · have : 1 * (ht f p + 2) ≤ (pg - a) * (ht f p + 2) := Nat.mul_le_mul_right _ (by omega)
      omega
  | succ n ih =>
    -- at the page itself
    have fin : ∀ g, IsSt f p room pg 0 g → g = doAll g0 ((menL f p room pg 0).map wrM) → seekRun f p r need (n + 1) g (menL f p room pg 0) = some (if pg < p then some pg else none, doAll g0 ((menL f p room pg 0).map wrM), menL f p room pg 0) := by
      intro g hs hg
      rw [seekRun]
      by_cases q : pg < p
      · rw [st_gdown hf q hs h1 h2 (Nat.zero_le _) (end_0 q)]
        simp only [Nat.pow_zero, Nat.div_one]
        rw [if_pos ⟨trivial, by rw [hr pg q, if_pos (Nat.le_refl _)]; exact h2⟩, if_pos q, ← hg]
      · have e : pg = p := by omega
        have : gdown f p g need = none := by
          unfold gdown
          rw [if_pos]
          right
          have htop := top_on (f := f) (p := p) hf (by omega)
          rw [hs _ _ htop, stv_ge (by omega), if_pos]
          · omega
          · unfold hiN; omega
        rw [this, if_neg q, ← hg]
    -- a turn
    have turn : ∀ a j g, a < pg → j ≤ ht f p → EndN f p a j → (∀ l, l < j → EndN f p a l) → IsSt f p room a j g → g = doAll g0 ((menL f p room a j).map wrM) → (pg - a) * (ht f p + 2) < n + 1 + j →
        seekRun f p r need (n + 1) g (menL f p room a j) = some (if pg < p then some pg else none, doAll g0 ((menL f p room pg 0).map wrM), menL f p room pg 0) := by
      intro a j g ha hj he hl hs hg hlt
      have hap : a < p := by omega
      have hon := anc_on hf hap hj
      have e1 : g j (a / f ^ j) = room := by
        have he' : hiN f p j (a / f ^ j) = a + 1 := he
        rw [hs _ _ hon, stv_ge (by omega), if_neg (by omega)]
      have e2 : nowOf f p r g j (a / f ^ j) = 0 := by
        unfold nowOf
        cases j with
        | zero =>
          rw [if_pos rfl, Nat.pow_zero, Nat.div_one, hr a hap, if_neg (by omega)]
        | succ j => rw [if_neg (by omega), st_due hf hap hs hj he]
      rw [seekRun, st_gdown hf hap hs h1 h2 hj he]
      simp only
      rw [if_neg, e1, e2]
      · have := ih a (j + 1) (put g j (a / f ^ j) 0) (by omega) (by omega) (by omega) (fun l hl2 => by
          by_cases z : l = j
          · rw [z]; exact he
          · exact hl l (by omega)) (st_step hf hs he) (by rw [menL_step, List.map_append, List.map_singleton, doAll_snoc, ← hg]) (by omega)
        rw [menL_step] at this
        exact this
      · rintro ⟨z1, z2⟩
        subst z1
        rw [Nat.pow_zero, Nat.div_one, hr a hap, if_neg (by omega)] at z2
        omega
    intro a j g ha hz hj hl hs hg hlt
    by_cases q : a = pg
    · have := hz q
      subst this q
      exact fin g hs hg
    · by_cases q2 : j ≤ ht f p ∧ EndN f p a j
      · exact turn a j g (by omega) q2.1 q2.2 hl hs hg hlt
      · have hap : a < p := by omega
        have hs2 := st_norm hf hap hs q2
        have em := menL_norm (room := room) hf hap hj hl q2
        rw [em] at hg ⊢
        have hm : (pg - a) * (ht f p + 2) = (pg - (a + 1)) * (ht f p + 2) + (ht f p + 2) := by
          rw [← Nat.succ_mul]; congr 1; omega
        by_cases q3 : a + 1 = pg
        · rw [q3] at hs2 hg ⊢
          exact fin g hs2 hg
        · exact turn (a + 1) 0 g (by omega) (Nat.zero_le _) (end_0 (by omega)) (by omega) hs2 hg (by omega)
end DD

set_option Elab.async false
set_option linter.all false
set_option maxRecDepth 100000
set_option maxHeartbeats 4000000
/-! k30: the law's own defs -/
namespace DD
open PySem PySem.Spec PyProof.Rows L2

theorem rep_tab {n : Nat} {x : D} : (List.replicate n [x]).flatten = tab n fun _ => x := by
  induction n with
  | zero => rfl
  | succ n ih =>
    rw [List.replicate_succ', List.flatten_append, ih, ← tab_snoc]; simp
theorem eqv_tab {n : Nat} {F G : Nat → Int} (h1 : Bd n F) (h2 : Bd n G) {b : Bool} (h : b = true ↔ ∀ i, i < n → F i = G i) : PyData.eqv (dRow n F) (dRow n G) = b := by
  refine gd_eqv_of (gd_row h1) (gd_row h2) (h.trans ⟨fun e => ?_, fun e i hi => ?_⟩)
  · unfold dRow; rw [tab_congr fun i hi => by rw [e i hi]]
  · exact PyData.int.inj (tab_inj (PyData.list.inj e) i hi)

def sp_law_mends (ds : List D) (Q : D → Prop) : Prop := ∃ (f p pg : Nat) (room : Int), Shp f p ∧ p ≤ 512 ∧ pg ≤ p ∧ ds = [.int (p : Int), .int (f : Int), .int room, .int (pg : Int)] ∧ Q (.list ((menL f p room pg 0).map dM))
def w_law_mends : DS := (sSeq (sParL 5 6 (eLst aNil) (eCall 2 sp_law_sizes (aCons (eVar 0) (aCons (eVar 1) aNil)))) (sSeq (sFor (iRg1 (aCons (eVar 3) aNil)) (gSet 4) (sSeq (sApp 5 (eTup (aCons (eC (.int 0)) (aCons (eVar 4) (aCons (eVar 2) (aCons (eC (.int 0)) aNil)))))) (sFor (iRg2 (aCons (eC (.int 1)) (aCons (eN fLen (aCons (eVar 6) aNil)) aNil))) (gSet 7) (sSeq (sSet 8 (e2 fDiv (eN fInt (aCons (eVar 4) aNil)) (eCall 2 sp_law_power (aCons (eVar 1) (aCons (eVar 7) aNil))))) (sSeq (sSet 9 (eLc [10] (iRg1 (aCons (e2 fAdd (eVar 7) (eC (.int 1))) aNil)) (gSet 10) tYesD (e2 fIx (eCall 4 sp_law_span (aCons (eVar 0) (aCons (eVar 1) (aCons (eVar 10) (aCons (e2 fDiv (eN fInt (aCons (eVar 4) aNil)) (eCall 2 sp_law_power (aCons (eVar 1) (aCons (eVar 10) aNil)))) aNil))))) (eC (.int 1))))) (sIf (tBool (e2 fEq (eVar 9) (e2 fMul (eLst (aCons (e2 fAdd (eVar 4) (eC (.int 1))) aNil)) (e2 fAdd (eVar 7) (eC (.int 1)))))) (sApp 5 (eTup (aCons (eVar 7) (aCons (eVar 8) (aCons (eVar 2) (aCons (eC (.int 0)) aNil)))))) sNx)))))) (sRet (eVar 5))))
theorem m_law_mends : ∀ ds Q, ds.length = 4 → sp_law_mends ds Q → w_law_mends (endsP false Q) (rho0 ds 7) := by
  rintro ds Q - ⟨f, p, pg, room, S, hp5, hpg, rfl, q⟩
  have hf := S.f2
  have fb := S.fb
  have h20 := S.ht20
  simp only [w_law_mends, sParL, sSeq, sIf, sSet, sSetL, sAsg, sRet, sRetV, sRetL, sRetN, sNx, sBk, sCt, sApp, sExt, sExpr, sFor, sPar, sParL, sPut, gSet, gNilD, gConsD, gTupD, tBool, tNotD, tAndD, tOrD, tYesD, e1, e2, eN, eC, eVar, eIxO, aNil, aCons, eTup, eLst, eFlat, eIf, eChain, eAnd, eOr, eNot, eSl, pNone, pSome, eCall, eCallI, eCallS, iLst, iRg1, iRg2, iRg3, iZipD, iEnumD, sPut2, sSet2, eLc, wipeR, restR, fAdd_i, fAdd_l, fSub_i, fMul_i, fMul_l, fRep_l, fDiv_i, fMod_i, fPow_i, fNeg_i, fCmp_i, fLt, fLe, fGt, fGe, fLen_l, fLen_t, fInt_i, fInt_b, fAbs_i, fMax_i, fMax_l, fMin_i, fSum_l, fList_l, fList_t, fRev_l, fSl_l, fIx_l, fIx_t, fIs_n, fIsNot_n, fIs_b, fIsNot_b, isNone_n, isNone_i, isNone_l, isNone_t, isT_tt, isT_ii, isT_bi, isT_ll, fIsT, fEq, fNe, eqOk_i, eqOk_s, eqOk_l, eqOk_t, eqOk_n, eqv_nil, eqv_int, List.isEmpty_nil, List.isEmpty_cons, eq_self, atI_0, atI_1, atI_2, atI_3, atI_last, exists_eq', Int.cast_ofNat_Int, tab_len, endsP, endsI, rho0, List.set_cons_zero, List.set_cons_succ, List.getElem?_cons_zero, List.getElem?_cons_succ, Option.some.injEq, List.cons.injEq, exists_eq_left', exists_eq, and_assoc, exists_and_left, true_and, and_true, id_eq, List.map_cons, List.map_nil, List.replicate_succ, List.replicate_zero, List.cons_append, List.nil_append, List.length_cons, List.length_nil, PyData.bool.injEq, PyData.int.injEq, PyData.list.injEq, PyData.tuple.injEq, Bool.not_true, Bool.not_false, Bool.false_eq_true, if_true, if_false, ite_true, ite_false, decide_eq_true_eq, Nat.zero_add, Nat.zero_le, Nat.reduceAdd, Nat.reduceSub, Option.join, Option.bind_some, List.getElem?_nil]
  refine ⟨p, f, S, hp5, rfl, ?_⟩
  simp only [sSeq, sIf, sSet, sSetL, sAsg, sRet, sRetV, sRetL, sRetN, sNx, sBk, sCt, sApp, sExt, sExpr, sFor, sPar, sParL, sPut, gSet, gNilD, gConsD, gTupD, tBool, tNotD, tAndD, tOrD, tYesD, e1, e2, eN, eC, eVar, eIxO, aNil, aCons, eTup, eLst, eFlat, eIf, eChain, eAnd, eOr, eNot, eSl, pNone, pSome, eCall, eCallI, eCallS, iLst, iRg1, iRg2, iRg3, iZipD, iEnumD, sPut2, sSet2, eLc, wipeR, restR, fAdd_i, fAdd_l, fSub_i, fMul_i, fMul_l, fRep_l, fDiv_i, fMod_i, fPow_i, fNeg_i, fCmp_i, fLt, fLe, fGt, fGe, fLen_l, fLen_t, fInt_i, fInt_b, fAbs_i, fMax_i, fMax_l, fMin_i, fSum_l, fList_l, fList_t, fRev_l, fSl_l, fIx_l, fIx_t, fIs_n, fIsNot_n, fIs_b, fIsNot_b, isNone_n, isNone_i, isNone_l, isNone_t, isT_tt, isT_ii, isT_bi, isT_ll, fIsT, fEq, fNe, eqOk_i, eqOk_s, eqOk_l, eqOk_t, eqOk_n, eqv_nil, eqv_int, List.isEmpty_nil, List.isEmpty_cons, eq_self, atI_0, atI_1, atI_2, atI_3, atI_last, exists_eq', Int.cast_ofNat_Int, tab_len, endsP, endsI, rho0, List.set_cons_zero, List.set_cons_succ, List.getElem?_cons_zero, List.getElem?_cons_succ, Option.some.injEq, List.cons.injEq, exists_eq_left', exists_eq, and_assoc, exists_and_left, true_and, and_true, id_eq, List.map_cons, List.map_nil, List.replicate_succ, List.replicate_zero, List.cons_append, List.nil_append, List.length_cons, List.length_nil, PyData.bool.injEq, PyData.int.injEq, PyData.list.injEq, PyData.tuple.injEq, Bool.not_true, Bool.not_false, Bool.false_eq_true, if_true, if_false, ite_true, ite_false, decide_eq_true_eq, Nat.zero_add, Nat.zero_le, Nat.reduceAdd, Nat.reduceSub, Option.join, Option.bind_some, List.getElem?_nil]
  refine ⟨by omega, by omega, ?_⟩
  rw [Int.toNat_natCast, rngD_tab]
  refine forGo_tab _ _ (fun a ρ => ∃ x y z u v, ρ = [some (.int (p : Int)), some (.int (f : Int)), some (.int room), some (.int (pg : Int)), x, some (.list ((menL f p room a 0).map dM)), some (dLv f p), y, z, u, v]) ⟨none, none, none, none, none, rfl⟩ ?_ ?_
  · rintro ρ ⟨x, y, z, u, v, rfl⟩
    simp only [sSeq, sIf, sSet, sSetL, sAsg, sRet, sRetV, sRetL, sRetN, sNx, sBk, sCt, sApp, sExt, sExpr, sFor, sPar, sParL, sPut, gSet, gNilD, gConsD, gTupD, tBool, tNotD, tAndD, tOrD, tYesD, e1, e2, eN, eC, eVar, eIxO, aNil, aCons, eTup, eLst, eFlat, eIf, eChain, eAnd, eOr, eNot, eSl, pNone, pSome, eCall, eCallI, eCallS, iLst, iRg1, iRg2, iRg3, iZipD, iEnumD, sPut2, sSet2, eLc, wipeR, restR, fAdd_i, fAdd_l, fSub_i, fMul_i, fMul_l, fRep_l, fDiv_i, fMod_i, fPow_i, fNeg_i, fCmp_i, fLt, fLe, fGt, fGe, fLen_l, fLen_t, fInt_i, fInt_b, fAbs_i, fMax_i, fMax_l, fMin_i, fSum_l, fList_l, fList_t, fRev_l, fSl_l, fIx_l, fIx_t, fIs_n, fIsNot_n, fIs_b, fIsNot_b, isNone_n, isNone_i, isNone_l, isNone_t, isT_tt, isT_ii, isT_bi, isT_ll, fIsT, fEq, fNe, eqOk_i, eqOk_s, eqOk_l, eqOk_t, eqOk_n, eqv_nil, eqv_int, List.isEmpty_nil, List.isEmpty_cons, eq_self, atI_0, atI_1, atI_2, atI_3, atI_last, exists_eq', Int.cast_ofNat_Int, tab_len, endsP, endsI, rho0, List.set_cons_zero, List.set_cons_succ, List.getElem?_cons_zero, List.getElem?_cons_succ, Option.some.injEq, List.cons.injEq, exists_eq_left', exists_eq, and_assoc, exists_and_left, true_and, and_true, id_eq, List.map_cons, List.map_nil, List.replicate_succ, List.replicate_zero, List.cons_append, List.nil_append, List.length_cons, List.length_nil, PyData.bool.injEq, PyData.int.injEq, PyData.list.injEq, PyData.tuple.injEq, Bool.not_true, Bool.not_false, Bool.false_eq_true, if_true, if_false, ite_true, ite_false, decide_eq_true_eq, Nat.zero_add, Nat.zero_le, Nat.reduceAdd, Nat.reduceSub, Option.join, Option.bind_some, List.getElem?_nil]
    exact q
  · rintro a ha ρ ⟨x, y, z, u, v, rfl⟩ nx hnx
    have hap : a < p := by omega
    have hl1 := men_len (f := f) (p := p) (room := room) (c := a)
    have hl2 : a * (ht f p + 1) ≤ 512 * 21 := Nat.mul_le_mul (by omega) (by omega)
    have h512 : 512 * 21 + 64 < sizeLine := by decide
    simp only [dLv, sSeq, sIf, sSet, sSetL, sAsg, sRet, sRetV, sRetL, sRetN, sNx, sBk, sCt, sApp, sExt, sExpr, sFor, sPar, sParL, sPut, gSet, gNilD, gConsD, gTupD, tBool, tNotD, tAndD, tOrD, tYesD, e1, e2, eN, eC, eVar, eIxO, aNil, aCons, eTup, eLst, eFlat, eIf, eChain, eAnd, eOr, eNot, eSl, pNone, pSome, eCall, eCallI, eCallS, iLst, iRg1, iRg2, iRg3, iZipD, iEnumD, sPut2, sSet2, eLc, wipeR, restR, fAdd_i, fAdd_l, fSub_i, fMul_i, fMul_l, fRep_l, fDiv_i, fMod_i, fPow_i, fNeg_i, fCmp_i, fLt, fLe, fGt, fGe, fLen_l, fLen_t, fInt_i, fInt_b, fAbs_i, fMax_i, fMax_l, fMin_i, fSum_l, fList_l, fList_t, fRev_l, fSl_l, fIx_l, fIx_t, fIs_n, fIsNot_n, fIs_b, fIsNot_b, isNone_n, isNone_i, isNone_l, isNone_t, isT_tt, isT_ii, isT_bi, isT_ll, fIsT, fEq, fNe, eqOk_i, eqOk_s, eqOk_l, eqOk_t, eqOk_n, eqv_nil, eqv_int, List.isEmpty_nil, List.isEmpty_cons, eq_self, atI_0, atI_1, atI_2, atI_3, atI_last, exists_eq', Int.cast_ofNat_Int, tab_len, endsP, endsI, rho0, List.set_cons_zero, List.set_cons_succ, List.getElem?_cons_zero, List.getElem?_cons_succ, Option.some.injEq, List.cons.injEq, exists_eq_left', exists_eq, and_assoc, exists_and_left, true_and, and_true, id_eq, List.map_cons, List.map_nil, List.replicate_succ, List.replicate_zero, List.cons_append, List.nil_append, List.length_cons, List.length_nil, PyData.bool.injEq, PyData.int.injEq, PyData.list.injEq, PyData.tuple.injEq, Bool.not_true, Bool.not_false, Bool.false_eq_true, if_true, if_false, ite_true, ite_false, decide_eq_true_eq, Nat.zero_add, Nat.zero_le, Nat.reduceAdd, Nat.reduceSub, Option.join, Option.bind_some, List.getElem?_nil]
    refine ⟨by decide, by rw [List.length_map]; omega, by omega, by omega, by omega, by have := lvN_le S; omega, ?_⟩
    rw [rng1]
    refine forGo_tab _ _ (fun m ρ => ∃ y z u v, ρ = [some (.int (p : Int)), some (.int (f : Int)), some (.int room), some (.int (pg : Int)), some (.int (a : Int)), some (.list ((menL f p room a 0 ++ ((List.range (m + 1)).filter fun l => decide (EndN f p a l)).map (ndM f room a)).map dM)), some (dLv f p), y, z, u, v]) ⟨y, z, u, v, ?_⟩ ?_ ?_
    · have : (List.range 1).filter (fun l => decide (EndN f p a l)) = [0] := by
        have e := end_0 (f := f) hap
        simp only [List.range_succ, List.range_zero, List.nil_append]
        rw [List.filter_cons, if_pos (decide_eq_true e)]; rfl
      rw [this]
      simp
      rfl
    · rintro ρ ⟨y, z, u, v, rfl⟩
      refine hnx _ ⟨some (.int (a : Int)), y, z, u, v, ?_⟩
      rw [menL_next, lvN_pos (by omega), Nat.add_sub_cancel]
      rfl
    · rintro m hm ρ ⟨y, z, u, v, rfl⟩ nx2 hnx2
      have hmh : m + 1 ≤ ht f p := by rw [lvN_pos (by omega)] at hm; omega
      have hpw : ∀ b, b ≤ m + 1 → f ^ b ≤ 2 ^ 40 := fun b hb => S.pw (by omega)
      have hpp : ∀ b, 0 < f ^ b := fun b => pw_pos hf
      have hdv : ∀ b, (a : Int) / ((f ^ b : Nat) : Int) = ((a / f ^ b : Nat) : Int) := fun b => by rw [Int.natCast_ediv]
      have hdb : ∀ b, a / f ^ b ≤ a := fun b => Nat.div_le_self _ _
      simp only [sSeq, sIf, sSet, sSetL, sAsg, sRet, sRetV, sRetL, sRetN, sNx, sBk, sCt, sApp, sExt, sExpr, sFor, sPar, sParL, sPut, gSet, gNilD, gConsD, gTupD, tBool, tNotD, tAndD, tOrD, tYesD, e1, e2, eN, eC, eVar, eIxO, aNil, aCons, eTup, eLst, eFlat, eIf, eChain, eAnd, eOr, eNot, eSl, pNone, pSome, eCall, eCallI, eCallS, iLst, iRg1, iRg2, iRg3, iZipD, iEnumD, sPut2, sSet2, eLc, wipeR, restR, fAdd_i, fAdd_l, fSub_i, fMul_i, fMul_l, fRep_l, fDiv_i, fMod_i, fPow_i, fNeg_i, fCmp_i, fLt, fLe, fGt, fGe, fLen_l, fLen_t, fInt_i, fInt_b, fAbs_i, fMax_i, fMax_l, fMin_i, fSum_l, fList_l, fList_t, fRev_l, fSl_l, fIx_l, fIx_t, fIs_n, fIsNot_n, fIs_b, fIsNot_b, isNone_n, isNone_i, isNone_l, isNone_t, isT_tt, isT_ii, isT_bi, isT_ll, fIsT, fEq, fNe, eqOk_i, eqOk_s, eqOk_l, eqOk_t, eqOk_n, eqv_nil, eqv_int, List.isEmpty_nil, List.isEmpty_cons, eq_self, atI_0, atI_1, atI_2, atI_3, atI_last, exists_eq', Int.cast_ofNat_Int, tab_len, endsP, endsI, rho0, List.set_cons_zero, List.set_cons_succ, List.getElem?_cons_zero, List.getElem?_cons_succ, Option.some.injEq, List.cons.injEq, exists_eq_left', exists_eq, and_assoc, exists_and_left, true_and, and_true, id_eq, List.map_cons, List.map_nil, List.replicate_succ, List.replicate_zero, List.cons_append, List.nil_append, List.length_cons, List.length_nil, PyData.bool.injEq, PyData.int.injEq, PyData.list.injEq, PyData.tuple.injEq, Bool.not_true, Bool.not_false, Bool.false_eq_true, if_true, if_false, ite_true, ite_false, decide_eq_true_eq, Nat.zero_add, Nat.zero_le, Nat.reduceAdd, Nat.reduceSub, Option.join, Option.bind_some, List.getElem?_nil]
      refine ⟨f, m + 1, by omega, Nat.le_trans (hpw _ (Nat.le_refl _)) (by decide), Nat.le_trans fb (by decide), by omega, rfl, ?_⟩
      have hw := hpw (m + 1) (Nat.le_refl _)
      have hw0 := hpp (m + 1)
      simp only [sSeq, sIf, sSet, sSetL, sAsg, sRet, sRetV, sRetL, sRetN, sNx, sBk, sCt, sApp, sExt, sExpr, sFor, sPar, sParL, sPut, gSet, gNilD, gConsD, gTupD, tBool, tNotD, tAndD, tOrD, tYesD, e1, e2, eN, eC, eVar, eIxO, aNil, aCons, eTup, eLst, eFlat, eIf, eChain, eAnd, eOr, eNot, eSl, pNone, pSome, eCall, eCallI, eCallS, iLst, iRg1, iRg2, iRg3, iZipD, iEnumD, sPut2, sSet2, eLc, wipeR, restR, fAdd_i, fAdd_l, fSub_i, fMul_i, fMul_l, fRep_l, fDiv_i, fMod_i, fPow_i, fNeg_i, fCmp_i, fLt, fLe, fGt, fGe, fLen_l, fLen_t, fInt_i, fInt_b, fAbs_i, fMax_i, fMax_l, fMin_i, fSum_l, fList_l, fList_t, fRev_l, fSl_l, fIx_l, fIx_t, fIs_n, fIsNot_n, fIs_b, fIsNot_b, isNone_n, isNone_i, isNone_l, isNone_t, isT_tt, isT_ii, isT_bi, isT_ll, fIsT, fEq, fNe, eqOk_i, eqOk_s, eqOk_l, eqOk_t, eqOk_n, eqv_nil, eqv_int, List.isEmpty_nil, List.isEmpty_cons, eq_self, atI_0, atI_1, atI_2, atI_3, atI_last, exists_eq', Int.cast_ofNat_Int, tab_len, endsP, endsI, rho0, List.set_cons_zero, List.set_cons_succ, List.getElem?_cons_zero, List.getElem?_cons_succ, Option.some.injEq, List.cons.injEq, exists_eq_left', exists_eq, and_assoc, exists_and_left, true_and, and_true, id_eq, List.map_cons, List.map_nil, List.replicate_succ, List.replicate_zero, List.cons_append, List.nil_append, List.length_cons, List.length_nil, PyData.bool.injEq, PyData.int.injEq, PyData.list.injEq, PyData.tuple.injEq, Bool.not_true, Bool.not_false, Bool.false_eq_true, if_true, if_false, ite_true, ite_false, decide_eq_true_eq, Nat.zero_add, Nat.zero_le, Nat.reduceAdd, Nat.reduceSub, Option.join, Option.bind_some, List.getElem?_nil]
      refine ⟨divW (by omega) (by omega), by omega, by omega, ?_⟩
      rw [hdv, show ((m + 1 : Nat) : Int) + 1 = ((m + 2 : Nat) : Int) by omega, Int.toNat_natCast, rngD_tab]
      refine lcGo_onm (List.range (m + 2)) _ (fun b => .int (hiN f p b (a / f ^ b) : Int)) [] (by simp; exact Nat.le_trans (show m + 2 ≤ 64 by omega) (by decide)) ?_ ?_
      · intro b hb K Fl hK
        have hb := List.mem_range.mp hb
        have hwb := hpw b (by omega)
        have hwb0 := hpp b
        simp only [sSeq, sIf, sSet, sSetL, sAsg, sRet, sRetV, sRetL, sRetN, sNx, sBk, sCt, sApp, sExt, sExpr, sFor, sPar, sParL, sPut, gSet, gNilD, gConsD, gTupD, tBool, tNotD, tAndD, tOrD, tYesD, e1, e2, eN, eC, eVar, eIxO, aNil, aCons, eTup, eLst, eFlat, eIf, eChain, eAnd, eOr, eNot, eSl, pNone, pSome, eCall, eCallI, eCallS, iLst, iRg1, iRg2, iRg3, iZipD, iEnumD, sPut2, sSet2, eLc, wipeR, restR, fAdd_i, fAdd_l, fSub_i, fMul_i, fMul_l, fRep_l, fDiv_i, fMod_i, fPow_i, fNeg_i, fCmp_i, fLt, fLe, fGt, fGe, fLen_l, fLen_t, fInt_i, fInt_b, fAbs_i, fMax_i, fMax_l, fMin_i, fSum_l, fList_l, fList_t, fRev_l, fSl_l, fIx_l, fIx_t, fIs_n, fIsNot_n, fIs_b, fIsNot_b, isNone_n, isNone_i, isNone_l, isNone_t, isT_tt, isT_ii, isT_bi, isT_ll, fIsT, fEq, fNe, eqOk_i, eqOk_s, eqOk_l, eqOk_t, eqOk_n, eqv_nil, eqv_int, List.isEmpty_nil, List.isEmpty_cons, eq_self, atI_0, atI_1, atI_2, atI_3, atI_last, exists_eq', Int.cast_ofNat_Int, tab_len, endsP, endsI, rho0, List.set_cons_zero, List.set_cons_succ, List.getElem?_cons_zero, List.getElem?_cons_succ, Option.some.injEq, List.cons.injEq, exists_eq_left', exists_eq, and_assoc, exists_and_left, true_and, and_true, id_eq, List.map_cons, List.map_nil, List.replicate_succ, List.replicate_zero, List.cons_append, List.nil_append, List.length_cons, List.length_nil, PyData.bool.injEq, PyData.int.injEq, PyData.list.injEq, PyData.tuple.injEq, Bool.not_true, Bool.not_false, Bool.false_eq_true, if_true, if_false, ite_true, ite_false, decide_eq_true_eq, Nat.zero_add, Nat.zero_le, Nat.reduceAdd, Nat.reduceSub, Option.join, Option.bind_some, List.getElem?_nil]
        refine ⟨f, b, by omega, Nat.le_trans hwb (by decide), Nat.le_trans fb (by decide), by omega, rfl, ?_⟩
        simp only [sSeq, sIf, sSet, sSetL, sAsg, sRet, sRetV, sRetL, sRetN, sNx, sBk, sCt, sApp, sExt, sExpr, sFor, sPar, sParL, sPut, gSet, gNilD, gConsD, gTupD, tBool, tNotD, tAndD, tOrD, tYesD, e1, e2, eN, eC, eVar, eIxO, aNil, aCons, eTup, eLst, eFlat, eIf, eChain, eAnd, eOr, eNot, eSl, pNone, pSome, eCall, eCallI, eCallS, iLst, iRg1, iRg2, iRg3, iZipD, iEnumD, sPut2, sSet2, eLc, wipeR, restR, fAdd_i, fAdd_l, fSub_i, fMul_i, fMul_l, fRep_l, fDiv_i, fMod_i, fPow_i, fNeg_i, fCmp_i, fLt, fLe, fGt, fGe, fLen_l, fLen_t, fInt_i, fInt_b, fAbs_i, fMax_i, fMax_l, fMin_i, fSum_l, fList_l, fList_t, fRev_l, fSl_l, fIx_l, fIx_t, fIs_n, fIsNot_n, fIs_b, fIsNot_b, isNone_n, isNone_i, isNone_l, isNone_t, isT_tt, isT_ii, isT_bi, isT_ll, fIsT, fEq, fNe, eqOk_i, eqOk_s, eqOk_l, eqOk_t, eqOk_n, eqv_nil, eqv_int, List.isEmpty_nil, List.isEmpty_cons, eq_self, atI_0, atI_1, atI_2, atI_3, atI_last, exists_eq', Int.cast_ofNat_Int, tab_len, endsP, endsI, rho0, List.set_cons_zero, List.set_cons_succ, List.getElem?_cons_zero, List.getElem?_cons_succ, Option.some.injEq, List.cons.injEq, exists_eq_left', exists_eq, and_assoc, exists_and_left, true_and, and_true, id_eq, List.map_cons, List.map_nil, List.replicate_succ, List.replicate_zero, List.cons_append, List.nil_append, List.length_cons, List.length_nil, PyData.bool.injEq, PyData.int.injEq, PyData.list.injEq, PyData.tuple.injEq, Bool.not_true, Bool.not_false, Bool.false_eq_true, if_true, if_false, ite_true, ite_false, decide_eq_true_eq, Nat.zero_add, Nat.zero_le, Nat.reduceAdd, Nat.reduceSub, Option.join, Option.bind_some, List.getElem?_nil]
        refine ⟨divW (by omega) (by omega), ?_⟩
        rw [hdv]
        have := hdb b
        refine ⟨p, f, b, a / f ^ b, by omega, Nat.le_trans fb (by decide), Nat.le_trans hwb (by decide), by omega, by omega, rfl, ?_⟩
        simp only [sSeq, sIf, sSet, sSetL, sAsg, sRet, sRetV, sRetL, sRetN, sNx, sBk, sCt, sApp, sExt, sExpr, sFor, sPar, sParL, sPut, gSet, gNilD, gConsD, gTupD, tBool, tNotD, tAndD, tOrD, tYesD, e1, e2, eN, eC, eVar, eIxO, aNil, aCons, eTup, eLst, eFlat, eIf, eChain, eAnd, eOr, eNot, eSl, pNone, pSome, eCall, eCallI, eCallS, iLst, iRg1, iRg2, iRg3, iZipD, iEnumD, sPut2, sSet2, eLc, wipeR, restR, fAdd_i, fAdd_l, fSub_i, fMul_i, fMul_l, fRep_l, fDiv_i, fMod_i, fPow_i, fNeg_i, fCmp_i, fLt, fLe, fGt, fGe, fLen_l, fLen_t, fInt_i, fInt_b, fAbs_i, fMax_i, fMax_l, fMin_i, fSum_l, fList_l, fList_t, fRev_l, fSl_l, fIx_l, fIx_t, fIs_n, fIsNot_n, fIs_b, fIsNot_b, isNone_n, isNone_i, isNone_l, isNone_t, isT_tt, isT_ii, isT_bi, isT_ll, fIsT, fEq, fNe, eqOk_i, eqOk_s, eqOk_l, eqOk_t, eqOk_n, eqv_nil, eqv_int, List.isEmpty_nil, List.isEmpty_cons, eq_self, atI_0, atI_1, atI_2, atI_3, atI_last, exists_eq', Int.cast_ofNat_Int, tab_len, endsP, endsI, rho0, List.set_cons_zero, List.set_cons_succ, List.getElem?_cons_zero, List.getElem?_cons_succ, Option.some.injEq, List.cons.injEq, exists_eq_left', exists_eq, and_assoc, exists_and_left, true_and, and_true, id_eq, List.map_cons, List.map_nil, List.replicate_succ, List.replicate_zero, List.cons_append, List.nil_append, List.length_cons, List.length_nil, PyData.bool.injEq, PyData.int.injEq, PyData.list.injEq, PyData.tuple.injEq, Bool.not_true, Bool.not_false, Bool.false_eq_true, if_true, if_false, ite_true, ite_false, decide_eq_true_eq, Nat.zero_add, Nat.zero_le, Nat.reduceAdd, Nat.reduceSub, Option.join, Option.bind_some, List.getElem?_nil]
        exact hK _ rfl
      · simp only [sSeq, sIf, sSet, sSetL, sAsg, sRet, sRetV, sRetL, sRetN, sNx, sBk, sCt, sApp, sExt, sExpr, sFor, sPar, sParL, sPut, gSet, gNilD, gConsD, gTupD, tBool, tNotD, tAndD, tOrD, tYesD, e1, e2, eN, eC, eVar, eIxO, aNil, aCons, eTup, eLst, eFlat, eIf, eChain, eAnd, eOr, eNot, eSl, pNone, pSome, eCall, eCallI, eCallS, iLst, iRg1, iRg2, iRg3, iZipD, iEnumD, sPut2, sSet2, eLc, wipeR, restR, fAdd_i, fAdd_l, fSub_i, fMul_i, fMul_l, fRep_l, fDiv_i, fMod_i, fPow_i, fNeg_i, fCmp_i, fLt, fLe, fGt, fGe, fLen_l, fLen_t, fInt_i, fInt_b, fAbs_i, fMax_i, fMax_l, fMin_i, fSum_l, fList_l, fList_t, fRev_l, fSl_l, fIx_l, fIx_t, fIs_n, fIsNot_n, fIs_b, fIsNot_b, isNone_n, isNone_i, isNone_l, isNone_t, isT_tt, isT_ii, isT_bi, isT_ll, fIsT, fEq, fNe, eqOk_i, eqOk_s, eqOk_l, eqOk_t, eqOk_n, eqv_nil, eqv_int, List.isEmpty_nil, List.isEmpty_cons, eq_self, atI_0, atI_1, atI_2, atI_3, atI_last, exists_eq', Int.cast_ofNat_Int, tab_len, endsP, endsI, rho0, List.set_cons_zero, List.set_cons_succ, List.getElem?_cons_zero, List.getElem?_cons_succ, Option.some.injEq, List.cons.injEq, exists_eq_left', exists_eq, and_assoc, exists_and_left, true_and, and_true, id_eq, List.map_cons, List.map_nil, List.replicate_succ, List.replicate_zero, List.cons_append, List.nil_append, List.length_cons, List.length_nil, PyData.bool.injEq, PyData.int.injEq, PyData.list.injEq, PyData.tuple.injEq, Bool.not_true, Bool.not_false, Bool.false_eq_true, if_true, if_false, ite_true, ite_false, decide_eq_true_eq, Nat.zero_add, Nat.zero_le, Nat.reduceAdd, Nat.reduceSub, Option.join, Option.bind_some, List.getElem?_nil]
        have e1 : (((m + 1 : Nat) : Int) + 1).toNat = m + 2 := by omega
        refine ⟨by decide, by omega, by omega, by rw [e1]; exact Nat.le_trans (show 1 * (m + 2) ≤ 64 by omega) (by decide), ?_⟩
        rw [e1, rep_tab]
        have hB1 : Bd (m + 2) fun b => (hiN f p b (a / f ^ b) : Int) := fun b hb => by
          have : hiN f p b (a / f ^ b) ≤ p := Nat.min_le_left _ _
          show (hiN f p b (a / f ^ b) : Int).natAbs < _
          omega
        have hB2 : Bd (m + 2) fun _ => (a : Int) + 1 := fun b hb => by show ((a : Int) + 1).natAbs < _; omega
        have hev := eqv_tab hB1 hB2 (b := decide (EndN f p a (m + 1))) (by
          rw [decide_eq_true_eq]
          constructor
          · intro h b hb
            have : hiN f p b (a / f ^ b) = a + 1 := end_le hf hap h (by omega)
            omega
          · intro h
            have := h (m + 1) (by omega)
            show hiN f p (m + 1) (a / f ^ (m + 1)) = a + 1
            omega)
        refine ⟨gd_shaped (n := 1) (by decide) (gd_row hB1), gd_shaped (n := 1) (by decide) (gd_row hB2), ?_⟩
        rw [hev]
        have es : (List.range (m + 1 + 1)).filter (fun l => decide (EndN f p a l)) = (List.range (m + 1)).filter (fun l => decide (EndN f p a l)) ++ if EndN f p a (m + 1) then [m + 1] else [] := by
          rw [List.range_succ, List.filter_append]
          congr 1
          by_cases c : EndN f p a (m + 1)
          · rw [if_pos c, List.filter_cons, if_pos (decide_eq_true c)]; rfl
          · rw [if_neg c, List.filter_cons, if_neg (by simpa using c)]; rfl
        by_cases c : EndN f p a (m + 1)
        · rw [if_pos (decide_eq_true c)]
          rw [if_pos c] at es
          have hfl : ((List.range (m + 1)).filter fun l => decide (EndN f p a l)).length ≤ m + 1 := Nat.le_trans (List.length_filter_le _ _) (by simp)
          refine ⟨by decide, by rw [List.length_map, List.length_append, List.length_map]; omega, ?_⟩
          have h := hnx2 _ ⟨some (.int ((m + 1 : Nat) : Int)), some (.int ((a / f ^ (m + 1) : Nat) : Int)), some (dRow (m + 2) fun b => (hiN f p b (a / f ^ b) : Int)), v, rfl⟩
          rw [es, List.map_append (f := ndM f room a), ← List.append_assoc, List.map_append] at h
          exact h
        · rw [if_neg (by simpa using c)]
          rw [if_neg c, List.append_nil] at es
          have h := hnx2 _ ⟨some (.int ((m + 1 : Nat) : Int)), some (.int ((a / f ^ (m + 1) : Nat) : Int)), some (dRow (m + 2) fun b => (hiN f p b (a / f ^ b) : Int)), v, rfl⟩
          rw [es] at h
          exact h

def sp_law_behind (ds : List D) (Q : D → Prop) : Prop := ∃ (f p : Nat) (g : Nat → Nat → Int) (ms : List (Nat × Nat × Int × Int)), Shp f p ∧ ds = [dT f p g, .list (ms.map dM)] ∧ (∀ w ∈ ms, OnT f p w.1 w.2.1) ∧ Q (dT f p (doAll g (ms.map wrM)))
def w_law_behind : DS := (sSeq (sSet2 2 3 (iLst (eVar 0))) (sSeq (sFor (iLst (eVar 1)) (gTupD 4 (gConsD (gSet 3) (gConsD (gSet 4) (gConsD (gSet 5) (gConsD (gSet 6) gNilD))))) (sPut2 2 (eVar 6) (eVar 3) (eVar 4))) (sRet (eVar 2))))
theorem m_law_behind : ∀ ds Q, ds.length = 2 → sp_law_behind ds Q → w_law_behind (endsP false Q) (rho0 ds 5) := by
  rintro ds Q - ⟨f, p, g, ws, S, rfl, hw, q⟩
  simp only [w_law_behind, sSeq, sIf, sSet, sSetL, sAsg, sRet, sRetV, sRetL, sRetN, sNx, sBk, sCt, sApp, sExt, sExpr, sFor, sPar, sParL, sPut, gSet, gNilD, gConsD, gTupD, tBool, tNotD, tAndD, tOrD, tYesD, e1, e2, eN, eC, eVar, eIxO, aNil, aCons, eTup, eLst, eFlat, eIf, eChain, eAnd, eOr, eNot, eSl, pNone, pSome, eCall, eCallI, eCallS, iLst, iRg1, iRg2, iRg3, iZipD, iEnumD, sPut2, sSet2, eLc, wipeR, restR, fAdd_i, fAdd_l, fSub_i, fMul_i, fMul_l, fRep_l, fDiv_i, fMod_i, fPow_i, fNeg_i, fCmp_i, fLt, fLe, fGt, fGe, fLen_l, fLen_t, fInt_i, fInt_b, fAbs_i, fMax_i, fMax_l, fMin_i, fSum_l, fList_l, fList_t, fRev_l, fSl_l, fIx_l, fIx_t, fIs_n, fIsNot_n, fIs_b, fIsNot_b, isNone_n, isNone_i, isNone_l, isNone_t, isT_tt, isT_ii, isT_bi, isT_ll, fIsT, fEq, fNe, eqOk_i, eqOk_s, eqOk_l, eqOk_t, eqOk_n, eqv_nil, eqv_int, List.isEmpty_nil, List.isEmpty_cons, eq_self, atI_0, atI_1, atI_2, atI_3, atI_last, exists_eq', Int.cast_ofNat_Int, tab_len, endsP, endsI, rho0, List.set_cons_zero, List.set_cons_succ, List.getElem?_cons_zero, List.getElem?_cons_succ, Option.some.injEq, List.cons.injEq, exists_eq_left', exists_eq, and_assoc, exists_and_left, true_and, and_true, id_eq, List.map_cons, List.map_nil, List.replicate_succ, List.replicate_zero, List.cons_append, List.nil_append, List.length_cons, List.length_nil, PyData.bool.injEq, PyData.int.injEq, PyData.list.injEq, PyData.tuple.injEq, Bool.not_true, Bool.not_false, Bool.false_eq_true, if_true, if_false, ite_true, ite_false, decide_eq_true_eq, Nat.zero_add, Nat.zero_le, Nat.reduceAdd, Nat.reduceSub, Option.join, Option.bind_some, List.getElem?_nil]
  refine ⟨_, dT_raw, rawT f p g, rfl, ?_, ?_⟩
  · rw [rawT_len]
    have := lvN_le S
    omega
  refine forGo_on ws dM (fun pre ρ => ∃ x y z u, ρ = [some (dT f p g), some (.list (ws.map dM)), some (dT f p (doAll g (pre.map wrM))), x, y, z, u]) ⟨none, none, none, none, by rw [← dT_raw]; rfl⟩ ?_ ?_
  · rintro ρ ⟨x, y, z, u, rfl⟩
    simp only [sSeq, sIf, sSet, sSetL, sAsg, sRet, sRetV, sRetL, sRetN, sNx, sBk, sCt, sApp, sExt, sExpr, sFor, sPar, sParL, sPut, gSet, gNilD, gConsD, gTupD, tBool, tNotD, tAndD, tOrD, tYesD, e1, e2, eN, eC, eVar, eIxO, aNil, aCons, eTup, eLst, eFlat, eIf, eChain, eAnd, eOr, eNot, eSl, pNone, pSome, eCall, eCallI, eCallS, iLst, iRg1, iRg2, iRg3, iZipD, iEnumD, sPut2, sSet2, eLc, wipeR, restR, fAdd_i, fAdd_l, fSub_i, fMul_i, fMul_l, fRep_l, fDiv_i, fMod_i, fPow_i, fNeg_i, fCmp_i, fLt, fLe, fGt, fGe, fLen_l, fLen_t, fInt_i, fInt_b, fAbs_i, fMax_i, fMax_l, fMin_i, fSum_l, fList_l, fList_t, fRev_l, fSl_l, fIx_l, fIx_t, fIs_n, fIsNot_n, fIs_b, fIsNot_b, isNone_n, isNone_i, isNone_l, isNone_t, isT_tt, isT_ii, isT_bi, isT_ll, fIsT, fEq, fNe, eqOk_i, eqOk_s, eqOk_l, eqOk_t, eqOk_n, eqv_nil, eqv_int, List.isEmpty_nil, List.isEmpty_cons, eq_self, atI_0, atI_1, atI_2, atI_3, atI_last, exists_eq', Int.cast_ofNat_Int, tab_len, endsP, endsI, rho0, List.set_cons_zero, List.set_cons_succ, List.getElem?_cons_zero, List.getElem?_cons_succ, Option.some.injEq, List.cons.injEq, exists_eq_left', exists_eq, and_assoc, exists_and_left, true_and, and_true, id_eq, List.map_cons, List.map_nil, List.replicate_succ, List.replicate_zero, List.cons_append, List.nil_append, List.length_cons, List.length_nil, PyData.bool.injEq, PyData.int.injEq, PyData.list.injEq, PyData.tuple.injEq, Bool.not_true, Bool.not_false, Bool.false_eq_true, if_true, if_false, ite_true, ite_false, decide_eq_true_eq, Nat.zero_add, Nat.zero_le, Nat.reduceAdd, Nat.reduceSub, Option.join, Option.bind_some, List.getElem?_nil]
    exact q
  · rintro pre w post hws ρ ⟨x, y, z, u, rfl⟩ nx hnx
    have hon := hw w (by rw [hws]; simp)
    simp only [sSeq, sIf, sSet, sSetL, sAsg, sRet, sRetV, sRetL, sRetN, sNx, sBk, sCt, sApp, sExt, sExpr, sFor, sPar, sParL, sPut, gSet, gNilD, gConsD, gTupD, tBool, tNotD, tAndD, tOrD, tYesD, e1, e2, eN, eC, eVar, eIxO, aNil, aCons, eTup, eLst, eFlat, eIf, eChain, eAnd, eOr, eNot, eSl, pNone, pSome, eCall, eCallI, eCallS, iLst, iRg1, iRg2, iRg3, iZipD, iEnumD, sPut2, sSet2, eLc, wipeR, restR, fAdd_i, fAdd_l, fSub_i, fMul_i, fMul_l, fRep_l, fDiv_i, fMod_i, fPow_i, fNeg_i, fCmp_i, fLt, fLe, fGt, fGe, fLen_l, fLen_t, fInt_i, fInt_b, fAbs_i, fMax_i, fMax_l, fMin_i, fSum_l, fList_l, fList_t, fRev_l, fSl_l, fIx_l, fIx_t, fIs_n, fIsNot_n, fIs_b, fIsNot_b, isNone_n, isNone_i, isNone_l, isNone_t, isT_tt, isT_ii, isT_bi, isT_ll, fIsT, fEq, fNe, eqOk_i, eqOk_s, eqOk_l, eqOk_t, eqOk_n, eqv_nil, eqv_int, List.isEmpty_nil, List.isEmpty_cons, eq_self, atI_0, atI_1, atI_2, atI_3, atI_last, exists_eq', Int.cast_ofNat_Int, tab_len, endsP, endsI, rho0, List.set_cons_zero, List.set_cons_succ, List.getElem?_cons_zero, List.getElem?_cons_succ, Option.some.injEq, List.cons.injEq, exists_eq_left', exists_eq, and_assoc, exists_and_left, true_and, and_true, id_eq, List.map_cons, List.map_nil, List.replicate_succ, List.replicate_zero, List.cons_append, List.nil_append, List.length_cons, List.length_nil, PyData.bool.injEq, PyData.int.injEq, PyData.list.injEq, PyData.tuple.injEq, Bool.not_true, Bool.not_false, Bool.false_eq_true, if_true, if_false, ite_true, ite_false, decide_eq_true_eq, Nat.zero_add, Nat.zero_le, Nat.reduceAdd, Nat.reduceSub, Option.join, Option.bind_some, List.getElem?_nil]
    refine ⟨rawT f p (doAll g (pre.map wrM)), dT_raw, w.1, ixN_nat (by rw [rawT_len]; exact hon.1), _, rawT_get hon.1, dT_raw, w.2.1, ixN_nat (by rw [tab_len]; exact hon.2), ?_⟩
    rw [rawT_put, ← dT_raw]
    have e : doAll g ((pre ++ [w]).map wrM) = put (doAll g (pre.map wrM)) w.1 w.2.1 w.2.2.2 := by rw [List.map_append, List.map_singleton, doAll_snoc]
    rw [← e]
    exact hnx _ ⟨_, _, _, _, rfl⟩

theorem seek_fin {f p pg : Nat} {room need : Int} {r : Nat → Int} (hf : 2 ≤ f) (hp : 0 < p) (hpg : pg ≤ p) (h1 : 1 ≤ need) (h2 : need ≤ room) (hr : ∀ i, i < p → r i = if pg ≤ i then room else 0) {g : Nat → Nat → Int}
    (hs : IsSt f p room pg 0 g) (ms : List (Nat × Nat × Int × Int)) : seekRun f p r need 1 g ms = some (if pg < p then some pg else none, g, ms) := by
  rw [seekRun]
  by_cases q : pg < p
  · rw [st_gdown hf q hs h1 h2 (Nat.zero_le _) (end_0 q)]
    simp only [Nat.pow_zero, Nat.div_one]
    rw [if_pos ⟨trivial, by rw [hr pg q, if_pos (Nat.le_refl _)]; exact h2⟩, if_pos q]
  · have : gdown f p g need = none := by
      unfold gdown
      rw [if_pos]
      right
      have htop := top_on (f := f) (p := p) hf (by omega)
      rw [hs _ _ htop, stv_ge (by omega), if_pos]
      · omega
      · unfold hiN; omega
    rw [this, if_neg q]
/-- what a search tells, as a thing that can be shown -/
theorem gd_dR {n : Nat} {o : Option Nat} (h : ∀ i, o = some i → i < 2 ^ 60) : gd n (dR o) = true := by
  cases o with
  | none => exact gd_none
  | some i => have := h i rfl; exact gd_int (by omega)
theorem sz_dR {o : Option Nat} : sz (dR o) ≤ 61 := by cases o <;> simp [dR, sz]
theorem gd_mends {ms : List (Nat × Nat × Int × Int)} (h : ∀ m ∈ ms, m.1 < 2 ^ 60 ∧ m.2.1 < 2 ^ 60 ∧ m.2.2.1.natAbs < 10 ^ 60 ∧ m.2.2.2.natAbs < 10 ^ 60) : gd 2 (.list (ms.map dM)) = true := gd_list fun x hx => by
  obtain ⟨m, hm, rfl⟩ := List.mem_map.mp hx
  obtain ⟨h1, h2, h3, h4⟩ := h m hm
  refine gd_tuple fun y hy => ?_
  simp only [List.mem_cons, List.not_mem_nil, or_false] at hy
  rcases hy with rfl | rfl | rfl | rfl
  · exact gd_int (by omega)
  · exact gd_int (by omega)
  · exact gd_int h3
  · exact gd_int h4
theorem sz_tree {f p : Nat} {g : Nat → Nat → Int} (S : Shp f p) : sz (dT f p g) ≤ 21 * (p * 63 + 5) + 3 := by
  have h := sz_list (xs := tab (lvN f p) fun l => dRow (cnt f p l) (g l)) (b := p * 63 + 3) fun x hx => by
    obtain ⟨l, hl, rfl⟩ := tab_mem hx
    have h1 := sz_list (xs := tab (cnt f p l) fun i => PyData.int (g l i)) (b := 61) fun y hy => by
      obtain ⟨i, hi, rfl⟩ := tab_mem hy
      exact Nat.le_refl _
    rw [tab_len] at h1
    have := cnt_le (p := p) (l := l) S.f2
    have h3 : cnt f p l * 63 ≤ p * 63 := Nat.mul_le_mul_right _ this
    have h1 : sz (dRow (cnt f p l) (g l)) ≤ cnt f p l * (61 + 2) + 3 := h1
    omega
  rw [tab_len] at h
  have h2 : lvN f p * (p * 63 + 3 + 2) ≤ 21 * (p * 63 + 3 + 2) := Nat.mul_le_mul_right _ (lvN_le S)
  exact Nat.le_trans h (by omega)
theorem sz_mends {ms : List (Nat × Nat × Int × Int)} : sz (.list (ms.map dM)) ≤ ms.length * 257 + 3 := by
  have h := sz_list (xs := ms.map dM) (b := 255) fun x hx => by
    obtain ⟨m, hm, rfl⟩ := List.mem_map.mp hx
    simp [sz, szs]
  rw [List.length_map] at h
  exact h
end DD

set_option Elab.async false
set_option linter.all false
set_option maxRecDepth 100000
set_option maxHeartbeats 4000000
/-! k30: the same search again -/
namespace DD
open PySem PySem.Spec PyProof.Rows L2

abbrev dTold (o : Option Nat) (f p : Nat) (g : Nat → Nat → Int) (ms : List (Nat × Nat × Int × Int)) : D := .tuple [dR o, dT f p g, .list (ms.map dM)]
def MsOk (ms : List (Nat × Nat × Int × Int)) : Prop := ms.length ≤ 30000 ∧ ∀ m ∈ ms, m.1 < 2 ^ 60 ∧ m.2.1 < 2 ^ 60 ∧ m.2.2.1.natAbs < 10 ^ 60 ∧ m.2.2.2.natAbs < 10 ^ 60
theorem gd_told {o : Option Nat} {f p : Nat} {g : Nat → Nat → Int} {ms : List (Nat × Nat × Int × Int)} (ho : ∀ i, o = some i → i < 2 ^ 60) (B : BdT f p g) (hm : MsOk ms) : gd 3 (dTold o f p g ms) = true := gd_tuple fun y hy => by
  simp only [List.mem_cons, List.not_mem_nil, or_false] at hy
  rcases hy with rfl | rfl | rfl
  · exact gd_dR ho
  · exact gd_tree B
  · exact gd_mends hm.2
theorem sz_told {o : Option Nat} {f p : Nat} {g : Nat → Nat → Int} {ms : List (Nat × Nat × Int × Int)} (S : Shp f p) (hp : p ≤ 512) (hm : MsOk ms) : sz (dTold o f p g ms) ≤ sizeLine := by
  have h1 := sz_dR (o := o)
  have h2 := sz_tree (g := g) S
  have h3 := sz_mends (ms := ms)
  have h4 := hm.1
  have h5 : 21 * (512 * 63 + 5) + 30000 * 257 + 1000 < sizeLine := by decide
  rw [sz, szs, szs, szs, szs]
  omega
theorem MsOk.nil : MsOk [] := ⟨by simp, fun m hm => by cases hm⟩
theorem st_bd {f p a j : Nat} {room : Int} {g : Nat → Nat → Int} (h : IsSt f p room a j g) (hr : room.natAbs < 10 ^ 60) : BdT f p g := fun l i ho => by
  rw [h l i ho]; unfold stv
  generalize (if l < j then a + 1 else a) = x
  split
  · decide
  · exact hr
theorem mLv_nil {f p : Nat} {g m : Nat → Nat → Int} (h : ∀ l i, OnT f p l i → g l i = m l i) : ∀ n, n ≤ ht f p → 0 < p → mLv f p g m n = []
  | 0, _, _ => rfl
  | n + 1, hn, hp => by
    rw [mLv, mLv_nil h n (by omega) hp, List.nil_append]
    unfold mPl
    rw [List.map_eq_nil_iff, List.filter_eq_nil_iff]
    intro i hi
    have := h (n + 1) i ⟨by rw [lvN_pos hp]; omega, List.mem_range.mp hi⟩
    simp [this]
/-- a tree that is behind no more is exact -/
theorem st_exact {f p pg : Nat} {room : Int} {r : Nat → Int} {g : Nat → Nat → Int} (hf : 2 ≤ f) (hr0 : 1 ≤ room) (hr : ∀ i, i < p → r i = if pg ≤ i then room else 0) (hs : IsSt f p room pg 0 g) : ∀ l i, OnT f p l i → g l i = bt f p (g 0) l i := by
  intro l i ho
  have hp := ho.lo.1
  have h0 : ∀ a, a < p → g 0 a = if pg ≤ a then room else 0 := fun a ha => by
    rw [hs 0 a ⟨by rw [lvN_pos hp]; omega, by rw [cnt_zero]; exact ha⟩, stv_ge (by omega)]
    have e : hiN f p 0 a = a + 1 := by unfold hiN; simp; omega
    rw [e]
    by_cases q : pg ≤ a
    · rw [if_pos q, if_neg (by omega)]
    · rw [if_neg q, if_pos (by omega)]
  rw [hs l i ho, stv_ge (by omega)]
  have hlt := lo_lt_hi hf ho
  have hle : hiN f p l i ≤ p := Nat.min_le_left _ _
  symm
  by_cases q : hiN f p l i ≤ pg
  · rw [if_pos q]
    refine bt_eq hf ho (fun a h1 h2 => ?_) ⟨loN f l i, Nat.le_refl _, hlt, ?_⟩
    · rw [h0 a (by omega), if_neg (by omega)]; exact Int.le_refl _
    · rw [h0 _ (by omega), if_neg (by omega)]
  · rw [if_neg q]
    refine bt_eq hf ho (fun a h1 h2 => ?_) ⟨hiN f p l i - 1, by omega, by omega, ?_⟩
    · rw [h0 a (by omega)]; split <;> omega
    · rw [h0 _ (by omega), if_pos (by omega)]
theorem st_row {f p pg : Nat} {room : Int} {r : Nat → Int} {g : Nat → Nat → Int} (hr : ∀ i, i < p → r i = if pg ≤ i then room else 0) (hs : IsSt f p room pg 0 g) : ∀ a, a < p → g 0 a = r a := fun a ha => by
  rw [hs 0 a ⟨by rw [lvN_pos (by omega)]; omega, by rw [cnt_zero]; exact ha⟩, stv_ge (by omega), hr a ha]
  have e : hiN f p 0 a = a + 1 := by unfold hiN; simp; omega
  rw [e]
  by_cases q : pg ≤ a
  · rw [if_pos q, if_neg (by omega)]
  · rw [if_neg q, if_pos (by omega)]
theorem dRow_congr {n : Nat} {F G : Nat → Int} (h : ∀ i, i < n → F i = G i) : dRow n F = dRow n G := by unfold dRow; rw [tab_congr fun i hi => by rw [h i hi]]
theorem bt_congr {f p : Nat} {r s : Nat → Int} (hf : 2 ≤ f) (h : ∀ i, i < p → r i = s i) : ∀ l i, OnT f p l i → bt f p r l i = bt f p s l i
  | 0, i, ho => h i (by have := ho.2; rwa [cnt_zero] at this)
  | l + 1, i, ho => mxs_congr fun j hj => bt_congr hf h l _ (ch_lt hf ho hj)
theorem eqv_dR {a b : Option Nat} : PyData.eqv (dR a) (dR b) = decide (a = b) := by
  cases a with
  | none => cases b <;> simp [dR, PyData.eqv]
  | some a => cases b with
    | none => simp [dR, PyData.eqv]
    | some b =>
      rw [Bool.eq_iff_iff]
      simp [dR, PyData.eqv]
      omega
theorem gd_self {n : Nat} {d : D} (h : gd n d = true) : PyData.eqv d d = true := (gd_eqv n n d d h h).mpr rfl
def sp_law_again_right (ds : List D) (Q : D → Prop) : Prop := ∃ (f p pg : Nat) (room need : Int) (r : Nat → Int) (g : Nat → Nat → Int) (ms : List (Nat × Nat × Int × Int)), Shp f p ∧ 0 < p ∧ p ≤ 512 ∧ pg ≤ p ∧ 1 ≤ need ∧ need ≤ room ∧ room.natAbs < 10 ^ 60 ∧
  (∀ i, i < p → r i = if pg ≤ i then room else 0) ∧ IsSt f p room pg 0 g ∧ ds = [.int (f : Int), dRow p r, .int need, dTold (if pg < p then some pg else none) f p g ms] ∧ Q (.bool true)
def w_law_again_right : DS := (sSeq (sAsg (gTupD 3 (gConsD (gSet 5) (gConsD (gSet 6) (gConsD (gSet 7) gNilD)))) (eVar 3)) (sSeq (sIf (tNotD (tBool (eCall 2 sp_law_alike (aCons (eCall 4 sp_seek (aCons (eVar 6) (aCons (eVar 0) (aCons (eVar 1) (aCons (eVar 2) aNil))))) (aCons (eTup (aCons (eVar 5) (aCons (eVar 6) (aCons (eLst aNil) aNil)))) aNil))))) (sRet (eC (.bool false))) sNx) (sSeq (sSet 4 (e2 fIx (eVar 6) (eC (.int 0)))) (sSeq (sAsg (gTupD 2 (gConsD (gSet 8) (gConsD (gSet 9) gNilD))) (eCall 2 sp_mended (aCons (eVar 6) (aCons (eVar 0) aNil)))) (sSeq (sIf (tNotD (tBool (eCall 2 sp_law_alike (aCons (eLst (aCons (eVar 8) (aCons (eCall 2 sp_fault (aCons (eVar 8) (aCons (eVar 0) aNil))) aNil))) (aCons (eLst (aCons (eCall 2 sp_built (aCons (eVar 4) (aCons (eVar 0) aNil))) (aCons (eC .none) aNil))) aNil))))) (sRet (eC (.bool false))) sNx) (sSeq (sIf (tBool (e2 fNe (eLc [10] (iLst (eVar 9)) (gSet 10) (tOrD (tBool (e2 fLe (e2 fIx (eVar 10) (eC (.int 2))) (e2 fIx (eVar 10) (eC (.int 3))))) (tBool (e2 fEq (e2 fIx (eVar 10) (eC (.int 0))) (eC (.int 0))))) (eVar 10)) (eLst aNil))) (sRet (eC (.bool false))) sNx) (sRet (eAnd (e2 fEq (eCall 3 sp_first (aCons (eVar 8) (aCons (eVar 0) (aCons (eVar 2) aNil)))) (eVar 5)) (e2 fEq (eVar 4) (eVar 1))))))))))
theorem m_law_again_right : ∀ ds Q, ds.length = 4 → sp_law_again_right ds Q → w_law_again_right (endsP false Q) (rho0 ds 7) := by
  rintro ds Q - ⟨f, p, pg, room, need, r, g, ms, S, hp, hp5, hpg, h1, h2, hb, hr, hs, rfl, q⟩
  have hf := S.f2
  have BT := st_bd hs hb
  have ho : ∀ i, (if pg < p then some pg else none) = some i → i < 2 ^ 60 := fun i hi => by split at hi <;> cases hi; omega
  have hB0 : Bd p (g 0) := fun i hi => BT 0 i ⟨by rw [lvN_pos (by omega)]; omega, by rwa [cnt_zero]⟩
  have BB := bt_bd (r := g 0) hf hB0
  simp only [w_law_again_right, sSeq, sIf, sSet, sSetL, sAsg, sRet, sRetV, sRetL, sRetN, sNx, sBk, sCt, sApp, sExt, sExpr, sFor, sPar, sParL, sPut, gSet, gNilD, gConsD, gTupD, tBool, tNotD, tAndD, tOrD, tYesD, e1, e2, eN, eC, eVar, eIxO, aNil, aCons, eTup, eLst, eFlat, eIf, eChain, eAnd, eOr, eNot, eSl, pNone, pSome, eCall, eCallI, eCallS, iLst, iRg1, iRg2, iRg3, iZipD, iEnumD, sPut2, sSet2, eLc, wipeR, restR, fAdd_i, fAdd_l, fSub_i, fMul_i, fMul_l, fRep_l, fDiv_i, fMod_i, fPow_i, fNeg_i, fCmp_i, fLt, fLe, fGt, fGe, fLen_l, fLen_t, fInt_i, fInt_b, fAbs_i, fMax_i, fMax_l, fMin_i, fSum_l, fList_l, fList_t, fRev_l, fSl_l, fIx_l, fIx_t, fIs_n, fIsNot_n, fIs_b, fIsNot_b, isNone_n, isNone_i, isNone_l, isNone_t, isT_tt, isT_ii, isT_bi, isT_ll, fIsT, fEq, fNe, eqOk_i, eqOk_s, eqOk_l, eqOk_t, eqOk_n, eqv_nil, eqv_int, List.isEmpty_nil, List.isEmpty_cons, eq_self, atI_0, atI_1, atI_2, atI_3, atI_last, exists_eq', Int.cast_ofNat_Int, tab_len, endsP, endsI, rho0, List.set_cons_zero, List.set_cons_succ, List.getElem?_cons_zero, List.getElem?_cons_succ, Option.some.injEq, List.cons.injEq, exists_eq_left', exists_eq, and_assoc, exists_and_left, true_and, and_true, id_eq, List.map_cons, List.map_nil, List.replicate_succ, List.replicate_zero, List.cons_append, List.nil_append, List.length_cons, List.length_nil, PyData.bool.injEq, PyData.int.injEq, PyData.list.injEq, PyData.tuple.injEq, Bool.not_true, Bool.not_false, Bool.false_eq_true, if_true, if_false, ite_true, ite_false, decide_eq_true_eq, Nat.zero_add, Nat.zero_le, Nat.reduceAdd, Nat.reduceSub, Option.join, Option.bind_some, List.getElem?_nil]
  refine ⟨f, p, g, r, need, 1, if pg < p then some pg else none, g, [], S, BT, rfl, by decide, seek_fin hf hp hpg h1 h2 hr hs [], ?_⟩
  refine ⟨by decide, 3, dTold (if pg < p then some pg else none) f p g [], by decide, gd_told ho BT MsOk.nil, sz_told S hp5 MsOk.nil, rfl, ?_⟩
  simp only [fIx_0 hp, sSeq, sIf, sSet, sSetL, sAsg, sRet, sRetV, sRetL, sRetN, sNx, sBk, sCt, sApp, sExt, sExpr, sFor, sPar, sParL, sPut, gSet, gNilD, gConsD, gTupD, tBool, tNotD, tAndD, tOrD, tYesD, e1, e2, eN, eC, eVar, eIxO, aNil, aCons, eTup, eLst, eFlat, eIf, eChain, eAnd, eOr, eNot, eSl, pNone, pSome, eCall, eCallI, eCallS, iLst, iRg1, iRg2, iRg3, iZipD, iEnumD, sPut2, sSet2, eLc, wipeR, restR, fAdd_i, fAdd_l, fSub_i, fMul_i, fMul_l, fRep_l, fDiv_i, fMod_i, fPow_i, fNeg_i, fCmp_i, fLt, fLe, fGt, fGe, fLen_l, fLen_t, fInt_i, fInt_b, fAbs_i, fMax_i, fMax_l, fMin_i, fSum_l, fList_l, fList_t, fRev_l, fSl_l, fIx_l, fIx_t, fIs_n, fIsNot_n, fIs_b, fIsNot_b, isNone_n, isNone_i, isNone_l, isNone_t, isT_tt, isT_ii, isT_bi, isT_ll, fIsT, fEq, fNe, eqOk_i, eqOk_s, eqOk_l, eqOk_t, eqOk_n, eqv_nil, eqv_int, List.isEmpty_nil, List.isEmpty_cons, eq_self, atI_0, atI_1, atI_2, atI_3, atI_last, exists_eq', Int.cast_ofNat_Int, tab_len, endsP, endsI, rho0, List.set_cons_zero, List.set_cons_succ, List.getElem?_cons_zero, List.getElem?_cons_succ, Option.some.injEq, List.cons.injEq, exists_eq_left', exists_eq, and_assoc, exists_and_left, true_and, and_true, id_eq, List.map_cons, List.map_nil, List.replicate_succ, List.replicate_zero, List.cons_append, List.nil_append, List.length_cons, List.length_nil, PyData.bool.injEq, PyData.int.injEq, PyData.list.injEq, PyData.tuple.injEq, Bool.not_true, Bool.not_false, Bool.false_eq_true, if_true, if_false, ite_true, ite_false, decide_eq_true_eq, Nat.zero_add, Nat.zero_le, Nat.reduceAdd, Nat.reduceSub, Option.join, Option.bind_some, List.getElem?_nil]
  refine ⟨f, p, g, S, Nat.le_trans hp5 (by decide), BT, rfl, ?_⟩
  rw [mLv_nil (st_exact hf (by omega) hr hs) _ (Nat.le_refl _) hp]
  simp only [sSeq, sIf, sSet, sSetL, sAsg, sRet, sRetV, sRetL, sRetN, sNx, sBk, sCt, sApp, sExt, sExpr, sFor, sPar, sParL, sPut, gSet, gNilD, gConsD, gTupD, tBool, tNotD, tAndD, tOrD, tYesD, e1, e2, eN, eC, eVar, eIxO, aNil, aCons, eTup, eLst, eFlat, eIf, eChain, eAnd, eOr, eNot, eSl, pNone, pSome, eCall, eCallI, eCallS, iLst, iRg1, iRg2, iRg3, iZipD, iEnumD, sPut2, sSet2, eLc, wipeR, restR, fAdd_i, fAdd_l, fSub_i, fMul_i, fMul_l, fRep_l, fDiv_i, fMod_i, fPow_i, fNeg_i, fCmp_i, fLt, fLe, fGt, fGe, fLen_l, fLen_t, fInt_i, fInt_b, fAbs_i, fMax_i, fMax_l, fMin_i, fSum_l, fList_l, fList_t, fRev_l, fSl_l, fIx_l, fIx_t, fIs_n, fIsNot_n, fIs_b, fIsNot_b, isNone_n, isNone_i, isNone_l, isNone_t, isT_tt, isT_ii, isT_bi, isT_ll, fIsT, fEq, fNe, eqOk_i, eqOk_s, eqOk_l, eqOk_t, eqOk_n, eqv_nil, eqv_int, List.isEmpty_nil, List.isEmpty_cons, eq_self, atI_0, atI_1, atI_2, atI_3, atI_last, exists_eq', Int.cast_ofNat_Int, tab_len, endsP, endsI, rho0, List.set_cons_zero, List.set_cons_succ, List.getElem?_cons_zero, List.getElem?_cons_succ, Option.some.injEq, List.cons.injEq, exists_eq_left', exists_eq, and_assoc, exists_and_left, true_and, and_true, id_eq, List.map_cons, List.map_nil, List.replicate_succ, List.replicate_zero, List.cons_append, List.nil_append, List.length_cons, List.length_nil, PyData.bool.injEq, PyData.int.injEq, PyData.list.injEq, PyData.tuple.injEq, Bool.not_true, Bool.not_false, Bool.false_eq_true, if_true, if_false, ite_true, ite_false, decide_eq_true_eq, Nat.zero_add, Nat.zero_le, Nat.reduceAdd, Nat.reduceSub, Option.join, Option.bind_some, List.getElem?_nil]
  refine ⟨f, p, bt f p (g 0), S, BB, rfl, fun l i ho => rfl, ?_⟩
  simp only [sSeq, sIf, sSet, sSetL, sAsg, sRet, sRetV, sRetL, sRetN, sNx, sBk, sCt, sApp, sExt, sExpr, sFor, sPar, sParL, sPut, gSet, gNilD, gConsD, gTupD, tBool, tNotD, tAndD, tOrD, tYesD, e1, e2, eN, eC, eVar, eIxO, aNil, aCons, eTup, eLst, eFlat, eIf, eChain, eAnd, eOr, eNot, eSl, pNone, pSome, eCall, eCallI, eCallS, iLst, iRg1, iRg2, iRg3, iZipD, iEnumD, sPut2, sSet2, eLc, wipeR, restR, fAdd_i, fAdd_l, fSub_i, fMul_i, fMul_l, fRep_l, fDiv_i, fMod_i, fPow_i, fNeg_i, fCmp_i, fLt, fLe, fGt, fGe, fLen_l, fLen_t, fInt_i, fInt_b, fAbs_i, fMax_i, fMax_l, fMin_i, fSum_l, fList_l, fList_t, fRev_l, fSl_l, fIx_l, fIx_t, fIs_n, fIsNot_n, fIs_b, fIsNot_b, isNone_n, isNone_i, isNone_l, isNone_t, isT_tt, isT_ii, isT_bi, isT_ll, fIsT, fEq, fNe, eqOk_i, eqOk_s, eqOk_l, eqOk_t, eqOk_n, eqv_nil, eqv_int, List.isEmpty_nil, List.isEmpty_cons, eq_self, atI_0, atI_1, atI_2, atI_3, atI_last, exists_eq', Int.cast_ofNat_Int, tab_len, endsP, endsI, rho0, List.set_cons_zero, List.set_cons_succ, List.getElem?_cons_zero, List.getElem?_cons_succ, Option.some.injEq, List.cons.injEq, exists_eq_left', exists_eq, and_assoc, exists_and_left, true_and, and_true, id_eq, List.map_cons, List.map_nil, List.replicate_succ, List.replicate_zero, List.cons_append, List.nil_append, List.length_cons, List.length_nil, PyData.bool.injEq, PyData.int.injEq, PyData.list.injEq, PyData.tuple.injEq, Bool.not_true, Bool.not_false, Bool.false_eq_true, if_true, if_false, ite_true, ite_false, decide_eq_true_eq, Nat.zero_add, Nat.zero_le, Nat.reduceAdd, Nat.reduceSub, Option.join, Option.bind_some, List.getElem?_nil]
  refine ⟨by decide, p, f, g 0, S, hB0, rfl, by decide, 3, .list [dT f p (bt f p (g 0)), .none], by decide, ?_, ?_, rfl, ?_⟩
  · exact gd_list fun y hy => by
      simp only [List.mem_cons, List.not_mem_nil, or_false] at hy
      rcases hy with rfl | rfl
      · exact gd_tree BB
      · exact gd_none
  · have h2 := sz_tree (g := bt f p (g 0)) S
    have h5 : 21 * (512 * 63 + 5) + 1000 < sizeLine := by decide
    rw [sz, szs, szs, szs, sz]
    omega
  simp only [lcGo, sSeq, sIf, sSet, sSetL, sAsg, sRet, sRetV, sRetL, sRetN, sNx, sBk, sCt, sApp, sExt, sExpr, sFor, sPar, sParL, sPut, gSet, gNilD, gConsD, gTupD, tBool, tNotD, tAndD, tOrD, tYesD, e1, e2, eN, eC, eVar, eIxO, aNil, aCons, eTup, eLst, eFlat, eIf, eChain, eAnd, eOr, eNot, eSl, pNone, pSome, eCall, eCallI, eCallS, iLst, iRg1, iRg2, iRg3, iZipD, iEnumD, sPut2, sSet2, eLc, wipeR, restR, fAdd_i, fAdd_l, fSub_i, fMul_i, fMul_l, fRep_l, fDiv_i, fMod_i, fPow_i, fNeg_i, fCmp_i, fLt, fLe, fGt, fGe, fLen_l, fLen_t, fInt_i, fInt_b, fAbs_i, fMax_i, fMax_l, fMin_i, fSum_l, fList_l, fList_t, fRev_l, fSl_l, fIx_l, fIx_t, fIs_n, fIsNot_n, fIs_b, fIsNot_b, isNone_n, isNone_i, isNone_l, isNone_t, isT_tt, isT_ii, isT_bi, isT_ll, fIsT, fEq, fNe, eqOk_i, eqOk_s, eqOk_l, eqOk_t, eqOk_n, eqv_nil, eqv_int, List.isEmpty_nil, List.isEmpty_cons, eq_self, atI_0, atI_1, atI_2, atI_3, atI_last, exists_eq', Int.cast_ofNat_Int, tab_len, endsP, endsI, rho0, List.set_cons_zero, List.set_cons_succ, List.getElem?_cons_zero, List.getElem?_cons_succ, Option.some.injEq, List.cons.injEq, exists_eq_left', exists_eq, and_assoc, exists_and_left, true_and, and_true, id_eq, List.map_cons, List.map_nil, List.replicate_succ, List.replicate_zero, List.cons_append, List.nil_append, List.length_cons, List.length_nil, PyData.bool.injEq, PyData.int.injEq, PyData.list.injEq, PyData.tuple.injEq, Bool.not_true, Bool.not_false, Bool.false_eq_true, if_true, if_false, ite_true, ite_false, decide_eq_true_eq, Nat.zero_add, Nat.zero_le, Nat.reduceAdd, Nat.reduceSub, Option.join, Option.bind_some, List.getElem?_nil]
  refine ⟨shaped_nil, shaped_nil, f, p, bt f p (g 0), need, S, Nat.le_trans hp5 (by decide), BB, rfl, ?_⟩
  rw [if_neg (show ¬ p = 0 by omega)]
  have hfr : furR f p (PT (bt f p (g 0)) need) 0 = if pg < p then some pg else none := by
    have h := fur_first (f := f) (p := p) (b := 0) (r := g 0) (n := need) hf hp
    have h0 : ∀ a, a < p → (need ≤ g 0 a ↔ pg ≤ a) := fun a ha => by
      rw [st_row hr hs a ha, hr a ha]; by_cases z : pg ≤ a
      · rw [if_pos z]; exact ⟨fun _ => z, fun _ => h2⟩
      · rw [if_neg z]; exact ⟨fun y => by omega, fun y => absurd y z⟩
    cases hc : furR f p (PT (bt f p (g 0)) need) 0 with
    | none =>
      rw [hc] at h
      have h : NoneIn (g 0) need 0 p := h
      by_cases z : pg < p
      · have := h pg (by omega) z
        have := (h0 pg z).mpr (Nat.le_refl _)
        omega
      · rw [if_neg z]
    | some c =>
      rw [hc] at h
      have h : FirstIn (g 0) need 0 p c := h
      have k1 := (h0 c h.2.1).mp h.2.2.1
      rw [if_pos (by have := h.2.1; omega)]
      by_cases z : pg < c
      · have := h.2.2.2 pg (by omega) z
        have := (h0 pg (by have := h.2.1; omega)).mpr (Nat.le_refl _)
        omega
      · rw [show c = pg by omega]
  rw [hfr]
  have gR := gd_dR (n := 0) ho
  refine ⟨eqOk_of (gd_shaped (n := 0) (by decide) gR) (gd_shaped (n := 0) (by decide) gR), ?_⟩
  rw [if_pos (gd_self gR)]
  have e : dRow p r = dRow p (g 0) := dRow_congr fun i hi => (st_row hr hs i hi).symm
  have sh := gd_shaped (by decide) (gd_row hB0)
  refine ⟨sh, by rw [← e] at sh; exact sh, ?_⟩
  rw [e, gd_self (gd_row hB0)]
  exact q
end DD

set_option Elab.async false
set_option linter.all false
set_option maxRecDepth 100000
set_option maxHeartbeats 4000000
/-! k30: the law -/
namespace DD
open PySem PySem.Spec PyProof.Rows L2

theorem cut_in {a b : DS} {de : DEnds} {ρ : Rho} (h : a { nx := fun ρ1 => b de ρ1, rt := de.rt, bk := de.bk, ct := de.ct } ρ) : sCut a b de ρ := h
def sp_law (ns : List Int) (ds : List D) (Q : D → Prop) : Prop := ds = [] ∧ Q (.bool true)
def w_law : DS := (sCut (sSetL 1 (eCallS 0 0 sp_law_bag aNil)) (sCut (sFor (iRg1 (aCons (eC (.int 3)) aNil)) (gSet 2) (sCut (sSet 3 (eCallI 1 1 sp_law_some (aCons (eLst (aCons (e2 fAdd (eC (.int 1)) (eCallI 1 1 sp_law_take (aCons (eC (.int 120)) aNil))) (aCons (e2 fAdd (eC (.int 1)) (eCallI 1 1 sp_law_take (aCons (eC (.int 20)) aNil))) (aCons (eC (.int 64)) (aCons (eC (.int 1)) aNil))))) aNil))) (sCut (sAsg (gTupD 2 (gConsD (gSet 14) (gConsD (gSet 15) gNilD))) (eTup (aCons (e2 fAdd (eC (.int 2)) (eCallI 1 1 sp_law_take (aCons (eC (.int 7)) aNil))) (aCons (e2 fAdd (eC (.int 1)) (eCallI 1 1 sp_law_great (aCons (eC (.int 1000000000000000000)) aNil))) aNil)))) (sCut (sSet 4 (eCallI 1 1 sp_law_some (aCons (eLst (aCons (eCallI 1 1 sp_law_take (aCons (e2 fAdd (eVar 3) (eC (.int 1))) aNil)) (aCons (eVar 3) (aCons (eC (.int 0)) (aCons (eN fMinL (aCons (eVar 3) (aCons (eVar 14) aNil))) aNil))))) aNil))) (sCut (sSet 5 (e2 fAdd (eC (.int 1)) (eCallI 1 1 sp_law_great (aCons (eVar 15) aNil)))) (sCut (sSet 6 (eLc [16] (iRg1 (aCons (eVar 3) aNil)) (gSet 16) tYesD (e2 fMul (eVar 15) (eN fInt (aCons (e2 fGe (eVar 16) (eVar 4)) aNil))))) (sCut (sSet 7 (eCall 2 sp_built (aCons (e2 fMul (eLst (aCons (eVar 15) aNil)) (eVar 3)) (aCons (eVar 14) aNil)))) (sCut (sSet 8 (eCall 4 sp_law_mends (aCons (eVar 3) (aCons (eVar 14) (aCons (eVar 15) (aCons (eVar 4) aNil)))))) (sCut (sSet 9 (eCall 4 sp_seek (aCons (eVar 7) (aCons (eVar 14) (aCons (eVar 6) (aCons (eVar 5) aNil)))))) (sCut (sSet 10 (eIf (tBool (e2 fLt (eVar 4) (eVar 3))) (eVar 4) (eC .none))) (sCut (sIf (tNotD (tBool (eCall 2 sp_law_alike (aCons (eVar 9) (aCons (eTup (aCons (eVar 10) (aCons (eCall 2 sp_law_behind (aCons (eVar 7) (aCons (eVar 8) aNil))) (aCons (eVar 8) aNil)))) aNil))))) (sRet (eC (.bool false))) sNx) (sCut (sSet 11 (eLc [17, 18, 19, 20] (iLst (eVar 8)) (gTupD 4 (gConsD (gSet 17) (gConsD (gSet 18) (gConsD (gSet 19) (gConsD (gSet 20) gNilD))))) tYesD (eTup (aCons (eVar 17) (aCons (eVar 18) (aCons (eVar 20) aNil)))))) (sCut (sSet 12 (eCallI 1 1 sp_law_take (aCons (e2 fAdd (eN fLen (aCons (eVar 11) aNil)) (eC (.int 1))) aNil))) (sCut (sIf (tOrD (tBool (e2 fNe (eCall 2 sp_done (aCons (eVar 7) (aCons (eVar 11) aNil))) (e2 fIx (eVar 9) (eC (.int 1))))) (tBool (e2 fIsNot (eCall 2 sp_is_safe (aCons (eCall 2 sp_done (aCons (eVar 7) (aCons (eSl (eVar 11) pNone (pSome (eVar 12))) aNil))) (aCons (eVar 14) aNil))) (eC (.bool true))))) (sRet (eC (.bool false))) sNx) (sCut (sIf (tOrD (tBool (e2 fIsNot (eCall 2 sp_is_safe (aCons (e2 fIx (eVar 9) (eC (.int 1))) (aCons (eVar 14) aNil))) (eC (.bool true)))) (tBool (e2 fNe (eCall 1 sp_greatest (aCons (e2 fIx (eVar 9) (eC (.int 1))) aNil)) (eIf (tBool (e2 fLt (eVar 4) (eVar 3))) (eVar 15) (eC (.int 0)))))) (sRet (eC (.bool false))) sNx) (sCut (sIf (tNotD (tBool (eCall 4 sp_law_again_right (aCons (eVar 14) (aCons (eVar 6) (aCons (eVar 5) (aCons (eVar 9) aNil))))))) (sRet (eC (.bool false))) sNx) (sCut (sSet 13 (eCall 4 sp_seek (aCons (eVar 7) (aCons (eVar 14) (aCons (e2 fMul (eLst (aCons (eVar 15) aNil)) (eVar 3)) (aCons (eVar 5) aNil)))))) (sIf (tOrD (tNotD (tBool (eCall 2 sp_law_alike (aCons (eVar 13) (aCons (eTup (aCons (eC (.int 0)) (aCons (eVar 7) (aCons (eLst aNil) aNil)))) aNil))))) (tBool (e2 fNe (eCall 4 sp_seek (aCons (eVar 7) (aCons (eVar 14) (aCons (eVar 6) (aCons (e2 fAdd (eVar 15) (eC (.int 1))) aNil))))) (eTup (aCons (eC .none) (aCons (eVar 7) (aCons (eLst aNil) aNil))))))) (sRet (eC (.bool false))) sNx)))))))))))))))))) (sRet (eC (.bool true)))))
theorem m_law : ∀ (ns : List Int) ds Q, ds.length = 0 → sp_law ns ds Q → w_law (endsP false Q) (rho0 (.list (ns.map .int) :: ds) 20) := by
  rintro ns ds Q - ⟨rfl, q⟩
  unfold w_law
  refine cut_of (fun ρ => ∃ d, BagOk (2 ^ 39) d ∧ ρ = rho0 [.list (ns.map .int), d] 19) ?_ ?_
  rotate_left
  · intro nx hnx
    simp only [sSeq, sIf, sSet, sSetL, sAsg, sRet, sRetV, sRetL, sRetN, sNx, sBk, sCt, sApp, sExt, sExpr, sFor, sPar, sParL, sPut, gSet, gNilD, gConsD, gTupD, tBool, tNotD, tAndD, tOrD, tYesD, e1, e2, eN, eC, eVar, eIxO, aNil, aCons, eTup, eLst, eFlat, eIf, eChain, eAnd, eOr, eNot, eSl, pNone, pSome, eCall, eCallI, eCallS, iLst, iRg1, iRg2, iRg3, iZipD, iEnumD, sPut2, sSet2, eLc, wipeR, restR, fAdd_i, fAdd_l, fSub_i, fMul_i, fMul_l, fRep_l, fDiv_i, fMod_i, fPow_i, fNeg_i, fCmp_i, fLt, fLe, fGt, fGe, fLen_l, fLen_t, fInt_i, fInt_b, fAbs_i, fMax_i, fMax_l, fMin_i, fSum_l, fList_l, fList_t, fRev_l, fSl_l, fIx_l, fIx_t, fIs_n, fIsNot_n, fIs_b, fIsNot_b, isNone_n, isNone_i, isNone_l, isNone_t, isT_tt, isT_ii, isT_bi, isT_ll, fIsT, fEq, fNe, eqOk_i, eqOk_s, eqOk_l, eqOk_t, eqOk_n, eqv_nil, eqv_int, List.isEmpty_nil, List.isEmpty_cons, eq_self, atI_0, atI_1, atI_2, atI_3, atI_last, exists_eq', Int.cast_ofNat_Int, tab_len, endsP, endsI, rho0, List.set_cons_zero, List.set_cons_succ, List.getElem?_cons_zero, List.getElem?_cons_succ, Option.some.injEq, List.cons.injEq, exists_eq_left', exists_eq, and_assoc, exists_and_left, true_and, and_true, id_eq, List.map_cons, List.map_nil, List.replicate_succ, List.replicate_zero, List.cons_append, List.nil_append, List.length_cons, List.length_nil, PyData.bool.injEq, PyData.int.injEq, PyData.list.injEq, PyData.tuple.injEq, Bool.not_true, Bool.not_false, Bool.false_eq_true, if_true, if_false, ite_true, ite_false, decide_eq_true_eq, Nat.zero_add, Nat.zero_le, Nat.reduceAdd, Nat.reduceSub, Option.join, Option.bind_some, List.getElem?_nil]
    refine ⟨ns, rfl, rfl, fun d hB => ?_⟩
    obtain ⟨a, m, t, cs, e, _⟩ := id hB
    exact ⟨_, e, hnx _ ⟨d, hB, by rw [e]; rfl⟩⟩
  rintro ρ ⟨d0, hB0, rfl⟩
  refine cut_in ?_
  simp only [sSeq, sIf, sSet, sSetL, sAsg, sRet, sRetV, sRetL, sRetN, sNx, sBk, sCt, sApp, sExt, sExpr, sFor, sPar, sParL, sPut, gSet, gNilD, gConsD, gTupD, tBool, tNotD, tAndD, tOrD, tYesD, e1, e2, eN, eC, eVar, eIxO, aNil, aCons, eTup, eLst, eFlat, eIf, eChain, eAnd, eOr, eNot, eSl, pNone, pSome, eCall, eCallI, eCallS, iLst, iRg1, iRg2, iRg3, iZipD, iEnumD, sPut2, sSet2, eLc, wipeR, restR, fAdd_i, fAdd_l, fSub_i, fMul_i, fMul_l, fRep_l, fDiv_i, fMod_i, fPow_i, fNeg_i, fCmp_i, fLt, fLe, fGt, fGe, fLen_l, fLen_t, fInt_i, fInt_b, fAbs_i, fMax_i, fMax_l, fMin_i, fSum_l, fList_l, fList_t, fRev_l, fSl_l, fIx_l, fIx_t, fIs_n, fIsNot_n, fIs_b, fIsNot_b, isNone_n, isNone_i, isNone_l, isNone_t, isT_tt, isT_ii, isT_bi, isT_ll, fIsT, fEq, fNe, eqOk_i, eqOk_s, eqOk_l, eqOk_t, eqOk_n, eqv_nil, eqv_int, List.isEmpty_nil, List.isEmpty_cons, eq_self, atI_0, atI_1, atI_2, atI_3, atI_last, exists_eq', Int.cast_ofNat_Int, tab_len, endsP, endsI, rho0, List.set_cons_zero, List.set_cons_succ, List.getElem?_cons_zero, List.getElem?_cons_succ, Option.some.injEq, List.cons.injEq, exists_eq_left', exists_eq, and_assoc, exists_and_left, true_and, and_true, id_eq, List.map_cons, List.map_nil, List.replicate_succ, List.replicate_zero, List.cons_append, List.nil_append, List.length_cons, List.length_nil, PyData.bool.injEq, PyData.int.injEq, PyData.list.injEq, PyData.tuple.injEq, Bool.not_true, Bool.not_false, Bool.false_eq_true, if_true, if_false, ite_true, ite_false, decide_eq_true_eq, Nat.zero_add, Nat.zero_le, Nat.reduceAdd, Nat.reduceSub, Option.join, Option.bind_some, List.getElem?_nil]
  refine ⟨by decide, by decide, ?_⟩
  rw [show rngD 0 (Int.toNat 3) = tab 3 fun i => .int (i : Int) from rngD_tab 3]
  refine forGo_tab _ _ (fun j ρ => ∃ d x2 x3 x4 x5 x6 x7 x8 x9 x10 x11 x12 x13 x14 x15 x16 x17 x18 x19 x20, BagOk (2 ^ 39 - 20 * j) d ∧ ρ = [some (.list (ns.map .int)), some d, x2, x3, x4, x5, x6, x7, x8, x9, x10, x11, x12, x13, x14, x15, x16, x17, x18, x19, x20])
    ⟨d0, _, _, _, _, _, _, _, _, _, _, _, _, _, _, _, _, _, _, _, hB0, rfl⟩ ?_ ?_
  · rintro ρ ⟨d, x2, x3, x4, x5, x6, x7, x8, x9, x10, x11, x12, x13, x14, x15, x16, x17, x18, x19, x20, hB, rfl⟩
    simp only [sSeq, sIf, sSet, sSetL, sAsg, sRet, sRetV, sRetL, sRetN, sNx, sBk, sCt, sApp, sExt, sExpr, sFor, sPar, sParL, sPut, gSet, gNilD, gConsD, gTupD, tBool, tNotD, tAndD, tOrD, tYesD, e1, e2, eN, eC, eVar, eIxO, aNil, aCons, eTup, eLst, eFlat, eIf, eChain, eAnd, eOr, eNot, eSl, pNone, pSome, eCall, eCallI, eCallS, iLst, iRg1, iRg2, iRg3, iZipD, iEnumD, sPut2, sSet2, eLc, wipeR, restR, fAdd_i, fAdd_l, fSub_i, fMul_i, fMul_l, fRep_l, fDiv_i, fMod_i, fPow_i, fNeg_i, fCmp_i, fLt, fLe, fGt, fGe, fLen_l, fLen_t, fInt_i, fInt_b, fAbs_i, fMax_i, fMax_l, fMin_i, fSum_l, fList_l, fList_t, fRev_l, fSl_l, fIx_l, fIx_t, fIs_n, fIsNot_n, fIs_b, fIsNot_b, isNone_n, isNone_i, isNone_l, isNone_t, isT_tt, isT_ii, isT_bi, isT_ll, fIsT, fEq, fNe, eqOk_i, eqOk_s, eqOk_l, eqOk_t, eqOk_n, eqv_nil, eqv_int, List.isEmpty_nil, List.isEmpty_cons, eq_self, atI_0, atI_1, atI_2, atI_3, atI_last, exists_eq', Int.cast_ofNat_Int, tab_len, endsP, endsI, rho0, List.set_cons_zero, List.set_cons_succ, List.getElem?_cons_zero, List.getElem?_cons_succ, Option.some.injEq, List.cons.injEq, exists_eq_left', exists_eq, and_assoc, exists_and_left, true_and, and_true, id_eq, List.map_cons, List.map_nil, List.replicate_succ, List.replicate_zero, List.cons_append, List.nil_append, List.length_cons, List.length_nil, PyData.bool.injEq, PyData.int.injEq, PyData.list.injEq, PyData.tuple.injEq, Bool.not_true, Bool.not_false, Bool.false_eq_true, if_true, if_false, ite_true, ite_false, decide_eq_true_eq, Nat.zero_add, Nat.zero_le, Nat.reduceAdd, Nat.reduceSub, Option.join, Option.bind_some, List.getElem?_nil]
    exact q
  rintro j hj ρ ⟨d, x2, x3, x4, x5, x6, x7, x8, x9, x10, x11, x12, x13, x14, x15, x16, x17, x18, x19, x20, hB, rfl⟩ nx hnx
  generalize hK : 2 ^ 39 - 20 * (j + 1) = K at hnx
  have hB : BagOk (K + 20) d := hB.mono (by omega)
  simp only [sSeq, sIf, sSet, sSetL, sAsg, sRet, sRetV, sRetL, sRetN, sNx, sBk, sCt, sApp, sExt, sExpr, sFor, sPar, sParL, sPut, gSet, gNilD, gConsD, gTupD, tBool, tNotD, tAndD, tOrD, tYesD, e1, e2, eN, eC, eVar, eIxO, aNil, aCons, eTup, eLst, eFlat, eIf, eChain, eAnd, eOr, eNot, eSl, pNone, pSome, eCall, eCallI, eCallS, iLst, iRg1, iRg2, iRg3, iZipD, iEnumD, sPut2, sSet2, eLc, wipeR, restR, fAdd_i, fAdd_l, fSub_i, fMul_i, fMul_l, fRep_l, fDiv_i, fMod_i, fPow_i, fNeg_i, fCmp_i, fLt, fLe, fGt, fGe, fLen_l, fLen_t, fInt_i, fInt_b, fAbs_i, fMax_i, fMax_l, fMin_i, fSum_l, fList_l, fList_t, fRev_l, fSl_l, fIx_l, fIx_t, fIs_n, fIsNot_n, fIs_b, fIsNot_b, isNone_n, isNone_i, isNone_l, isNone_t, isT_tt, isT_ii, isT_bi, isT_ll, fIsT, fEq, fNe, eqOk_i, eqOk_s, eqOk_l, eqOk_t, eqOk_n, eqv_nil, eqv_int, List.isEmpty_nil, List.isEmpty_cons, eq_self, atI_0, atI_1, atI_2, atI_3, atI_last, exists_eq', Int.cast_ofNat_Int, tab_len, endsP, endsI, rho0, List.set_cons_zero, List.set_cons_succ, List.getElem?_cons_zero, List.getElem?_cons_succ, Option.some.injEq, List.cons.injEq, exists_eq_left', exists_eq, and_assoc, exists_and_left, true_and, and_true, id_eq, List.map_cons, List.map_nil, List.replicate_succ, List.replicate_zero, List.cons_append, List.nil_append, List.length_cons, List.length_nil, PyData.bool.injEq, PyData.int.injEq, PyData.list.injEq, PyData.tuple.injEq, Bool.not_true, Bool.not_false, Bool.false_eq_true, if_true, if_false, ite_true, ite_false, decide_eq_true_eq, Nat.zero_add, Nat.zero_le, Nat.reduceAdd, Nat.reduceSub, Option.join, Option.bind_some, List.getElem?_nil]
  -- pages
  refine cut_in ?_
  simp only [sSeq, sIf, sSet, sSetL, sAsg, sRet, sRetV, sRetL, sRetN, sNx, sBk, sCt, sApp, sExt, sExpr, sFor, sPar, sParL, sPut, gSet, gNilD, gConsD, gTupD, tBool, tNotD, tAndD, tOrD, tYesD, e1, e2, eN, eC, eVar, eIxO, aNil, aCons, eTup, eLst, eFlat, eIf, eChain, eAnd, eOr, eNot, eSl, pNone, pSome, eCall, eCallI, eCallS, iLst, iRg1, iRg2, iRg3, iZipD, iEnumD, sPut2, sSet2, eLc, wipeR, restR, fAdd_i, fAdd_l, fSub_i, fMul_i, fMul_l, fRep_l, fDiv_i, fMod_i, fPow_i, fNeg_i, fCmp_i, fLt, fLe, fGt, fGe, fLen_l, fLen_t, fInt_i, fInt_b, fAbs_i, fMax_i, fMax_l, fMin_i, fSum_l, fList_l, fList_t, fRev_l, fSl_l, fIx_l, fIx_t, fIs_n, fIsNot_n, fIs_b, fIsNot_b, isNone_n, isNone_i, isNone_l, isNone_t, isT_tt, isT_ii, isT_bi, isT_ll, fIsT, fEq, fNe, eqOk_i, eqOk_s, eqOk_l, eqOk_t, eqOk_n, eqv_nil, eqv_int, List.isEmpty_nil, List.isEmpty_cons, eq_self, atI_0, atI_1, atI_2, atI_3, atI_last, exists_eq', Int.cast_ofNat_Int, tab_len, endsP, endsI, rho0, List.set_cons_zero, List.set_cons_succ, List.getElem?_cons_zero, List.getElem?_cons_succ, Option.some.injEq, List.cons.injEq, exists_eq_left', exists_eq, and_assoc, exists_and_left, true_and, and_true, id_eq, List.map_cons, List.map_nil, List.replicate_succ, List.replicate_zero, List.cons_append, List.nil_append, List.length_cons, List.length_nil, PyData.bool.injEq, PyData.int.injEq, PyData.list.injEq, PyData.tuple.injEq, Bool.not_true, Bool.not_false, Bool.false_eq_true, if_true, if_false, ite_true, ite_false, decide_eq_true_eq, Nat.zero_add, Nat.zero_le, Nat.reduceAdd, Nat.reduceSub, Option.join, Option.bind_some, List.getElem?_nil]
  refine ⟨K + 19, 120, hB, by decide, by decide, rfl, fun r1 d1 hr1 hB1 => ?_⟩
  simp only [sSeq, sIf, sSet, sSetL, sAsg, sRet, sRetV, sRetL, sRetN, sNx, sBk, sCt, sApp, sExt, sExpr, sFor, sPar, sParL, sPut, gSet, gNilD, gConsD, gTupD, tBool, tNotD, tAndD, tOrD, tYesD, e1, e2, eN, eC, eVar, eIxO, aNil, aCons, eTup, eLst, eFlat, eIf, eChain, eAnd, eOr, eNot, eSl, pNone, pSome, eCall, eCallI, eCallS, iLst, iRg1, iRg2, iRg3, iZipD, iEnumD, sPut2, sSet2, eLc, wipeR, restR, fAdd_i, fAdd_l, fSub_i, fMul_i, fMul_l, fRep_l, fDiv_i, fMod_i, fPow_i, fNeg_i, fCmp_i, fLt, fLe, fGt, fGe, fLen_l, fLen_t, fInt_i, fInt_b, fAbs_i, fMax_i, fMax_l, fMin_i, fSum_l, fList_l, fList_t, fRev_l, fSl_l, fIx_l, fIx_t, fIs_n, fIsNot_n, fIs_b, fIsNot_b, isNone_n, isNone_i, isNone_l, isNone_t, isT_tt, isT_ii, isT_bi, isT_ll, fIsT, fEq, fNe, eqOk_i, eqOk_s, eqOk_l, eqOk_t, eqOk_n, eqv_nil, eqv_int, List.isEmpty_nil, List.isEmpty_cons, eq_self, atI_0, atI_1, atI_2, atI_3, atI_last, exists_eq', Int.cast_ofNat_Int, tab_len, endsP, endsI, rho0, List.set_cons_zero, List.set_cons_succ, List.getElem?_cons_zero, List.getElem?_cons_succ, Option.some.injEq, List.cons.injEq, exists_eq_left', exists_eq, and_assoc, exists_and_left, true_and, and_true, id_eq, List.map_cons, List.map_nil, List.replicate_succ, List.replicate_zero, List.cons_append, List.nil_append, List.length_cons, List.length_nil, PyData.bool.injEq, PyData.int.injEq, PyData.list.injEq, PyData.tuple.injEq, Bool.not_true, Bool.not_false, Bool.false_eq_true, if_true, if_false, ite_true, ite_false, decide_eq_true_eq, Nat.zero_add, Nat.zero_le, Nat.reduceAdd, Nat.reduceSub, Option.join, Option.bind_some, List.getElem?_nil]
  refine ⟨K + 18, 20, hB1, by decide, by decide, rfl, fun r2 d2 hr2 hB2 => ?_⟩
  simp only [sSeq, sIf, sSet, sSetL, sAsg, sRet, sRetV, sRetL, sRetN, sNx, sBk, sCt, sApp, sExt, sExpr, sFor, sPar, sParL, sPut, gSet, gNilD, gConsD, gTupD, tBool, tNotD, tAndD, tOrD, tYesD, e1, e2, eN, eC, eVar, eIxO, aNil, aCons, eTup, eLst, eFlat, eIf, eChain, eAnd, eOr, eNot, eSl, pNone, pSome, eCall, eCallI, eCallS, iLst, iRg1, iRg2, iRg3, iZipD, iEnumD, sPut2, sSet2, eLc, wipeR, restR, fAdd_i, fAdd_l, fSub_i, fMul_i, fMul_l, fRep_l, fDiv_i, fMod_i, fPow_i, fNeg_i, fCmp_i, fLt, fLe, fGt, fGe, fLen_l, fLen_t, fInt_i, fInt_b, fAbs_i, fMax_i, fMax_l, fMin_i, fSum_l, fList_l, fList_t, fRev_l, fSl_l, fIx_l, fIx_t, fIs_n, fIsNot_n, fIs_b, fIsNot_b, isNone_n, isNone_i, isNone_l, isNone_t, isT_tt, isT_ii, isT_bi, isT_ll, fIsT, fEq, fNe, eqOk_i, eqOk_s, eqOk_l, eqOk_t, eqOk_n, eqv_nil, eqv_int, List.isEmpty_nil, List.isEmpty_cons, eq_self, atI_0, atI_1, atI_2, atI_3, atI_last, exists_eq', Int.cast_ofNat_Int, tab_len, endsP, endsI, rho0, List.set_cons_zero, List.set_cons_succ, List.getElem?_cons_zero, List.getElem?_cons_succ, Option.some.injEq, List.cons.injEq, exists_eq_left', exists_eq, and_assoc, exists_and_left, true_and, and_true, id_eq, List.map_cons, List.map_nil, List.replicate_succ, List.replicate_zero, List.cons_append, List.nil_append, List.length_cons, List.length_nil, PyData.bool.injEq, PyData.int.injEq, PyData.list.injEq, PyData.tuple.injEq, Bool.not_true, Bool.not_false, Bool.false_eq_true, if_true, if_false, ite_true, ite_false, decide_eq_true_eq, Nat.zero_add, Nat.zero_le, Nat.reduceAdd, Nat.reduceSub, Option.join, Option.bind_some, List.getElem?_nil]
  refine ⟨by decide, K + 17, _, hB2, by simp, by simp, rfl, fun dp hdp d3 hB3 => ?_⟩
  obtain ⟨p, rfl, hp, hp120⟩ : ∃ p : Nat, dp = .int (p : Int) ∧ 0 < p ∧ p ≤ 120 := by
    simp only [List.mem_cons, List.not_mem_nil, or_false] at hdp
    rcases hdp with rfl | rfl | rfl | rfl
    · exact ⟨1 + r1, by congr 1, by omega, by omega⟩
    · exact ⟨1 + r2, by congr 1, by omega, by omega⟩
    · exact ⟨64, rfl, by omega, by omega⟩
    · exact ⟨1, rfl, by omega, by omega⟩
  -- fan, room
  refine cut_in ?_
  simp only [sSeq, sIf, sSet, sSetL, sAsg, sRet, sRetV, sRetL, sRetN, sNx, sBk, sCt, sApp, sExt, sExpr, sFor, sPar, sParL, sPut, gSet, gNilD, gConsD, gTupD, tBool, tNotD, tAndD, tOrD, tYesD, e1, e2, eN, eC, eVar, eIxO, aNil, aCons, eTup, eLst, eFlat, eIf, eChain, eAnd, eOr, eNot, eSl, pNone, pSome, eCall, eCallI, eCallS, iLst, iRg1, iRg2, iRg3, iZipD, iEnumD, sPut2, sSet2, eLc, wipeR, restR, fAdd_i, fAdd_l, fSub_i, fMul_i, fMul_l, fRep_l, fDiv_i, fMod_i, fPow_i, fNeg_i, fCmp_i, fLt, fLe, fGt, fGe, fLen_l, fLen_t, fInt_i, fInt_b, fAbs_i, fMax_i, fMax_l, fMin_i, fSum_l, fList_l, fList_t, fRev_l, fSl_l, fIx_l, fIx_t, fIs_n, fIsNot_n, fIs_b, fIsNot_b, isNone_n, isNone_i, isNone_l, isNone_t, isT_tt, isT_ii, isT_bi, isT_ll, fIsT, fEq, fNe, eqOk_i, eqOk_s, eqOk_l, eqOk_t, eqOk_n, eqv_nil, eqv_int, List.isEmpty_nil, List.isEmpty_cons, eq_self, atI_0, atI_1, atI_2, atI_3, atI_last, exists_eq', Int.cast_ofNat_Int, tab_len, endsP, endsI, rho0, List.set_cons_zero, List.set_cons_succ, List.getElem?_cons_zero, List.getElem?_cons_succ, Option.some.injEq, List.cons.injEq, exists_eq_left', exists_eq, and_assoc, exists_and_left, true_and, and_true, id_eq, List.map_cons, List.map_nil, List.replicate_succ, List.replicate_zero, List.cons_append, List.nil_append, List.length_cons, List.length_nil, PyData.bool.injEq, PyData.int.injEq, PyData.list.injEq, PyData.tuple.injEq, Bool.not_true, Bool.not_false, Bool.false_eq_true, if_true, if_false, ite_true, ite_false, decide_eq_true_eq, Nat.zero_add, Nat.zero_le, Nat.reduceAdd, Nat.reduceSub, Option.join, Option.bind_some, List.getElem?_nil]
  refine ⟨K + 16, 7, hB3, by decide, by decide, rfl, fun r3 d4 hr3 hB4 => ?_⟩
  simp only [sSeq, sIf, sSet, sSetL, sAsg, sRet, sRetV, sRetL, sRetN, sNx, sBk, sCt, sApp, sExt, sExpr, sFor, sPar, sParL, sPut, gSet, gNilD, gConsD, gTupD, tBool, tNotD, tAndD, tOrD, tYesD, e1, e2, eN, eC, eVar, eIxO, aNil, aCons, eTup, eLst, eFlat, eIf, eChain, eAnd, eOr, eNot, eSl, pNone, pSome, eCall, eCallI, eCallS, iLst, iRg1, iRg2, iRg3, iZipD, iEnumD, sPut2, sSet2, eLc, wipeR, restR, fAdd_i, fAdd_l, fSub_i, fMul_i, fMul_l, fRep_l, fDiv_i, fMod_i, fPow_i, fNeg_i, fCmp_i, fLt, fLe, fGt, fGe, fLen_l, fLen_t, fInt_i, fInt_b, fAbs_i, fMax_i, fMax_l, fMin_i, fSum_l, fList_l, fList_t, fRev_l, fSl_l, fIx_l, fIx_t, fIs_n, fIsNot_n, fIs_b, fIsNot_b, isNone_n, isNone_i, isNone_l, isNone_t, isT_tt, isT_ii, isT_bi, isT_ll, fIsT, fEq, fNe, eqOk_i, eqOk_s, eqOk_l, eqOk_t, eqOk_n, eqv_nil, eqv_int, List.isEmpty_nil, List.isEmpty_cons, eq_self, atI_0, atI_1, atI_2, atI_3, atI_last, exists_eq', Int.cast_ofNat_Int, tab_len, endsP, endsI, rho0, List.set_cons_zero, List.set_cons_succ, List.getElem?_cons_zero, List.getElem?_cons_succ, Option.some.injEq, List.cons.injEq, exists_eq_left', exists_eq, and_assoc, exists_and_left, true_and, and_true, id_eq, List.map_cons, List.map_nil, List.replicate_succ, List.replicate_zero, List.cons_append, List.nil_append, List.length_cons, List.length_nil, PyData.bool.injEq, PyData.int.injEq, PyData.list.injEq, PyData.tuple.injEq, Bool.not_true, Bool.not_false, Bool.false_eq_true, if_true, if_false, ite_true, ite_false, decide_eq_true_eq, Nat.zero_add, Nat.zero_le, Nat.reduceAdd, Nat.reduceSub, Option.join, Option.bind_some, List.getElem?_nil]
  refine ⟨K + 12, 1000000000000000000, hB4, by decide, by decide, rfl, fun r4 d5 hr4 hB5 => ?_⟩
  simp only [sSeq, sIf, sSet, sSetL, sAsg, sRet, sRetV, sRetL, sRetN, sNx, sBk, sCt, sApp, sExt, sExpr, sFor, sPar, sParL, sPut, gSet, gNilD, gConsD, gTupD, tBool, tNotD, tAndD, tOrD, tYesD, e1, e2, eN, eC, eVar, eIxO, aNil, aCons, eTup, eLst, eFlat, eIf, eChain, eAnd, eOr, eNot, eSl, pNone, pSome, eCall, eCallI, eCallS, iLst, iRg1, iRg2, iRg3, iZipD, iEnumD, sPut2, sSet2, eLc, wipeR, restR, fAdd_i, fAdd_l, fSub_i, fMul_i, fMul_l, fRep_l, fDiv_i, fMod_i, fPow_i, fNeg_i, fCmp_i, fLt, fLe, fGt, fGe, fLen_l, fLen_t, fInt_i, fInt_b, fAbs_i, fMax_i, fMax_l, fMin_i, fSum_l, fList_l, fList_t, fRev_l, fSl_l, fIx_l, fIx_t, fIs_n, fIsNot_n, fIs_b, fIsNot_b, isNone_n, isNone_i, isNone_l, isNone_t, isT_tt, isT_ii, isT_bi, isT_ll, fIsT, fEq, fNe, eqOk_i, eqOk_s, eqOk_l, eqOk_t, eqOk_n, eqv_nil, eqv_int, List.isEmpty_nil, List.isEmpty_cons, eq_self, atI_0, atI_1, atI_2, atI_3, atI_last, exists_eq', Int.cast_ofNat_Int, tab_len, endsP, endsI, rho0, List.set_cons_zero, List.set_cons_succ, List.getElem?_cons_zero, List.getElem?_cons_succ, Option.some.injEq, List.cons.injEq, exists_eq_left', exists_eq, and_assoc, exists_and_left, true_and, and_true, id_eq, List.map_cons, List.map_nil, List.replicate_succ, List.replicate_zero, List.cons_append, List.nil_append, List.length_cons, List.length_nil, PyData.bool.injEq, PyData.int.injEq, PyData.list.injEq, PyData.tuple.injEq, Bool.not_true, Bool.not_false, Bool.false_eq_true, if_true, if_false, ite_true, ite_false, decide_eq_true_eq, Nat.zero_add, Nat.zero_le, Nat.reduceAdd, Nat.reduceSub, Option.join, Option.bind_some, List.getElem?_nil]
  obtain ⟨f, hf, hf8, ef⟩ : ∃ f : Nat, 2 ≤ f ∧ f ≤ 8 ∧ (2 : Int) + (r3 : Int) = (f : Int) := ⟨2 + r3, by omega, by omega, by omega⟩
  obtain ⟨rm, hrm1, hrm2, erm⟩ : ∃ rm : Nat, 1 ≤ rm ∧ rm ≤ 10 ^ 18 ∧ (1 : Int) + (r4 : Int) = (rm : Int) := ⟨1 + r4, by omega, by omega, by omega⟩
  rw [ef, erm]
  refine ⟨by decide, ?_⟩
  -- page
  refine cut_in ?_
  simp only [sSeq, sIf, sSet, sSetL, sAsg, sRet, sRetV, sRetL, sRetN, sNx, sBk, sCt, sApp, sExt, sExpr, sFor, sPar, sParL, sPut, gSet, gNilD, gConsD, gTupD, tBool, tNotD, tAndD, tOrD, tYesD, e1, e2, eN, eC, eVar, eIxO, aNil, aCons, eTup, eLst, eFlat, eIf, eChain, eAnd, eOr, eNot, eSl, pNone, pSome, eCall, eCallI, eCallS, iLst, iRg1, iRg2, iRg3, iZipD, iEnumD, sPut2, sSet2, eLc, wipeR, restR, fAdd_i, fAdd_l, fSub_i, fMul_i, fMul_l, fRep_l, fDiv_i, fMod_i, fPow_i, fNeg_i, fCmp_i, fLt, fLe, fGt, fGe, fLen_l, fLen_t, fInt_i, fInt_b, fAbs_i, fMax_i, fMax_l, fMin_i, fSum_l, fList_l, fList_t, fRev_l, fSl_l, fIx_l, fIx_t, fIs_n, fIsNot_n, fIs_b, fIsNot_b, isNone_n, isNone_i, isNone_l, isNone_t, isT_tt, isT_ii, isT_bi, isT_ll, fIsT, fEq, fNe, eqOk_i, eqOk_s, eqOk_l, eqOk_t, eqOk_n, eqv_nil, eqv_int, List.isEmpty_nil, List.isEmpty_cons, eq_self, atI_0, atI_1, atI_2, atI_3, atI_last, exists_eq', Int.cast_ofNat_Int, tab_len, endsP, endsI, rho0, List.set_cons_zero, List.set_cons_succ, List.getElem?_cons_zero, List.getElem?_cons_succ, Option.some.injEq, List.cons.injEq, exists_eq_left', exists_eq, and_assoc, exists_and_left, true_and, and_true, id_eq, List.map_cons, List.map_nil, List.replicate_succ, List.replicate_zero, List.cons_append, List.nil_append, List.length_cons, List.length_nil, PyData.bool.injEq, PyData.int.injEq, PyData.list.injEq, PyData.tuple.injEq, Bool.not_true, Bool.not_false, Bool.false_eq_true, if_true, if_false, ite_true, ite_false, decide_eq_true_eq, Nat.zero_add, Nat.zero_le, Nat.reduceAdd, Nat.reduceSub, Option.join, Option.bind_some, List.getElem?_nil]
  refine ⟨K + 11, p + 1, hB5, by omega, by omega, rfl, fun r5 d6 hr5 hB6 => ?_⟩
  simp only [sSeq, sIf, sSet, sSetL, sAsg, sRet, sRetV, sRetL, sRetN, sNx, sBk, sCt, sApp, sExt, sExpr, sFor, sPar, sParL, sPut, gSet, gNilD, gConsD, gTupD, tBool, tNotD, tAndD, tOrD, tYesD, e1, e2, eN, eC, eVar, eIxO, aNil, aCons, eTup, eLst, eFlat, eIf, eChain, eAnd, eOr, eNot, eSl, pNone, pSome, eCall, eCallI, eCallS, iLst, iRg1, iRg2, iRg3, iZipD, iEnumD, sPut2, sSet2, eLc, wipeR, restR, fAdd_i, fAdd_l, fSub_i, fMul_i, fMul_l, fRep_l, fDiv_i, fMod_i, fPow_i, fNeg_i, fCmp_i, fLt, fLe, fGt, fGe, fLen_l, fLen_t, fInt_i, fInt_b, fAbs_i, fMax_i, fMax_l, fMin_i, fSum_l, fList_l, fList_t, fRev_l, fSl_l, fIx_l, fIx_t, fIs_n, fIsNot_n, fIs_b, fIsNot_b, isNone_n, isNone_i, isNone_l, isNone_t, isT_tt, isT_ii, isT_bi, isT_ll, fIsT, fEq, fNe, eqOk_i, eqOk_s, eqOk_l, eqOk_t, eqOk_n, eqv_nil, eqv_int, List.isEmpty_nil, List.isEmpty_cons, eq_self, atI_0, atI_1, atI_2, atI_3, atI_last, exists_eq', Int.cast_ofNat_Int, tab_len, endsP, endsI, rho0, List.set_cons_zero, List.set_cons_succ, List.getElem?_cons_zero, List.getElem?_cons_succ, Option.some.injEq, List.cons.injEq, exists_eq_left', exists_eq, and_assoc, exists_and_left, true_and, and_true, id_eq, List.map_cons, List.map_nil, List.replicate_succ, List.replicate_zero, List.cons_append, List.nil_append, List.length_cons, List.length_nil, PyData.bool.injEq, PyData.int.injEq, PyData.list.injEq, PyData.tuple.injEq, Bool.not_true, Bool.not_false, Bool.false_eq_true, if_true, if_false, ite_true, ite_false, decide_eq_true_eq, Nat.zero_add, Nat.zero_le, Nat.reduceAdd, Nat.reduceSub, Option.join, Option.bind_some, List.getElem?_nil]
  refine ⟨by decide, K + 10, _, hB6, by simp, by simp, rfl, fun dpg hdpg d7 hB7 => ?_⟩
  obtain ⟨pg, rfl, hpg⟩ : ∃ pg : Nat, dpg = .int (pg : Int) ∧ pg ≤ p := by
    simp only [List.mem_cons, List.not_mem_nil, or_false] at hdpg
    rcases hdpg with rfl | rfl | rfl | rfl
    · exact ⟨r5, rfl, by omega⟩
    · exact ⟨p, rfl, by omega⟩
    · exact ⟨0, rfl, by omega⟩
    · exact ⟨min p f, by congr 1; omega, by omega⟩
  -- need
  refine cut_in ?_
  simp only [sSeq, sIf, sSet, sSetL, sAsg, sRet, sRetV, sRetL, sRetN, sNx, sBk, sCt, sApp, sExt, sExpr, sFor, sPar, sParL, sPut, gSet, gNilD, gConsD, gTupD, tBool, tNotD, tAndD, tOrD, tYesD, e1, e2, eN, eC, eVar, eIxO, aNil, aCons, eTup, eLst, eFlat, eIf, eChain, eAnd, eOr, eNot, eSl, pNone, pSome, eCall, eCallI, eCallS, iLst, iRg1, iRg2, iRg3, iZipD, iEnumD, sPut2, sSet2, eLc, wipeR, restR, fAdd_i, fAdd_l, fSub_i, fMul_i, fMul_l, fRep_l, fDiv_i, fMod_i, fPow_i, fNeg_i, fCmp_i, fLt, fLe, fGt, fGe, fLen_l, fLen_t, fInt_i, fInt_b, fAbs_i, fMax_i, fMax_l, fMin_i, fSum_l, fList_l, fList_t, fRev_l, fSl_l, fIx_l, fIx_t, fIs_n, fIsNot_n, fIs_b, fIsNot_b, isNone_n, isNone_i, isNone_l, isNone_t, isT_tt, isT_ii, isT_bi, isT_ll, fIsT, fEq, fNe, eqOk_i, eqOk_s, eqOk_l, eqOk_t, eqOk_n, eqv_nil, eqv_int, List.isEmpty_nil, List.isEmpty_cons, eq_self, atI_0, atI_1, atI_2, atI_3, atI_last, exists_eq', Int.cast_ofNat_Int, tab_len, endsP, endsI, rho0, List.set_cons_zero, List.set_cons_succ, List.getElem?_cons_zero, List.getElem?_cons_succ, Option.some.injEq, List.cons.injEq, exists_eq_left', exists_eq, and_assoc, exists_and_left, true_and, and_true, id_eq, List.map_cons, List.map_nil, List.replicate_succ, List.replicate_zero, List.cons_append, List.nil_append, List.length_cons, List.length_nil, PyData.bool.injEq, PyData.int.injEq, PyData.list.injEq, PyData.tuple.injEq, Bool.not_true, Bool.not_false, Bool.false_eq_true, if_true, if_false, ite_true, ite_false, decide_eq_true_eq, Nat.zero_add, Nat.zero_le, Nat.reduceAdd, Nat.reduceSub, Option.join, Option.bind_some, List.getElem?_nil]
  refine ⟨K + 6, rm, hB7, by omega, Nat.le_trans hrm2 (by decide), rfl, fun r6 d8 hr6 hB8 => ?_⟩
  simp only [sSeq, sIf, sSet, sSetL, sAsg, sRet, sRetV, sRetL, sRetN, sNx, sBk, sCt, sApp, sExt, sExpr, sFor, sPar, sParL, sPut, gSet, gNilD, gConsD, gTupD, tBool, tNotD, tAndD, tOrD, tYesD, e1, e2, eN, eC, eVar, eIxO, aNil, aCons, eTup, eLst, eFlat, eIf, eChain, eAnd, eOr, eNot, eSl, pNone, pSome, eCall, eCallI, eCallS, iLst, iRg1, iRg2, iRg3, iZipD, iEnumD, sPut2, sSet2, eLc, wipeR, restR, fAdd_i, fAdd_l, fSub_i, fMul_i, fMul_l, fRep_l, fDiv_i, fMod_i, fPow_i, fNeg_i, fCmp_i, fLt, fLe, fGt, fGe, fLen_l, fLen_t, fInt_i, fInt_b, fAbs_i, fMax_i, fMax_l, fMin_i, fSum_l, fList_l, fList_t, fRev_l, fSl_l, fIx_l, fIx_t, fIs_n, fIsNot_n, fIs_b, fIsNot_b, isNone_n, isNone_i, isNone_l, isNone_t, isT_tt, isT_ii, isT_bi, isT_ll, fIsT, fEq, fNe, eqOk_i, eqOk_s, eqOk_l, eqOk_t, eqOk_n, eqv_nil, eqv_int, List.isEmpty_nil, List.isEmpty_cons, eq_self, atI_0, atI_1, atI_2, atI_3, atI_last, exists_eq', Int.cast_ofNat_Int, tab_len, endsP, endsI, rho0, List.set_cons_zero, List.set_cons_succ, List.getElem?_cons_zero, List.getElem?_cons_succ, Option.some.injEq, List.cons.injEq, exists_eq_left', exists_eq, and_assoc, exists_and_left, true_and, and_true, id_eq, List.map_cons, List.map_nil, List.replicate_succ, List.replicate_zero, List.cons_append, List.nil_append, List.length_cons, List.length_nil, PyData.bool.injEq, PyData.int.injEq, PyData.list.injEq, PyData.tuple.injEq, Bool.not_true, Bool.not_false, Bool.false_eq_true, if_true, if_false, ite_true, ite_false, decide_eq_true_eq, Nat.zero_add, Nat.zero_le, Nat.reduceAdd, Nat.reduceSub, Option.join, Option.bind_some, List.getElem?_nil]
  obtain ⟨nd, hnd1, hnd2, end_⟩ : ∃ nd : Int, 1 ≤ nd ∧ nd ≤ (rm : Int) ∧ (1 : Int) + (r6 : Int) = nd := ⟨_, by omega, by omega, rfl⟩
  rw [end_]
  -- rooms
  refine cut_in ?_
  simp only [sSeq, sIf, sSet, sSetL, sAsg, sRet, sRetV, sRetL, sRetN, sNx, sBk, sCt, sApp, sExt, sExpr, sFor, sPar, sParL, sPut, gSet, gNilD, gConsD, gTupD, tBool, tNotD, tAndD, tOrD, tYesD, e1, e2, eN, eC, eVar, eIxO, aNil, aCons, eTup, eLst, eFlat, eIf, eChain, eAnd, eOr, eNot, eSl, pNone, pSome, eCall, eCallI, eCallS, iLst, iRg1, iRg2, iRg3, iZipD, iEnumD, sPut2, sSet2, eLc, wipeR, restR, fAdd_i, fAdd_l, fSub_i, fMul_i, fMul_l, fRep_l, fDiv_i, fMod_i, fPow_i, fNeg_i, fCmp_i, fLt, fLe, fGt, fGe, fLen_l, fLen_t, fInt_i, fInt_b, fAbs_i, fMax_i, fMax_l, fMin_i, fSum_l, fList_l, fList_t, fRev_l, fSl_l, fIx_l, fIx_t, fIs_n, fIsNot_n, fIs_b, fIsNot_b, isNone_n, isNone_i, isNone_l, isNone_t, isT_tt, isT_ii, isT_bi, isT_ll, fIsT, fEq, fNe, eqOk_i, eqOk_s, eqOk_l, eqOk_t, eqOk_n, eqv_nil, eqv_int, List.isEmpty_nil, List.isEmpty_cons, eq_self, atI_0, atI_1, atI_2, atI_3, atI_last, exists_eq', Int.cast_ofNat_Int, tab_len, endsP, endsI, rho0, List.set_cons_zero, List.set_cons_succ, List.getElem?_cons_zero, List.getElem?_cons_succ, Option.some.injEq, List.cons.injEq, exists_eq_left', exists_eq, and_assoc, exists_and_left, true_and, and_true, id_eq, List.map_cons, List.map_nil, List.replicate_succ, List.replicate_zero, List.cons_append, List.nil_append, List.length_cons, List.length_nil, PyData.bool.injEq, PyData.int.injEq, PyData.list.injEq, PyData.tuple.injEq, Bool.not_true, Bool.not_false, Bool.false_eq_true, if_true, if_false, ite_true, ite_false, decide_eq_true_eq, Nat.zero_add, Nat.zero_le, Nat.reduceAdd, Nat.reduceSub, Option.join, Option.bind_some, List.getElem?_nil]
  refine ⟨by omega, by omega, ?_⟩
  rw [Int.toNat_natCast, rngD_tab]
  have S : Shp f p := ⟨hf, by omega, by omega⟩
  have hrb : (rm : Int).natAbs < 10 ^ 60 := by omega
  obtain ⟨r, hrdef⟩ : ∃ r : Nat → Int, r = fun (i : Nat) => if pg ≤ i then (rm : Int) else 0 := ⟨_, rfl⟩
  have hr : ∀ i, i < p → r i = if pg ≤ i then (rm : Int) else 0 := fun i _ => by rw [hrdef]
  refine lcGo_onm (List.range p) _ (fun i => .int (r i)) [] (by simp; exact Nat.le_trans hp120 (by decide)) ?_ ?_
  · intro i hi Kc Fl hKc
    simp only [sSeq, sIf, sSet, sSetL, sAsg, sRet, sRetV, sRetL, sRetN, sNx, sBk, sCt, sApp, sExt, sExpr, sFor, sPar, sParL, sPut, gSet, gNilD, gConsD, gTupD, tBool, tNotD, tAndD, tOrD, tYesD, e1, e2, eN, eC, eVar, eIxO, aNil, aCons, eTup, eLst, eFlat, eIf, eChain, eAnd, eOr, eNot, eSl, pNone, pSome, eCall, eCallI, eCallS, iLst, iRg1, iRg2, iRg3, iZipD, iEnumD, sPut2, sSet2, eLc, wipeR, restR, fAdd_i, fAdd_l, fSub_i, fMul_i, fMul_l, fRep_l, fDiv_i, fMod_i, fPow_i, fNeg_i, fCmp_i, fLt, fLe, fGt, fGe, fLen_l, fLen_t, fInt_i, fInt_b, fAbs_i, fMax_i, fMax_l, fMin_i, fSum_l, fList_l, fList_t, fRev_l, fSl_l, fIx_l, fIx_t, fIs_n, fIsNot_n, fIs_b, fIsNot_b, isNone_n, isNone_i, isNone_l, isNone_t, isT_tt, isT_ii, isT_bi, isT_ll, fIsT, fEq, fNe, eqOk_i, eqOk_s, eqOk_l, eqOk_t, eqOk_n, eqv_nil, eqv_int, List.isEmpty_nil, List.isEmpty_cons, eq_self, atI_0, atI_1, atI_2, atI_3, atI_last, exists_eq', Int.cast_ofNat_Int, tab_len, endsP, endsI, rho0, List.set_cons_zero, List.set_cons_succ, List.getElem?_cons_zero, List.getElem?_cons_succ, Option.some.injEq, List.cons.injEq, exists_eq_left', exists_eq, and_assoc, exists_and_left, true_and, and_true, id_eq, List.map_cons, List.map_nil, List.replicate_succ, List.replicate_zero, List.cons_append, List.nil_append, List.length_cons, List.length_nil, PyData.bool.injEq, PyData.int.injEq, PyData.list.injEq, PyData.tuple.injEq, Bool.not_true, Bool.not_false, Bool.false_eq_true, if_true, if_false, ite_true, ite_false, decide_eq_true_eq, Nat.zero_add, Nat.zero_le, Nat.reduceAdd, Nat.reduceSub, Option.join, Option.bind_some, List.getElem?_nil]
    refine ⟨mulW (by omega) (by split <;> decide), ?_⟩
    have e : (rm : Int) * (if decide ((pg : Int) ≤ (i : Int)) = true then 1 else 0) = r i := by
      rw [hrdef]
      by_cases z : pg ≤ i
      · rw [if_pos (by simpa using z)]; simp [z]
      · rw [if_neg (by simpa using z)]; simp [z]
    simp only [decide_eq_true_eq] at e
    rw [e]
    exact hKc _ rfl
  simp only [sSeq, sIf, sSet, sSetL, sAsg, sRet, sRetV, sRetL, sRetN, sNx, sBk, sCt, sApp, sExt, sExpr, sFor, sPar, sParL, sPut, gSet, gNilD, gConsD, gTupD, tBool, tNotD, tAndD, tOrD, tYesD, e1, e2, eN, eC, eVar, eIxO, aNil, aCons, eTup, eLst, eFlat, eIf, eChain, eAnd, eOr, eNot, eSl, pNone, pSome, eCall, eCallI, eCallS, iLst, iRg1, iRg2, iRg3, iZipD, iEnumD, sPut2, sSet2, eLc, wipeR, restR, fAdd_i, fAdd_l, fSub_i, fMul_i, fMul_l, fRep_l, fDiv_i, fMod_i, fPow_i, fNeg_i, fCmp_i, fLt, fLe, fGt, fGe, fLen_l, fLen_t, fInt_i, fInt_b, fAbs_i, fMax_i, fMax_l, fMin_i, fSum_l, fList_l, fList_t, fRev_l, fSl_l, fIx_l, fIx_t, fIs_n, fIsNot_n, fIs_b, fIsNot_b, isNone_n, isNone_i, isNone_l, isNone_t, isT_tt, isT_ii, isT_bi, isT_ll, fIsT, fEq, fNe, eqOk_i, eqOk_s, eqOk_l, eqOk_t, eqOk_n, eqv_nil, eqv_int, List.isEmpty_nil, List.isEmpty_cons, eq_self, atI_0, atI_1, atI_2, atI_3, atI_last, exists_eq', Int.cast_ofNat_Int, tab_len, endsP, endsI, rho0, List.set_cons_zero, List.set_cons_succ, List.getElem?_cons_zero, List.getElem?_cons_succ, Option.some.injEq, List.cons.injEq, exists_eq_left', exists_eq, and_assoc, exists_and_left, true_and, and_true, id_eq, List.map_cons, List.map_nil, List.replicate_succ, List.replicate_zero, List.cons_append, List.nil_append, List.length_cons, List.length_nil, PyData.bool.injEq, PyData.int.injEq, PyData.list.injEq, PyData.tuple.injEq, Bool.not_true, Bool.not_false, Bool.false_eq_true, if_true, if_false, ite_true, ite_false, decide_eq_true_eq, Nat.zero_add, Nat.zero_le, Nat.reduceAdd, Nat.reduceSub, Option.join, Option.bind_some, List.getElem?_nil]
  -- the tree
  refine cut_in ?_
  simp only [sSeq, sIf, sSet, sSetL, sAsg, sRet, sRetV, sRetL, sRetN, sNx, sBk, sCt, sApp, sExt, sExpr, sFor, sPar, sParL, sPut, gSet, gNilD, gConsD, gTupD, tBool, tNotD, tAndD, tOrD, tYesD, e1, e2, eN, eC, eVar, eIxO, aNil, aCons, eTup, eLst, eFlat, eIf, eChain, eAnd, eOr, eNot, eSl, pNone, pSome, eCall, eCallI, eCallS, iLst, iRg1, iRg2, iRg3, iZipD, iEnumD, sPut2, sSet2, eLc, wipeR, restR, fAdd_i, fAdd_l, fSub_i, fMul_i, fMul_l, fRep_l, fDiv_i, fMod_i, fPow_i, fNeg_i, fCmp_i, fLt, fLe, fGt, fGe, fLen_l, fLen_t, fInt_i, fInt_b, fAbs_i, fMax_i, fMax_l, fMin_i, fSum_l, fList_l, fList_t, fRev_l, fSl_l, fIx_l, fIx_t, fIs_n, fIsNot_n, fIs_b, fIsNot_b, isNone_n, isNone_i, isNone_l, isNone_t, isT_tt, isT_ii, isT_bi, isT_ll, fIsT, fEq, fNe, eqOk_i, eqOk_s, eqOk_l, eqOk_t, eqOk_n, eqv_nil, eqv_int, List.isEmpty_nil, List.isEmpty_cons, eq_self, atI_0, atI_1, atI_2, atI_3, atI_last, exists_eq', Int.cast_ofNat_Int, tab_len, endsP, endsI, rho0, List.set_cons_zero, List.set_cons_succ, List.getElem?_cons_zero, List.getElem?_cons_succ, Option.some.injEq, List.cons.injEq, exists_eq_left', exists_eq, and_assoc, exists_and_left, true_and, and_true, id_eq, List.map_cons, List.map_nil, List.replicate_succ, List.replicate_zero, List.cons_append, List.nil_append, List.length_cons, List.length_nil, PyData.bool.injEq, PyData.int.injEq, PyData.list.injEq, PyData.tuple.injEq, Bool.not_true, Bool.not_false, Bool.false_eq_true, if_true, if_false, ite_true, ite_false, decide_eq_true_eq, Nat.zero_add, Nat.zero_le, Nat.reduceAdd, Nat.reduceSub, Option.join, Option.bind_some, List.getElem?_nil]
  refine ⟨by decide, by omega, by omega, by rw [Int.toNat_natCast]; exact Nat.le_trans (show 1 * p ≤ 120 by omega) (by decide), ?_⟩
  rw [Int.toNat_natCast, rep_tab]
  refine ⟨p, f, fun _ => (rm : Int), S, fun i hi => hrb, rfl, ?_⟩
  have hg0 : ∀ l i, OnT f p l i → bt f p (fun _ => (rm : Int)) l i = (rm : Int) := fun l i ho =>
    bt_eq hf ho (fun a _ _ => Int.le_refl _) ⟨loN f l i, Nat.le_refl _, lo_lt_hi hf ho, rfl⟩
  generalize hg : bt f p (fun _ => (rm : Int)) = g0 at hg0
  have hB00 : BdT f p g0 := fun l i ho => by rw [hg0 l i ho]; exact hrb
  -- due
  refine cut_in ?_
  simp only [sSeq, sIf, sSet, sSetL, sAsg, sRet, sRetV, sRetL, sRetN, sNx, sBk, sCt, sApp, sExt, sExpr, sFor, sPar, sParL, sPut, gSet, gNilD, gConsD, gTupD, tBool, tNotD, tAndD, tOrD, tYesD, e1, e2, eN, eC, eVar, eIxO, aNil, aCons, eTup, eLst, eFlat, eIf, eChain, eAnd, eOr, eNot, eSl, pNone, pSome, eCall, eCallI, eCallS, iLst, iRg1, iRg2, iRg3, iZipD, iEnumD, sPut2, sSet2, eLc, wipeR, restR, fAdd_i, fAdd_l, fSub_i, fMul_i, fMul_l, fRep_l, fDiv_i, fMod_i, fPow_i, fNeg_i, fCmp_i, fLt, fLe, fGt, fGe, fLen_l, fLen_t, fInt_i, fInt_b, fAbs_i, fMax_i, fMax_l, fMin_i, fSum_l, fList_l, fList_t, fRev_l, fSl_l, fIx_l, fIx_t, fIs_n, fIsNot_n, fIs_b, fIsNot_b, isNone_n, isNone_i, isNone_l, isNone_t, isT_tt, isT_ii, isT_bi, isT_ll, fIsT, fEq, fNe, eqOk_i, eqOk_s, eqOk_l, eqOk_t, eqOk_n, eqv_nil, eqv_int, List.isEmpty_nil, List.isEmpty_cons, eq_self, atI_0, atI_1, atI_2, atI_3, atI_last, exists_eq', Int.cast_ofNat_Int, tab_len, endsP, endsI, rho0, List.set_cons_zero, List.set_cons_succ, List.getElem?_cons_zero, List.getElem?_cons_succ, Option.some.injEq, List.cons.injEq, exists_eq_left', exists_eq, and_assoc, exists_and_left, true_and, and_true, id_eq, List.map_cons, List.map_nil, List.replicate_succ, List.replicate_zero, List.cons_append, List.nil_append, List.length_cons, List.length_nil, PyData.bool.injEq, PyData.int.injEq, PyData.list.injEq, PyData.tuple.injEq, Bool.not_true, Bool.not_false, Bool.false_eq_true, if_true, if_false, ite_true, ite_false, decide_eq_true_eq, Nat.zero_add, Nat.zero_le, Nat.reduceAdd, Nat.reduceSub, Option.join, Option.bind_some, List.getElem?_nil]
  refine ⟨f, p, pg, rm, S, by omega, hpg, rfl, ?_⟩
  -- told
  refine cut_in ?_
  simp only [sSeq, sIf, sSet, sSetL, sAsg, sRet, sRetV, sRetL, sRetN, sNx, sBk, sCt, sApp, sExt, sExpr, sFor, sPar, sParL, sPut, gSet, gNilD, gConsD, gTupD, tBool, tNotD, tAndD, tOrD, tYesD, e1, e2, eN, eC, eVar, eIxO, aNil, aCons, eTup, eLst, eFlat, eIf, eChain, eAnd, eOr, eNot, eSl, pNone, pSome, eCall, eCallI, eCallS, iLst, iRg1, iRg2, iRg3, iZipD, iEnumD, sPut2, sSet2, eLc, wipeR, restR, fAdd_i, fAdd_l, fSub_i, fMul_i, fMul_l, fRep_l, fDiv_i, fMod_i, fPow_i, fNeg_i, fCmp_i, fLt, fLe, fGt, fGe, fLen_l, fLen_t, fInt_i, fInt_b, fAbs_i, fMax_i, fMax_l, fMin_i, fSum_l, fList_l, fList_t, fRev_l, fSl_l, fIx_l, fIx_t, fIs_n, fIsNot_n, fIs_b, fIsNot_b, isNone_n, isNone_i, isNone_l, isNone_t, isT_tt, isT_ii, isT_bi, isT_ll, fIsT, fEq, fNe, eqOk_i, eqOk_s, eqOk_l, eqOk_t, eqOk_n, eqv_nil, eqv_int, List.isEmpty_nil, List.isEmpty_cons, eq_self, atI_0, atI_1, atI_2, atI_3, atI_last, exists_eq', Int.cast_ofNat_Int, tab_len, endsP, endsI, rho0, List.set_cons_zero, List.set_cons_succ, List.getElem?_cons_zero, List.getElem?_cons_succ, Option.some.injEq, List.cons.injEq, exists_eq_left', exists_eq, and_assoc, exists_and_left, true_and, and_true, id_eq, List.map_cons, List.map_nil, List.replicate_succ, List.replicate_zero, List.cons_append, List.nil_append, List.length_cons, List.length_nil, PyData.bool.injEq, PyData.int.injEq, PyData.list.injEq, PyData.tuple.injEq, Bool.not_true, Bool.not_false, Bool.false_eq_true, if_true, if_false, ite_true, ite_false, decide_eq_true_eq, Nat.zero_add, Nat.zero_le, Nat.reduceAdd, Nat.reduceSub, Option.join, Option.bind_some, List.getElem?_nil]
  have hst0 : IsSt f p (rm : Int) 0 0 g0 := st_0 hf hg0
  have hmen0 : menL f p (rm : Int) 0 0 = [] := rfl
  have hrun := seek_run (g0 := g0) hf hp hpg hnd1 hnd2 hr (pg * (ht f p + 2) + 1) 0 0 g0 (Nat.zero_le _) (fun _ => rfl) (Nat.zero_le _) (by omega) hst0 rfl (by rw [Nat.sub_zero]; omega)
  rw [hmen0] at hrun
  have hst := do_st hf hg0 pg 0 hpg (fun _ => rfl) (Nat.zero_le _) (by omega)
  have h9 := ht_le9 hf (show p ≤ 512 by omega)
  have hfuel : pg * (ht f p + 2) ≤ 120 * 11 := Nat.mul_le_mul (by omega) (by omega)
  have hml := men_len (f := f) (p := p) (room := (rm : Int)) (c := pg)
  have hml2 : pg * (ht f p + 1) ≤ 120 * 10 := Nat.mul_le_mul (by omega) (by omega)
  have hmon := men_on (room := (rm : Int)) hf hpg
  have hmok : MsOk (menL f p (rm : Int) pg 0) := ⟨by omega, fun m hm => by
    obtain ⟨h1, h2, h3⟩ := hmon m hm
    have := h1.sz S
    exact ⟨by omega, by omega, by rw [h2]; exact hrb, by rw [h3]; decide⟩⟩
  generalize hm : menL f p (rm : Int) pg 0 = ms at hrun hst hml hmon hmok
  generalize hgm : doAll g0 (ms.map wrM) = gm at hrun hst
  refine ⟨f, p, g0, r, nd, _, _, _, _, S, hB00, rfl, by omega, hrun, ?_⟩
  -- end
  refine cut_of (fun ρ => ρ = [some (.list (ns.map .int)), some d8, some (.int (j : Int)), some (.int (p : Int)), some (.int (pg : Int)), some (.int nd), some (dRow p r), some (dT f p g0), some (.list (ms.map dM)), some (dTold (if pg < p then some pg else none) f p gm ms), some (dR (if pg < p then some pg else none)), x11, x12, x13, some (.int (f : Int)), some (.int (rm : Int)), x16, x17, x18, x19, x20]) ?_ ?_
  rotate_left
  · intro nx3 hnx3
    simp only [sSeq, sIf, sSet, sSetL, sAsg, sRet, sRetV, sRetL, sRetN, sNx, sBk, sCt, sApp, sExt, sExpr, sFor, sPar, sParL, sPut, gSet, gNilD, gConsD, gTupD, tBool, tNotD, tAndD, tOrD, tYesD, e1, e2, eN, eC, eVar, eIxO, aNil, aCons, eTup, eLst, eFlat, eIf, eChain, eAnd, eOr, eNot, eSl, pNone, pSome, eCall, eCallI, eCallS, iLst, iRg1, iRg2, iRg3, iZipD, iEnumD, sPut2, sSet2, eLc, wipeR, restR, fAdd_i, fAdd_l, fSub_i, fMul_i, fMul_l, fRep_l, fDiv_i, fMod_i, fPow_i, fNeg_i, fCmp_i, fLt, fLe, fGt, fGe, fLen_l, fLen_t, fInt_i, fInt_b, fAbs_i, fMax_i, fMax_l, fMin_i, fSum_l, fList_l, fList_t, fRev_l, fSl_l, fIx_l, fIx_t, fIs_n, fIsNot_n, fIs_b, fIsNot_b, isNone_n, isNone_i, isNone_l, isNone_t, isT_tt, isT_ii, isT_bi, isT_ll, fIsT, fEq, fNe, eqOk_i, eqOk_s, eqOk_l, eqOk_t, eqOk_n, eqv_nil, eqv_int, List.isEmpty_nil, List.isEmpty_cons, eq_self, atI_0, atI_1, atI_2, atI_3, atI_last, exists_eq', Int.cast_ofNat_Int, tab_len, endsP, endsI, rho0, List.set_cons_zero, List.set_cons_succ, List.getElem?_cons_zero, List.getElem?_cons_succ, Option.some.injEq, List.cons.injEq, exists_eq_left', exists_eq, and_assoc, exists_and_left, true_and, and_true, id_eq, List.map_cons, List.map_nil, List.replicate_succ, List.replicate_zero, List.cons_append, List.nil_append, List.length_cons, List.length_nil, PyData.bool.injEq, PyData.int.injEq, PyData.list.injEq, PyData.tuple.injEq, Bool.not_true, Bool.not_false, Bool.false_eq_true, if_true, if_false, ite_true, ite_false, decide_eq_true_eq, Nat.zero_add, Nat.zero_le, Nat.reduceAdd, Nat.reduceSub, Option.join, Option.bind_some, List.getElem?_nil]
    by_cases z : pg < p
    · rw [if_pos (by omega)]
      refine hnx3 _ ?_
      simp only [z, if_true, dR]
      rfl
    · rw [if_neg (by omega)]
      refine hnx3 _ ?_
      simp only [z, if_false, dR]
      rfl
  rintro ρ rfl
  have hon : ∀ w ∈ ms, OnT f p w.1 w.2.1 := fun w hw => (hmon w hw).1
  have ho : ∀ i, (if pg < p then some pg else none) = some i → i < 2 ^ 60 := fun i hi => by split at hi <;> cases hi; omega
  have BT := st_bd hst hrb
  refine cut_in ?_
  simp only [sSeq, sIf, sSet, sSetL, sAsg, sRet, sRetV, sRetL, sRetN, sNx, sBk, sCt, sApp, sExt, sExpr, sFor, sPar, sParL, sPut, gSet, gNilD, gConsD, gTupD, tBool, tNotD, tAndD, tOrD, tYesD, e1, e2, eN, eC, eVar, eIxO, aNil, aCons, eTup, eLst, eFlat, eIf, eChain, eAnd, eOr, eNot, eSl, pNone, pSome, eCall, eCallI, eCallS, iLst, iRg1, iRg2, iRg3, iZipD, iEnumD, sPut2, sSet2, eLc, wipeR, restR, fAdd_i, fAdd_l, fSub_i, fMul_i, fMul_l, fRep_l, fDiv_i, fMod_i, fPow_i, fNeg_i, fCmp_i, fLt, fLe, fGt, fGe, fLen_l, fLen_t, fInt_i, fInt_b, fAbs_i, fMax_i, fMax_l, fMin_i, fSum_l, fList_l, fList_t, fRev_l, fSl_l, fIx_l, fIx_t, fIs_n, fIsNot_n, fIs_b, fIsNot_b, isNone_n, isNone_i, isNone_l, isNone_t, isT_tt, isT_ii, isT_bi, isT_ll, fIsT, fEq, fNe, eqOk_i, eqOk_s, eqOk_l, eqOk_t, eqOk_n, eqv_nil, eqv_int, List.isEmpty_nil, List.isEmpty_cons, eq_self, atI_0, atI_1, atI_2, atI_3, atI_last, exists_eq', Int.cast_ofNat_Int, tab_len, endsP, endsI, rho0, List.set_cons_zero, List.set_cons_succ, List.getElem?_cons_zero, List.getElem?_cons_succ, Option.some.injEq, List.cons.injEq, exists_eq_left', exists_eq, and_assoc, exists_and_left, true_and, and_true, id_eq, List.map_cons, List.map_nil, List.replicate_succ, List.replicate_zero, List.cons_append, List.nil_append, List.length_cons, List.length_nil, PyData.bool.injEq, PyData.int.injEq, PyData.list.injEq, PyData.tuple.injEq, Bool.not_true, Bool.not_false, Bool.false_eq_true, if_true, if_false, ite_true, ite_false, decide_eq_true_eq, Nat.zero_add, Nat.zero_le, Nat.reduceAdd, Nat.reduceSub, Option.join, Option.bind_some, List.getElem?_nil]
  refine ⟨f, p, g0, ms, S, rfl, hon, ?_⟩
  rw [hgm]
  simp only [sSeq, sIf, sSet, sSetL, sAsg, sRet, sRetV, sRetL, sRetN, sNx, sBk, sCt, sApp, sExt, sExpr, sFor, sPar, sParL, sPut, gSet, gNilD, gConsD, gTupD, tBool, tNotD, tAndD, tOrD, tYesD, e1, e2, eN, eC, eVar, eIxO, aNil, aCons, eTup, eLst, eFlat, eIf, eChain, eAnd, eOr, eNot, eSl, pNone, pSome, eCall, eCallI, eCallS, iLst, iRg1, iRg2, iRg3, iZipD, iEnumD, sPut2, sSet2, eLc, wipeR, restR, fAdd_i, fAdd_l, fSub_i, fMul_i, fMul_l, fRep_l, fDiv_i, fMod_i, fPow_i, fNeg_i, fCmp_i, fLt, fLe, fGt, fGe, fLen_l, fLen_t, fInt_i, fInt_b, fAbs_i, fMax_i, fMax_l, fMin_i, fSum_l, fList_l, fList_t, fRev_l, fSl_l, fIx_l, fIx_t, fIs_n, fIsNot_n, fIs_b, fIsNot_b, isNone_n, isNone_i, isNone_l, isNone_t, isT_tt, isT_ii, isT_bi, isT_ll, fIsT, fEq, fNe, eqOk_i, eqOk_s, eqOk_l, eqOk_t, eqOk_n, eqv_nil, eqv_int, List.isEmpty_nil, List.isEmpty_cons, eq_self, atI_0, atI_1, atI_2, atI_3, atI_last, exists_eq', Int.cast_ofNat_Int, tab_len, endsP, endsI, rho0, List.set_cons_zero, List.set_cons_succ, List.getElem?_cons_zero, List.getElem?_cons_succ, Option.some.injEq, List.cons.injEq, exists_eq_left', exists_eq, and_assoc, exists_and_left, true_and, and_true, id_eq, List.map_cons, List.map_nil, List.replicate_succ, List.replicate_zero, List.cons_append, List.nil_append, List.length_cons, List.length_nil, PyData.bool.injEq, PyData.int.injEq, PyData.list.injEq, PyData.tuple.injEq, Bool.not_true, Bool.not_false, Bool.false_eq_true, if_true, if_false, ite_true, ite_false, decide_eq_true_eq, Nat.zero_add, Nat.zero_le, Nat.reduceAdd, Nat.reduceSub, Option.join, Option.bind_some, List.getElem?_nil]
  refine ⟨by decide, 3, dTold (if pg < p then some pg else none) f p gm ms, by decide, gd_told ho BT hmok, sz_told S (by omega) hmok, rfl, ?_⟩
  simp only [sSeq, sIf, sSet, sSetL, sAsg, sRet, sRetV, sRetL, sRetN, sNx, sBk, sCt, sApp, sExt, sExpr, sFor, sPar, sParL, sPut, gSet, gNilD, gConsD, gTupD, tBool, tNotD, tAndD, tOrD, tYesD, e1, e2, eN, eC, eVar, eIxO, aNil, aCons, eTup, eLst, eFlat, eIf, eChain, eAnd, eOr, eNot, eSl, pNone, pSome, eCall, eCallI, eCallS, iLst, iRg1, iRg2, iRg3, iZipD, iEnumD, sPut2, sSet2, eLc, wipeR, restR, fAdd_i, fAdd_l, fSub_i, fMul_i, fMul_l, fRep_l, fDiv_i, fMod_i, fPow_i, fNeg_i, fCmp_i, fLt, fLe, fGt, fGe, fLen_l, fLen_t, fInt_i, fInt_b, fAbs_i, fMax_i, fMax_l, fMin_i, fSum_l, fList_l, fList_t, fRev_l, fSl_l, fIx_l, fIx_t, fIs_n, fIsNot_n, fIs_b, fIsNot_b, isNone_n, isNone_i, isNone_l, isNone_t, isT_tt, isT_ii, isT_bi, isT_ll, fIsT, fEq, fNe, eqOk_i, eqOk_s, eqOk_l, eqOk_t, eqOk_n, eqv_nil, eqv_int, List.isEmpty_nil, List.isEmpty_cons, eq_self, atI_0, atI_1, atI_2, atI_3, atI_last, exists_eq', Int.cast_ofNat_Int, tab_len, endsP, endsI, rho0, List.set_cons_zero, List.set_cons_succ, List.getElem?_cons_zero, List.getElem?_cons_succ, Option.some.injEq, List.cons.injEq, exists_eq_left', exists_eq, and_assoc, exists_and_left, true_and, and_true, id_eq, List.map_cons, List.map_nil, List.replicate_succ, List.replicate_zero, List.cons_append, List.nil_append, List.length_cons, List.length_nil, PyData.bool.injEq, PyData.int.injEq, PyData.list.injEq, PyData.tuple.injEq, Bool.not_true, Bool.not_false, Bool.false_eq_true, if_true, if_false, ite_true, ite_false, decide_eq_true_eq, Nat.zero_add, Nat.zero_le, Nat.reduceAdd, Nat.reduceSub, Option.join, Option.bind_some, List.getElem?_nil]
  -- writes
  refine cut_in ?_
  simp only [sSeq, sIf, sSet, sSetL, sAsg, sRet, sRetV, sRetL, sRetN, sNx, sBk, sCt, sApp, sExt, sExpr, sFor, sPar, sParL, sPut, gSet, gNilD, gConsD, gTupD, tBool, tNotD, tAndD, tOrD, tYesD, e1, e2, eN, eC, eVar, eIxO, aNil, aCons, eTup, eLst, eFlat, eIf, eChain, eAnd, eOr, eNot, eSl, pNone, pSome, eCall, eCallI, eCallS, iLst, iRg1, iRg2, iRg3, iZipD, iEnumD, sPut2, sSet2, eLc, wipeR, restR, fAdd_i, fAdd_l, fSub_i, fMul_i, fMul_l, fRep_l, fDiv_i, fMod_i, fPow_i, fNeg_i, fCmp_i, fLt, fLe, fGt, fGe, fLen_l, fLen_t, fInt_i, fInt_b, fAbs_i, fMax_i, fMax_l, fMin_i, fSum_l, fList_l, fList_t, fRev_l, fSl_l, fIx_l, fIx_t, fIs_n, fIsNot_n, fIs_b, fIsNot_b, isNone_n, isNone_i, isNone_l, isNone_t, isT_tt, isT_ii, isT_bi, isT_ll, fIsT, fEq, fNe, eqOk_i, eqOk_s, eqOk_l, eqOk_t, eqOk_n, eqv_nil, eqv_int, List.isEmpty_nil, List.isEmpty_cons, eq_self, atI_0, atI_1, atI_2, atI_3, atI_last, exists_eq', Int.cast_ofNat_Int, tab_len, endsP, endsI, rho0, List.set_cons_zero, List.set_cons_succ, List.getElem?_cons_zero, List.getElem?_cons_succ, Option.some.injEq, List.cons.injEq, exists_eq_left', exists_eq, and_assoc, exists_and_left, true_and, and_true, id_eq, List.map_cons, List.map_nil, List.replicate_succ, List.replicate_zero, List.cons_append, List.nil_append, List.length_cons, List.length_nil, PyData.bool.injEq, PyData.int.injEq, PyData.list.injEq, PyData.tuple.injEq, Bool.not_true, Bool.not_false, Bool.false_eq_true, if_true, if_false, ite_true, ite_false, decide_eq_true_eq, Nat.zero_add, Nat.zero_le, Nat.reduceAdd, Nat.reduceSub, Option.join, Option.bind_some, List.getElem?_nil]
  refine lcGo_onm ms dM (fun m => dW (wrM m)) [] (by rw [List.length_nil]; exact Nat.le_trans (show 0 + ms.length ≤ 1200 by omega) (by decide)) ?_ ?_
  · intro m hm Kc Fl hKc
    simp only [sSeq, sIf, sSet, sSetL, sAsg, sRet, sRetV, sRetL, sRetN, sNx, sBk, sCt, sApp, sExt, sExpr, sFor, sPar, sParL, sPut, gSet, gNilD, gConsD, gTupD, tBool, tNotD, tAndD, tOrD, tYesD, e1, e2, eN, eC, eVar, eIxO, aNil, aCons, eTup, eLst, eFlat, eIf, eChain, eAnd, eOr, eNot, eSl, pNone, pSome, eCall, eCallI, eCallS, iLst, iRg1, iRg2, iRg3, iZipD, iEnumD, sPut2, sSet2, eLc, wipeR, restR, fAdd_i, fAdd_l, fSub_i, fMul_i, fMul_l, fRep_l, fDiv_i, fMod_i, fPow_i, fNeg_i, fCmp_i, fLt, fLe, fGt, fGe, fLen_l, fLen_t, fInt_i, fInt_b, fAbs_i, fMax_i, fMax_l, fMin_i, fSum_l, fList_l, fList_t, fRev_l, fSl_l, fIx_l, fIx_t, fIs_n, fIsNot_n, fIs_b, fIsNot_b, isNone_n, isNone_i, isNone_l, isNone_t, isT_tt, isT_ii, isT_bi, isT_ll, fIsT, fEq, fNe, eqOk_i, eqOk_s, eqOk_l, eqOk_t, eqOk_n, eqv_nil, eqv_int, List.isEmpty_nil, List.isEmpty_cons, eq_self, atI_0, atI_1, atI_2, atI_3, atI_last, exists_eq', Int.cast_ofNat_Int, tab_len, endsP, endsI, rho0, List.set_cons_zero, List.set_cons_succ, List.getElem?_cons_zero, List.getElem?_cons_succ, Option.some.injEq, List.cons.injEq, exists_eq_left', exists_eq, and_assoc, exists_and_left, true_and, and_true, id_eq, List.map_cons, List.map_nil, List.replicate_succ, List.replicate_zero, List.cons_append, List.nil_append, List.length_cons, List.length_nil, PyData.bool.injEq, PyData.int.injEq, PyData.list.injEq, PyData.tuple.injEq, Bool.not_true, Bool.not_false, Bool.false_eq_true, if_true, if_false, ite_true, ite_false, decide_eq_true_eq, Nat.zero_add, Nat.zero_le, Nat.reduceAdd, Nat.reduceSub, Option.join, Option.bind_some, List.getElem?_nil]
    exact ⟨by decide, hKc _ rfl⟩
  simp only [sSeq, sIf, sSet, sSetL, sAsg, sRet, sRetV, sRetL, sRetN, sNx, sBk, sCt, sApp, sExt, sExpr, sFor, sPar, sParL, sPut, gSet, gNilD, gConsD, gTupD, tBool, tNotD, tAndD, tOrD, tYesD, e1, e2, eN, eC, eVar, eIxO, aNil, aCons, eTup, eLst, eFlat, eIf, eChain, eAnd, eOr, eNot, eSl, pNone, pSome, eCall, eCallI, eCallS, iLst, iRg1, iRg2, iRg3, iZipD, iEnumD, sPut2, sSet2, eLc, wipeR, restR, fAdd_i, fAdd_l, fSub_i, fMul_i, fMul_l, fRep_l, fDiv_i, fMod_i, fPow_i, fNeg_i, fCmp_i, fLt, fLe, fGt, fGe, fLen_l, fLen_t, fInt_i, fInt_b, fAbs_i, fMax_i, fMax_l, fMin_i, fSum_l, fList_l, fList_t, fRev_l, fSl_l, fIx_l, fIx_t, fIs_n, fIsNot_n, fIs_b, fIsNot_b, isNone_n, isNone_i, isNone_l, isNone_t, isT_tt, isT_ii, isT_bi, isT_ll, fIsT, fEq, fNe, eqOk_i, eqOk_s, eqOk_l, eqOk_t, eqOk_n, eqv_nil, eqv_int, List.isEmpty_nil, List.isEmpty_cons, eq_self, atI_0, atI_1, atI_2, atI_3, atI_last, exists_eq', Int.cast_ofNat_Int, tab_len, endsP, endsI, rho0, List.set_cons_zero, List.set_cons_succ, List.getElem?_cons_zero, List.getElem?_cons_succ, Option.some.injEq, List.cons.injEq, exists_eq_left', exists_eq, and_assoc, exists_and_left, true_and, and_true, id_eq, List.map_cons, List.map_nil, List.replicate_succ, List.replicate_zero, List.cons_append, List.nil_append, List.length_cons, List.length_nil, PyData.bool.injEq, PyData.int.injEq, PyData.list.injEq, PyData.tuple.injEq, Bool.not_true, Bool.not_false, Bool.false_eq_true, if_true, if_false, ite_true, ite_false, decide_eq_true_eq, Nat.zero_add, Nat.zero_le, Nat.reduceAdd, Nat.reduceSub, Option.join, Option.bind_some, List.getElem?_nil]
  rw [show ms.map (fun m => dW (wrM m)) = (ms.map wrM).map dW by rw [List.map_map]; rfl]
  have hwl : ((ms.map wrM).map dW).length = ms.length := by rw [List.length_map, List.length_map]
  -- stop
  refine cut_in ?_
  simp only [sSeq, sIf, sSet, sSetL, sAsg, sRet, sRetV, sRetL, sRetN, sNx, sBk, sCt, sApp, sExt, sExpr, sFor, sPar, sParL, sPut, gSet, gNilD, gConsD, gTupD, tBool, tNotD, tAndD, tOrD, tYesD, e1, e2, eN, eC, eVar, eIxO, aNil, aCons, eTup, eLst, eFlat, eIf, eChain, eAnd, eOr, eNot, eSl, pNone, pSome, eCall, eCallI, eCallS, iLst, iRg1, iRg2, iRg3, iZipD, iEnumD, sPut2, sSet2, eLc, wipeR, restR, fAdd_i, fAdd_l, fSub_i, fMul_i, fMul_l, fRep_l, fDiv_i, fMod_i, fPow_i, fNeg_i, fCmp_i, fLt, fLe, fGt, fGe, fLen_l, fLen_t, fInt_i, fInt_b, fAbs_i, fMax_i, fMax_l, fMin_i, fSum_l, fList_l, fList_t, fRev_l, fSl_l, fIx_l, fIx_t, fIs_n, fIsNot_n, fIs_b, fIsNot_b, isNone_n, isNone_i, isNone_l, isNone_t, isT_tt, isT_ii, isT_bi, isT_ll, fIsT, fEq, fNe, eqOk_i, eqOk_s, eqOk_l, eqOk_t, eqOk_n, eqv_nil, eqv_int, List.isEmpty_nil, List.isEmpty_cons, eq_self, atI_0, atI_1, atI_2, atI_3, atI_last, exists_eq', Int.cast_ofNat_Int, tab_len, endsP, endsI, rho0, List.set_cons_zero, List.set_cons_succ, List.getElem?_cons_zero, List.getElem?_cons_succ, Option.some.injEq, List.cons.injEq, exists_eq_left', exists_eq, and_assoc, exists_and_left, true_and, and_true, id_eq, List.map_cons, List.map_nil, List.replicate_succ, List.replicate_zero, List.cons_append, List.nil_append, List.length_cons, List.length_nil, PyData.bool.injEq, PyData.int.injEq, PyData.list.injEq, PyData.tuple.injEq, Bool.not_true, Bool.not_false, Bool.false_eq_true, if_true, if_false, ite_true, ite_false, decide_eq_true_eq, Nat.zero_add, Nat.zero_le, Nat.reduceAdd, Nat.reduceSub, Option.join, Option.bind_some, List.getElem?_nil]
  rw [hwl]
  refine ⟨K + 5, ms.length + 1, hB8, by omega, by omega, rfl, fun stop d9 hstop hB9 => ?_⟩
  -- done, safe
  refine cut_in ?_
  simp only [sSeq, sIf, sSet, sSetL, sAsg, sRet, sRetV, sRetL, sRetN, sNx, sBk, sCt, sApp, sExt, sExpr, sFor, sPar, sParL, sPut, gSet, gNilD, gConsD, gTupD, tBool, tNotD, tAndD, tOrD, tYesD, e1, e2, eN, eC, eVar, eIxO, aNil, aCons, eTup, eLst, eFlat, eIf, eChain, eAnd, eOr, eNot, eSl, pNone, pSome, eCall, eCallI, eCallS, iLst, iRg1, iRg2, iRg3, iZipD, iEnumD, sPut2, sSet2, eLc, wipeR, restR, fAdd_i, fAdd_l, fSub_i, fMul_i, fMul_l, fRep_l, fDiv_i, fMod_i, fPow_i, fNeg_i, fCmp_i, fLt, fLe, fGt, fGe, fLen_l, fLen_t, fInt_i, fInt_b, fAbs_i, fMax_i, fMax_l, fMin_i, fSum_l, fList_l, fList_t, fRev_l, fSl_l, fIx_l, fIx_t, fIs_n, fIsNot_n, fIs_b, fIsNot_b, isNone_n, isNone_i, isNone_l, isNone_t, isT_tt, isT_ii, isT_bi, isT_ll, fIsT, fEq, fNe, eqOk_i, eqOk_s, eqOk_l, eqOk_t, eqOk_n, eqv_nil, eqv_int, List.isEmpty_nil, List.isEmpty_cons, eq_self, atI_0, atI_1, atI_2, atI_3, atI_last, exists_eq', Int.cast_ofNat_Int, tab_len, endsP, endsI, rho0, List.set_cons_zero, List.set_cons_succ, List.getElem?_cons_zero, List.getElem?_cons_succ, Option.some.injEq, List.cons.injEq, exists_eq_left', exists_eq, and_assoc, exists_and_left, true_and, and_true, id_eq, List.map_cons, List.map_nil, List.replicate_succ, List.replicate_zero, List.cons_append, List.nil_append, List.length_cons, List.length_nil, PyData.bool.injEq, PyData.int.injEq, PyData.list.injEq, PyData.tuple.injEq, Bool.not_true, Bool.not_false, Bool.false_eq_true, if_true, if_false, ite_true, ite_false, decide_eq_true_eq, Nat.zero_add, Nat.zero_le, Nat.reduceAdd, Nat.reduceSub, Option.join, Option.bind_some, List.getElem?_nil]
  have hwon : ∀ w ∈ ms.map wrM, OnT f p w.1 w.2.1 := fun w hw => by
    obtain ⟨m, hm, rfl⟩ := List.mem_map.mp hw
    exact hon m hm
  refine ⟨f, p, g0, _, S, rfl, hwon, ?_⟩
  rw [hgm]
  have gT := gd_tree BT
  refine ⟨eqOk_of (gd_shaped (n := 2) (by decide) gT) (gd_shaped (n := 2) (by decide) gT), ?_⟩
  rw [gd_self gT]
  simp only [sSeq, sIf, sSet, sSetL, sAsg, sRet, sRetV, sRetL, sRetN, sNx, sBk, sCt, sApp, sExt, sExpr, sFor, sPar, sParL, sPut, gSet, gNilD, gConsD, gTupD, tBool, tNotD, tAndD, tOrD, tYesD, e1, e2, eN, eC, eVar, eIxO, aNil, aCons, eTup, eLst, eFlat, eIf, eChain, eAnd, eOr, eNot, eSl, pNone, pSome, eCall, eCallI, eCallS, iLst, iRg1, iRg2, iRg3, iZipD, iEnumD, sPut2, sSet2, eLc, wipeR, restR, fAdd_i, fAdd_l, fSub_i, fMul_i, fMul_l, fRep_l, fDiv_i, fMod_i, fPow_i, fNeg_i, fCmp_i, fLt, fLe, fGt, fGe, fLen_l, fLen_t, fInt_i, fInt_b, fAbs_i, fMax_i, fMax_l, fMin_i, fSum_l, fList_l, fList_t, fRev_l, fSl_l, fIx_l, fIx_t, fIs_n, fIsNot_n, fIs_b, fIsNot_b, isNone_n, isNone_i, isNone_l, isNone_t, isT_tt, isT_ii, isT_bi, isT_ll, fIsT, fEq, fNe, eqOk_i, eqOk_s, eqOk_l, eqOk_t, eqOk_n, eqv_nil, eqv_int, List.isEmpty_nil, List.isEmpty_cons, eq_self, atI_0, atI_1, atI_2, atI_3, atI_last, exists_eq', Int.cast_ofNat_Int, tab_len, endsP, endsI, rho0, List.set_cons_zero, List.set_cons_succ, List.getElem?_cons_zero, List.getElem?_cons_succ, Option.some.injEq, List.cons.injEq, exists_eq_left', exists_eq, and_assoc, exists_and_left, true_and, and_true, id_eq, List.map_cons, List.map_nil, List.replicate_succ, List.replicate_zero, List.cons_append, List.nil_append, List.length_cons, List.length_nil, PyData.bool.injEq, PyData.int.injEq, PyData.list.injEq, PyData.tuple.injEq, Bool.not_true, Bool.not_false, Bool.false_eq_true, if_true, if_false, ite_true, ite_false, decide_eq_true_eq, Nat.zero_add, Nat.zero_le, Nat.reduceAdd, Nat.reduceSub, Option.join, Option.bind_some, List.getElem?_nil]
  have ecut : cutD ((ms.map wrM).map dW) none (some (stop : Int)) = ((ms.take stop).map wrM).map dW := by
    rw [cutD_take, List.map_take, List.map_take]
  rw [ecut]
  refine ⟨f, p, g0, _, S, rfl, fun w hw => ?_, ?_⟩
  · obtain ⟨m, hm2, rfl⟩ := List.mem_map.mp hw
    exact hon m (List.mem_of_mem_take hm2)
  simp only [sSeq, sIf, sSet, sSetL, sAsg, sRet, sRetV, sRetL, sRetN, sNx, sBk, sCt, sApp, sExt, sExpr, sFor, sPar, sParL, sPut, gSet, gNilD, gConsD, gTupD, tBool, tNotD, tAndD, tOrD, tYesD, e1, e2, eN, eC, eVar, eIxO, aNil, aCons, eTup, eLst, eFlat, eIf, eChain, eAnd, eOr, eNot, eSl, pNone, pSome, eCall, eCallI, eCallS, iLst, iRg1, iRg2, iRg3, iZipD, iEnumD, sPut2, sSet2, eLc, wipeR, restR, fAdd_i, fAdd_l, fSub_i, fMul_i, fMul_l, fRep_l, fDiv_i, fMod_i, fPow_i, fNeg_i, fCmp_i, fLt, fLe, fGt, fGe, fLen_l, fLen_t, fInt_i, fInt_b, fAbs_i, fMax_i, fMax_l, fMin_i, fSum_l, fList_l, fList_t, fRev_l, fSl_l, fIx_l, fIx_t, fIs_n, fIsNot_n, fIs_b, fIsNot_b, isNone_n, isNone_i, isNone_l, isNone_t, isT_tt, isT_ii, isT_bi, isT_ll, fIsT, fEq, fNe, eqOk_i, eqOk_s, eqOk_l, eqOk_t, eqOk_n, eqv_nil, eqv_int, List.isEmpty_nil, List.isEmpty_cons, eq_self, atI_0, atI_1, atI_2, atI_3, atI_last, exists_eq', Int.cast_ofNat_Int, tab_len, endsP, endsI, rho0, List.set_cons_zero, List.set_cons_succ, List.getElem?_cons_zero, List.getElem?_cons_succ, Option.some.injEq, List.cons.injEq, exists_eq_left', exists_eq, and_assoc, exists_and_left, true_and, and_true, id_eq, List.map_cons, List.map_nil, List.replicate_succ, List.replicate_zero, List.cons_append, List.nil_append, List.length_cons, List.length_nil, PyData.bool.injEq, PyData.int.injEq, PyData.list.injEq, PyData.tuple.injEq, Bool.not_true, Bool.not_false, Bool.false_eq_true, if_true, if_false, ite_true, ite_false, decide_eq_true_eq, Nat.zero_add, Nat.zero_le, Nat.reduceAdd, Nat.reduceSub, Option.join, Option.bind_some, List.getElem?_nil]
  have hsafe1 : SafeT f p (doAll g0 ((ms.take stop).map wrM)) := by
    obtain ⟨a, jj, k1, k2, k3, k4, k5⟩ := take_men (room := (rm : Int)) hf stop pg hpg
    rw [hm] at k5
    rw [k5]
    exact st_safe hf (by omega) (do_st hf hg0 a jj k1 k2 k3 k4)
  refine ⟨f, p, _, S, rfl, fun _ => ?_, fun z => absurd hsafe1 z⟩
  simp only [decide_true, sSeq, sIf, sSet, sSetL, sAsg, sRet, sRetV, sRetL, sRetN, sNx, sBk, sCt, sApp, sExt, sExpr, sFor, sPar, sParL, sPut, gSet, gNilD, gConsD, gTupD, tBool, tNotD, tAndD, tOrD, tYesD, e1, e2, eN, eC, eVar, eIxO, aNil, aCons, eTup, eLst, eFlat, eIf, eChain, eAnd, eOr, eNot, eSl, pNone, pSome, eCall, eCallI, eCallS, iLst, iRg1, iRg2, iRg3, iZipD, iEnumD, sPut2, sSet2, eLc, wipeR, restR, fAdd_i, fAdd_l, fSub_i, fMul_i, fMul_l, fRep_l, fDiv_i, fMod_i, fPow_i, fNeg_i, fCmp_i, fLt, fLe, fGt, fGe, fLen_l, fLen_t, fInt_i, fInt_b, fAbs_i, fMax_i, fMax_l, fMin_i, fSum_l, fList_l, fList_t, fRev_l, fSl_l, fIx_l, fIx_t, fIs_n, fIsNot_n, fIs_b, fIsNot_b, isNone_n, isNone_i, isNone_l, isNone_t, isT_tt, isT_ii, isT_bi, isT_ll, fIsT, fEq, fNe, eqOk_i, eqOk_s, eqOk_l, eqOk_t, eqOk_n, eqv_nil, eqv_int, List.isEmpty_nil, List.isEmpty_cons, eq_self, atI_0, atI_1, atI_2, atI_3, atI_last, exists_eq', Int.cast_ofNat_Int, tab_len, endsP, endsI, rho0, List.set_cons_zero, List.set_cons_succ, List.getElem?_cons_zero, List.getElem?_cons_succ, Option.some.injEq, List.cons.injEq, exists_eq_left', exists_eq, and_assoc, exists_and_left, true_and, and_true, id_eq, List.map_cons, List.map_nil, List.replicate_succ, List.replicate_zero, List.cons_append, List.nil_append, List.length_cons, List.length_nil, PyData.bool.injEq, PyData.int.injEq, PyData.list.injEq, PyData.tuple.injEq, Bool.not_true, Bool.not_false, Bool.false_eq_true, if_true, if_false, ite_true, ite_false, decide_eq_true_eq, Nat.zero_add, Nat.zero_le, Nat.reduceAdd, Nat.reduceSub, Option.join, Option.bind_some, List.getElem?_nil]
  -- safe, greatest
  refine cut_in ?_
  simp only [sSeq, sIf, sSet, sSetL, sAsg, sRet, sRetV, sRetL, sRetN, sNx, sBk, sCt, sApp, sExt, sExpr, sFor, sPar, sParL, sPut, gSet, gNilD, gConsD, gTupD, tBool, tNotD, tAndD, tOrD, tYesD, e1, e2, eN, eC, eVar, eIxO, aNil, aCons, eTup, eLst, eFlat, eIf, eChain, eAnd, eOr, eNot, eSl, pNone, pSome, eCall, eCallI, eCallS, iLst, iRg1, iRg2, iRg3, iZipD, iEnumD, sPut2, sSet2, eLc, wipeR, restR, fAdd_i, fAdd_l, fSub_i, fMul_i, fMul_l, fRep_l, fDiv_i, fMod_i, fPow_i, fNeg_i, fCmp_i, fLt, fLe, fGt, fGe, fLen_l, fLen_t, fInt_i, fInt_b, fAbs_i, fMax_i, fMax_l, fMin_i, fSum_l, fList_l, fList_t, fRev_l, fSl_l, fIx_l, fIx_t, fIs_n, fIsNot_n, fIs_b, fIsNot_b, isNone_n, isNone_i, isNone_l, isNone_t, isT_tt, isT_ii, isT_bi, isT_ll, fIsT, fEq, fNe, eqOk_i, eqOk_s, eqOk_l, eqOk_t, eqOk_n, eqv_nil, eqv_int, List.isEmpty_nil, List.isEmpty_cons, eq_self, atI_0, atI_1, atI_2, atI_3, atI_last, exists_eq', Int.cast_ofNat_Int, tab_len, endsP, endsI, rho0, List.set_cons_zero, List.set_cons_succ, List.getElem?_cons_zero, List.getElem?_cons_succ, Option.some.injEq, List.cons.injEq, exists_eq_left', exists_eq, and_assoc, exists_and_left, true_and, and_true, id_eq, List.map_cons, List.map_nil, List.replicate_succ, List.replicate_zero, List.cons_append, List.nil_append, List.length_cons, List.length_nil, PyData.bool.injEq, PyData.int.injEq, PyData.list.injEq, PyData.tuple.injEq, Bool.not_true, Bool.not_false, Bool.false_eq_true, if_true, if_false, ite_true, ite_false, decide_eq_true_eq, Nat.zero_add, Nat.zero_le, Nat.reduceAdd, Nat.reduceSub, Option.join, Option.bind_some, List.getElem?_nil]
  have hsafe2 : SafeT f p gm := st_safe hf (by omega) hst
  refine ⟨f, p, gm, S, rfl, fun _ => ?_, fun z => absurd hsafe2 z⟩
  simp only [decide_true, sSeq, sIf, sSet, sSetL, sAsg, sRet, sRetV, sRetL, sRetN, sNx, sBk, sCt, sApp, sExt, sExpr, sFor, sPar, sParL, sPut, gSet, gNilD, gConsD, gTupD, tBool, tNotD, tAndD, tOrD, tYesD, e1, e2, eN, eC, eVar, eIxO, aNil, aCons, eTup, eLst, eFlat, eIf, eChain, eAnd, eOr, eNot, eSl, pNone, pSome, eCall, eCallI, eCallS, iLst, iRg1, iRg2, iRg3, iZipD, iEnumD, sPut2, sSet2, eLc, wipeR, restR, fAdd_i, fAdd_l, fSub_i, fMul_i, fMul_l, fRep_l, fDiv_i, fMod_i, fPow_i, fNeg_i, fCmp_i, fLt, fLe, fGt, fGe, fLen_l, fLen_t, fInt_i, fInt_b, fAbs_i, fMax_i, fMax_l, fMin_i, fSum_l, fList_l, fList_t, fRev_l, fSl_l, fIx_l, fIx_t, fIs_n, fIsNot_n, fIs_b, fIsNot_b, isNone_n, isNone_i, isNone_l, isNone_t, isT_tt, isT_ii, isT_bi, isT_ll, fIsT, fEq, fNe, eqOk_i, eqOk_s, eqOk_l, eqOk_t, eqOk_n, eqv_nil, eqv_int, List.isEmpty_nil, List.isEmpty_cons, eq_self, atI_0, atI_1, atI_2, atI_3, atI_last, exists_eq', Int.cast_ofNat_Int, tab_len, endsP, endsI, rho0, List.set_cons_zero, List.set_cons_succ, List.getElem?_cons_zero, List.getElem?_cons_succ, Option.some.injEq, List.cons.injEq, exists_eq_left', exists_eq, and_assoc, exists_and_left, true_and, and_true, id_eq, List.map_cons, List.map_nil, List.replicate_succ, List.replicate_zero, List.cons_append, List.nil_append, List.length_cons, List.length_nil, PyData.bool.injEq, PyData.int.injEq, PyData.list.injEq, PyData.tuple.injEq, Bool.not_true, Bool.not_false, Bool.false_eq_true, if_true, if_false, ite_true, ite_false, decide_eq_true_eq, Nat.zero_add, Nat.zero_le, Nat.reduceAdd, Nat.reduceSub, Option.join, Option.bind_some, List.getElem?_nil]
  refine ⟨f, p, gm, S, BT, rfl, ?_⟩
  rw [if_neg (show ¬ p = 0 by omega)]
  have hgr : gm (ht f p) 0 = if pg < p then (rm : Int) else 0 := by
    have htop := top_on (f := f) (p := p) hf (by omega)
    rw [hst _ _ htop, stv_ge (by omega)]
    have e : hiN f p (ht f p) 0 = p := by
      have := ht_top (p := p) hf
      unfold hiN; rw [Nat.zero_add, Nat.one_mul]; omega
    rw [e]
    by_cases z : pg < p
    · rw [if_pos z, if_neg (by omega)]
    · rw [if_neg z, if_pos (by omega)]
  have hgo : ∀ A B : Prop, (B → (if (pg : Int) < (p : Int) then (if (!decide (gm (ht f p) 0 = (rm : Int))) = true then A else B) else (if (!decide (gm (ht f p) 0 = 0)) = true then A else B))) := fun A B h => by
    rw [hgr]
    by_cases z : pg < p
    · rw [if_pos (show (pg : Int) < (p : Int) by omega), if_pos z]; simpa using h
    · rw [if_neg (show ¬ (pg : Int) < (p : Int) by omega), if_neg z]; simpa using h
  simp only [sSeq, sIf, sSet, sSetL, sAsg, sRet, sRetV, sRetL, sRetN, sNx, sBk, sCt, sApp, sExt, sExpr, sFor, sPar, sParL, sPut, gSet, gNilD, gConsD, gTupD, tBool, tNotD, tAndD, tOrD, tYesD, e1, e2, eN, eC, eVar, eIxO, aNil, aCons, eTup, eLst, eFlat, eIf, eChain, eAnd, eOr, eNot, eSl, pNone, pSome, eCall, eCallI, eCallS, iLst, iRg1, iRg2, iRg3, iZipD, iEnumD, sPut2, sSet2, eLc, wipeR, restR, fAdd_i, fAdd_l, fSub_i, fMul_i, fMul_l, fRep_l, fDiv_i, fMod_i, fPow_i, fNeg_i, fCmp_i, fLt, fLe, fGt, fGe, fLen_l, fLen_t, fInt_i, fInt_b, fAbs_i, fMax_i, fMax_l, fMin_i, fSum_l, fList_l, fList_t, fRev_l, fSl_l, fIx_l, fIx_t, fIs_n, fIsNot_n, fIs_b, fIsNot_b, isNone_n, isNone_i, isNone_l, isNone_t, isT_tt, isT_ii, isT_bi, isT_ll, fIsT, fEq, fNe, eqOk_i, eqOk_s, eqOk_l, eqOk_t, eqOk_n, eqv_nil, eqv_int, List.isEmpty_nil, List.isEmpty_cons, eq_self, atI_0, atI_1, atI_2, atI_3, atI_last, exists_eq', Int.cast_ofNat_Int, tab_len, endsP, endsI, rho0, List.set_cons_zero, List.set_cons_succ, List.getElem?_cons_zero, List.getElem?_cons_succ, Option.some.injEq, List.cons.injEq, exists_eq_left', exists_eq, and_assoc, exists_and_left, true_and, and_true, id_eq, List.map_cons, List.map_nil, List.replicate_succ, List.replicate_zero, List.cons_append, List.nil_append, List.length_cons, List.length_nil, PyData.bool.injEq, PyData.int.injEq, PyData.list.injEq, PyData.tuple.injEq, Bool.not_true, Bool.not_false, Bool.false_eq_true, if_true, if_false, ite_true, ite_false, decide_eq_true_eq, Nat.zero_add, Nat.zero_le, Nat.reduceAdd, Nat.reduceSub, Option.join, Option.bind_some, List.getElem?_nil]
  refine hgo _ _ ?_
  -- again
  refine cut_in ?_
  simp only [sSeq, sIf, sSet, sSetL, sAsg, sRet, sRetV, sRetL, sRetN, sNx, sBk, sCt, sApp, sExt, sExpr, sFor, sPar, sParL, sPut, gSet, gNilD, gConsD, gTupD, tBool, tNotD, tAndD, tOrD, tYesD, e1, e2, eN, eC, eVar, eIxO, aNil, aCons, eTup, eLst, eFlat, eIf, eChain, eAnd, eOr, eNot, eSl, pNone, pSome, eCall, eCallI, eCallS, iLst, iRg1, iRg2, iRg3, iZipD, iEnumD, sPut2, sSet2, eLc, wipeR, restR, fAdd_i, fAdd_l, fSub_i, fMul_i, fMul_l, fRep_l, fDiv_i, fMod_i, fPow_i, fNeg_i, fCmp_i, fLt, fLe, fGt, fGe, fLen_l, fLen_t, fInt_i, fInt_b, fAbs_i, fMax_i, fMax_l, fMin_i, fSum_l, fList_l, fList_t, fRev_l, fSl_l, fIx_l, fIx_t, fIs_n, fIsNot_n, fIs_b, fIsNot_b, isNone_n, isNone_i, isNone_l, isNone_t, isT_tt, isT_ii, isT_bi, isT_ll, fIsT, fEq, fNe, eqOk_i, eqOk_s, eqOk_l, eqOk_t, eqOk_n, eqv_nil, eqv_int, List.isEmpty_nil, List.isEmpty_cons, eq_self, atI_0, atI_1, atI_2, atI_3, atI_last, exists_eq', Int.cast_ofNat_Int, tab_len, endsP, endsI, rho0, List.set_cons_zero, List.set_cons_succ, List.getElem?_cons_zero, List.getElem?_cons_succ, Option.some.injEq, List.cons.injEq, exists_eq_left', exists_eq, and_assoc, exists_and_left, true_and, and_true, id_eq, List.map_cons, List.map_nil, List.replicate_succ, List.replicate_zero, List.cons_append, List.nil_append, List.length_cons, List.length_nil, PyData.bool.injEq, PyData.int.injEq, PyData.list.injEq, PyData.tuple.injEq, Bool.not_true, Bool.not_false, Bool.false_eq_true, if_true, if_false, ite_true, ite_false, decide_eq_true_eq, Nat.zero_add, Nat.zero_le, Nat.reduceAdd, Nat.reduceSub, Option.join, Option.bind_some, List.getElem?_nil]
  refine ⟨f, p, pg, rm, nd, r, gm, ms, S, hp, by omega, hpg, hnd1, hnd2, hrb, hr, hst, rfl, ?_⟩
  simp only [sSeq, sIf, sSet, sSetL, sAsg, sRet, sRetV, sRetL, sRetN, sNx, sBk, sCt, sApp, sExt, sExpr, sFor, sPar, sParL, sPut, gSet, gNilD, gConsD, gTupD, tBool, tNotD, tAndD, tOrD, tYesD, e1, e2, eN, eC, eVar, eIxO, aNil, aCons, eTup, eLst, eFlat, eIf, eChain, eAnd, eOr, eNot, eSl, pNone, pSome, eCall, eCallI, eCallS, iLst, iRg1, iRg2, iRg3, iZipD, iEnumD, sPut2, sSet2, eLc, wipeR, restR, fAdd_i, fAdd_l, fSub_i, fMul_i, fMul_l, fRep_l, fDiv_i, fMod_i, fPow_i, fNeg_i, fCmp_i, fLt, fLe, fGt, fGe, fLen_l, fLen_t, fInt_i, fInt_b, fAbs_i, fMax_i, fMax_l, fMin_i, fSum_l, fList_l, fList_t, fRev_l, fSl_l, fIx_l, fIx_t, fIs_n, fIsNot_n, fIs_b, fIsNot_b, isNone_n, isNone_i, isNone_l, isNone_t, isT_tt, isT_ii, isT_bi, isT_ll, fIsT, fEq, fNe, eqOk_i, eqOk_s, eqOk_l, eqOk_t, eqOk_n, eqv_nil, eqv_int, List.isEmpty_nil, List.isEmpty_cons, eq_self, atI_0, atI_1, atI_2, atI_3, atI_last, exists_eq', Int.cast_ofNat_Int, tab_len, endsP, endsI, rho0, List.set_cons_zero, List.set_cons_succ, List.getElem?_cons_zero, List.getElem?_cons_succ, Option.some.injEq, List.cons.injEq, exists_eq_left', exists_eq, and_assoc, exists_and_left, true_and, and_true, id_eq, List.map_cons, List.map_nil, List.replicate_succ, List.replicate_zero, List.cons_append, List.nil_append, List.length_cons, List.length_nil, PyData.bool.injEq, PyData.int.injEq, PyData.list.injEq, PyData.tuple.injEq, Bool.not_true, Bool.not_false, Bool.false_eq_true, if_true, if_false, ite_true, ite_false, decide_eq_true_eq, Nat.zero_add, Nat.zero_le, Nat.reduceAdd, Nat.reduceSub, Option.join, Option.bind_some, List.getElem?_nil]
  -- some
  refine cut_in ?_
  simp only [sSeq, sIf, sSet, sSetL, sAsg, sRet, sRetV, sRetL, sRetN, sNx, sBk, sCt, sApp, sExt, sExpr, sFor, sPar, sParL, sPut, gSet, gNilD, gConsD, gTupD, tBool, tNotD, tAndD, tOrD, tYesD, e1, e2, eN, eC, eVar, eIxO, aNil, aCons, eTup, eLst, eFlat, eIf, eChain, eAnd, eOr, eNot, eSl, pNone, pSome, eCall, eCallI, eCallS, iLst, iRg1, iRg2, iRg3, iZipD, iEnumD, sPut2, sSet2, eLc, wipeR, restR, fAdd_i, fAdd_l, fSub_i, fMul_i, fMul_l, fRep_l, fDiv_i, fMod_i, fPow_i, fNeg_i, fCmp_i, fLt, fLe, fGt, fGe, fLen_l, fLen_t, fInt_i, fInt_b, fAbs_i, fMax_i, fMax_l, fMin_i, fSum_l, fList_l, fList_t, fRev_l, fSl_l, fIx_l, fIx_t, fIs_n, fIsNot_n, fIs_b, fIsNot_b, isNone_n, isNone_i, isNone_l, isNone_t, isT_tt, isT_ii, isT_bi, isT_ll, fIsT, fEq, fNe, eqOk_i, eqOk_s, eqOk_l, eqOk_t, eqOk_n, eqv_nil, eqv_int, List.isEmpty_nil, List.isEmpty_cons, eq_self, atI_0, atI_1, atI_2, atI_3, atI_last, exists_eq', Int.cast_ofNat_Int, tab_len, endsP, endsI, rho0, List.set_cons_zero, List.set_cons_succ, List.getElem?_cons_zero, List.getElem?_cons_succ, Option.some.injEq, List.cons.injEq, exists_eq_left', exists_eq, and_assoc, exists_and_left, true_and, and_true, id_eq, List.map_cons, List.map_nil, List.replicate_succ, List.replicate_zero, List.cons_append, List.nil_append, List.length_cons, List.length_nil, PyData.bool.injEq, PyData.int.injEq, PyData.list.injEq, PyData.tuple.injEq, Bool.not_true, Bool.not_false, Bool.false_eq_true, if_true, if_false, ite_true, ite_false, decide_eq_true_eq, Nat.zero_add, Nat.zero_le, Nat.reduceAdd, Nat.reduceSub, Option.join, Option.bind_some, List.getElem?_nil]
  refine ⟨by decide, by omega, by omega, by rw [Int.toNat_natCast]; exact Nat.le_trans (show 1 * p ≤ 120 by omega) (by decide), ?_⟩
  rw [Int.toNat_natCast, rep_tab]
  have hr1 : ∀ i, i < p → (fun (_ : Nat) => (rm : Int)) i = if 0 ≤ i then (rm : Int) else 0 := fun i _ => by rw [if_pos (Nat.zero_le i)]
  have hf0 := seek_fin (pg := 0) hf hp (Nat.zero_le p) hnd1 hnd2 hr1 hst0 []
  rw [if_pos hp] at hf0
  refine ⟨f, p, g0, _, nd, 1, _, _, _, S, hB00, rfl, by decide, hf0, ?_⟩
  have ho0 : ∀ i, some 0 = some i → i < 2 ^ 60 := fun i hi => by cases hi; decide
  refine ⟨by decide, 3, dTold (some 0) f p g0 [], by decide, gd_told ho0 hB00 MsOk.nil, sz_told S (by omega) MsOk.nil, rfl, ?_⟩
  simp only [sSeq, sIf, sSet, sSetL, sAsg, sRet, sRetV, sRetL, sRetN, sNx, sBk, sCt, sApp, sExt, sExpr, sFor, sPar, sParL, sPut, gSet, gNilD, gConsD, gTupD, tBool, tNotD, tAndD, tOrD, tYesD, e1, e2, eN, eC, eVar, eIxO, aNil, aCons, eTup, eLst, eFlat, eIf, eChain, eAnd, eOr, eNot, eSl, pNone, pSome, eCall, eCallI, eCallS, iLst, iRg1, iRg2, iRg3, iZipD, iEnumD, sPut2, sSet2, eLc, wipeR, restR, fAdd_i, fAdd_l, fSub_i, fMul_i, fMul_l, fRep_l, fDiv_i, fMod_i, fPow_i, fNeg_i, fCmp_i, fLt, fLe, fGt, fGe, fLen_l, fLen_t, fInt_i, fInt_b, fAbs_i, fMax_i, fMax_l, fMin_i, fSum_l, fList_l, fList_t, fRev_l, fSl_l, fIx_l, fIx_t, fIs_n, fIsNot_n, fIs_b, fIsNot_b, isNone_n, isNone_i, isNone_l, isNone_t, isT_tt, isT_ii, isT_bi, isT_ll, fIsT, fEq, fNe, eqOk_i, eqOk_s, eqOk_l, eqOk_t, eqOk_n, eqv_nil, eqv_int, List.isEmpty_nil, List.isEmpty_cons, eq_self, atI_0, atI_1, atI_2, atI_3, atI_last, exists_eq', Int.cast_ofNat_Int, tab_len, endsP, endsI, rho0, List.set_cons_zero, List.set_cons_succ, List.getElem?_cons_zero, List.getElem?_cons_succ, Option.some.injEq, List.cons.injEq, exists_eq_left', exists_eq, and_assoc, exists_and_left, true_and, and_true, id_eq, List.map_cons, List.map_nil, List.replicate_succ, List.replicate_zero, List.cons_append, List.nil_append, List.length_cons, List.length_nil, PyData.bool.injEq, PyData.int.injEq, PyData.list.injEq, PyData.tuple.injEq, Bool.not_true, Bool.not_false, Bool.false_eq_true, if_true, if_false, ite_true, ite_false, decide_eq_true_eq, Nat.zero_add, Nat.zero_le, Nat.reduceAdd, Nat.reduceSub, Option.join, Option.bind_some, List.getElem?_nil]
  have hlast : seekRun f p r ((rm : Int) + 1) 1 g0 [] = some (none, g0, []) := by
    rw [seekRun]
    have : gdown f p g0 ((rm : Int) + 1) = none := by
      unfold gdown
      rw [if_pos]
      right
      rw [hg0 _ _ (top_on hf (by omega))]
      omega
    rw [this]
  refine ⟨f, p, g0, r, (rm : Int) + 1, 1, _, _, _, S, hB00, rfl, by decide, hlast, ?_⟩
  have gL := gd_told (o := none) (f := f) (p := p) (fun i hi => by cases hi) hB00 MsOk.nil
  refine ⟨by decide, gd_shaped (n := 3) (by decide) gL, gd_shaped (n := 3) (by decide) gL, ?_⟩
  have e9 : PyData.eqv (.tuple [dR none, dT f p g0, .list (([] : List (Nat × Nat × Int × Int)).map dM)]) (.tuple [.none, dT f p g0, .list []]) = true := gd_self gL
  rw [e9]
  simp only [sSeq, sIf, sSet, sSetL, sAsg, sRet, sRetV, sRetL, sRetN, sNx, sBk, sCt, sApp, sExt, sExpr, sFor, sPar, sParL, sPut, gSet, gNilD, gConsD, gTupD, tBool, tNotD, tAndD, tOrD, tYesD, e1, e2, eN, eC, eVar, eIxO, aNil, aCons, eTup, eLst, eFlat, eIf, eChain, eAnd, eOr, eNot, eSl, pNone, pSome, eCall, eCallI, eCallS, iLst, iRg1, iRg2, iRg3, iZipD, iEnumD, sPut2, sSet2, eLc, wipeR, restR, fAdd_i, fAdd_l, fSub_i, fMul_i, fMul_l, fRep_l, fDiv_i, fMod_i, fPow_i, fNeg_i, fCmp_i, fLt, fLe, fGt, fGe, fLen_l, fLen_t, fInt_i, fInt_b, fAbs_i, fMax_i, fMax_l, fMin_i, fSum_l, fList_l, fList_t, fRev_l, fSl_l, fIx_l, fIx_t, fIs_n, fIsNot_n, fIs_b, fIsNot_b, isNone_n, isNone_i, isNone_l, isNone_t, isT_tt, isT_ii, isT_bi, isT_ll, fIsT, fEq, fNe, eqOk_i, eqOk_s, eqOk_l, eqOk_t, eqOk_n, eqv_nil, eqv_int, List.isEmpty_nil, List.isEmpty_cons, eq_self, atI_0, atI_1, atI_2, atI_3, atI_last, exists_eq', Int.cast_ofNat_Int, tab_len, endsP, endsI, rho0, List.set_cons_zero, List.set_cons_succ, List.getElem?_cons_zero, List.getElem?_cons_succ, Option.some.injEq, List.cons.injEq, exists_eq_left', exists_eq, and_assoc, exists_and_left, true_and, and_true, id_eq, List.map_cons, List.map_nil, List.replicate_succ, List.replicate_zero, List.cons_append, List.nil_append, List.length_cons, List.length_nil, PyData.bool.injEq, PyData.int.injEq, PyData.list.injEq, PyData.tuple.injEq, Bool.not_true, Bool.not_false, Bool.false_eq_true, if_true, if_false, ite_true, ite_false, decide_eq_true_eq, Nat.zero_add, Nat.zero_le, Nat.reduceAdd, Nat.reduceSub, Option.join, Option.bind_some, List.getElem?_nil]
  exact hnx _ ⟨_, _, _, _, _, _, _, _, _, _, _, _, _, _, _, _, _, _, _, _, hB9.mono (by omega), rfl⟩
end DD

set_option Elab.async false
set_option linter.all false
set_option maxRecDepth 100000
set_option maxHeartbeats 4000000
namespace DD
open PySem PySem.Spec PyProof.Rows L2
structure Blt (mg : Str → Option Value) : Prop where
  len : mg "len" = none
  int : mg "int" = none
  abs : mg "abs" = none
  max : mg "max" = none
  min : mg "min" = none
  sum : mg "sum" = none
  list : mg "list" = none
  repr : mg "repr" = none
  isinstance : mg "isinstance" = none
  bool : mg "bool" = none
  tuple : mg "tuple" = none
  str : mg "str" = none
  range : mg "range" = none
  zip : mg "zip" = none
  enumerate : mg "enumerate" = none
  sorted : mg "sorted" = none
def topS (i : Nat) : Stmt := PySem.Challenge.pw_ullage_k30_whole_search_that_mends_page.main.body.getD i (.Pass ⟨0, 0, 0, 0⟩)
section
variable {P : Program} {w : World} {K : PySem.W.Frag} {mg : Str → Option Value} {base : Heap}
theorem fnG_no {k n : Nat} {fr : Bool} {f : Addr} {fd : FuncData} {ps : List Str} {F : List D → (D → Prop) → Prop} (h : ∀ ds Q, F ds Q → False) : FnG P w K mg base k f fd ps (spP K n fr F) :=
  ⟨fun vs H Q ⟨_, _, _, _, _, _, q, _⟩ => (h _ _ q).elim, fun A outer s H args us vs Q _ _ _ _ _ ⟨_, _, _, _, _, _, q, _⟩ => (h _ _ q).elim⟩
theorem sq_within_0 {ds : List D} {Q : D → Prop} : sq_within 0 ds Q → False := by
  intro h
  unfold sq_within at h
  grind
abbrev s_is_whole : Stmt := topS 5
abbrev N_is_whole : List Str := ["thing"]
theorem S_is_whole : FnScope N_is_whole ["thing"] (defScope s_is_whole) := ⟨rfl, rfl, rfl, by decide +kernel, rfl, by decide +kernel, by decide +kernel⟩
theorem j_is_whole (M : Blt mg)  {f : Addr} {fd : FuncData} (F : Fun K "is_whole" "is_whole" s_is_whole f fd) : FnG P w K mg base 1 f fd ["thing"] (spP K 1 false sp_is_whole) := by
  have nd : N_is_whole.Nodup := S_is_whole.nd
  refine fun_okP (Γ := [.fz]) (Γo := [.fz]) (Γl := [.fz]) (Γr := ⟨[.fz], false⟩) (ω := w_is_whole) F S_is_whole rfl (by decide) rfl (by decide) m_is_whole (fun cd A outer s H0 O => ?_)
  exact (JSs_one (JS_ret (J_and (J_isi known_int M.isinstance M.int (by decide +kernel) (J_var (pv 0))) (J_one (J_not (J_isi known_bool M.isinstance M.bool (by decide +kernel) (J_var (pv 0))))))))
abbrev s_levels : Stmt := topS 6
abbrev N_levels : List Str := ["shape", "counts", "pages", "fan"]
theorem S_levels : FnScope N_levels ["shape"] (defScope s_levels) := ⟨rfl, rfl, rfl, by decide +kernel, rfl, by decide +kernel, by decide +kernel⟩
theorem j_levels (M : Blt mg)  {f : Addr} {fd : FuncData} (F : Fun K "levels" "levels" s_levels f fd) : FnG P w K mg base 1 f fd ["shape"] (spP K 1 false sp_levels) := by
  have nd : N_levels.Nodup := S_levels.nd
  refine fun_okP (Γ := [.fz, .o1, .fz, .fz]) (Γo := [.fz, .o1, .fz, .fz]) (Γl := [.fz, .o1, .fz, .fz]) (Γr := ⟨[.fz, .fz, .fz, .fz], false⟩) (ω := w_levels) F S_levels rfl (by decide) rfl (by decide) m_levels (fun cd A outer s H0 O => ?_)
  exact (JSs_cons (JS_asg (JG_tup O.calm (JGs_cons (JG_name nd (i := 2)) (JGs_cons (JG_name nd (i := 3)) JGs_nil))) (J_var (pv 0))) (JSs_cons (JS_setL nd (i := 1) (J1_lst JA_nil)) (JSs_cons (JS_if (JT_gt (b := false) (J_var (pv 2)) J_int) (JSs_cons (JS_append (pv 1) (J_var (pv 2))) (JSs_one (JS_while PassesOwn.never (JT_gt (b := false) (J_ixO (pv 1) (J_neg J_int)) J_int) (JSs_one (JS_append (pv 1) (J_neg (J_div (J_neg (J_ixO (pv 1) (J_neg J_int))) (J_var (pv 3))))))))) JSs_nil) (JSs_one (JS_ret (J_var (pv 1)))))))
abbrev s_is_node : Stmt := topS 7
abbrev N_is_node : List Str := ["shape", "thing", "counts"]
theorem S_is_node : FnScope N_is_node ["shape", "thing"] (defScope s_is_node) := ⟨rfl, rfl, rfl, by decide +kernel, rfl, by decide +kernel, by decide +kernel⟩
theorem j_is_node (M : Blt mg) (h_is_whole : Hd P w K mg base 1 "is_whole" (spP K 1 false sp_is_whole)) (h_levels : Hd P w K mg base 1 "levels" (spP K 1 false sp_levels)) {f : Addr} {fd : FuncData} (F : Fun K "is_node" "is_node" s_is_node f fd) : FnG P w K mg base 2 f fd ["shape", "thing"] (spP K 2 false sp_is_node) := by
  have nd : N_is_node.Nodup := S_is_node.nd
  refine fun_okP (Γ := [.fz, .fz, .fz]) (Γo := [.fz, .fz, .fz]) (Γl := [.fz, .fz, .fz]) (Γr := ⟨[.fz, .fz, .fz], false⟩) (ω := w_is_node) F S_is_node rfl (by decide) rfl (by decide) m_is_node (fun cd A outer s H0 O => ?_)
  exact (JSs_cons (JS_if (JT_W (JW_or (JT_not (JT_val (b := false) (J_isi known_tuple M.isinstance M.tuple (by decide +kernel) (J_var (pv 1))))) (JW_or (JT_ne (b := false) O (J_len M.len (JA_cons (J_var (pv 1)) JA_nil)) J_int) (JW_or (JT_not (JT_val (b := false) (J_call O (h_is_whole.up (by decide)) (JA_cons (J_ix (J_var (pv 1)) J_int) JA_nil)))) (JW_or1 (JT_not (JT_val (b := false) (J_call O (h_is_whole.up (by decide)) (JA_cons (J_ix (J_var (pv 1)) J_int) JA_nil))))))))) (JSs_one (JS_ret J_bl)) JSs_nil) (JSs_cons (JS_set nd (i := 2) (J_call O (h_levels.up (by decide)) (JA_cons (J_var (pv 0)) JA_nil))) (JSs_one (JS_ret (J_and (J_chain op_le op_lt o_cmp o_cmp J_int (J_ix (J_var (pv 1)) J_int) (J_len M.len (JA_cons (J_var (pv 2)) JA_nil))) (J_one (J_chain op_le op_lt o_cmp o_cmp J_int (J_ix (J_var (pv 1)) J_int) (J_ix (J_var (pv 2)) (J_ix (J_var (pv 1)) J_int)))))))))
abbrev s_need_node : Stmt := topS 8
abbrev N_need_node : List Str := ["shape", "thing"]
theorem S_need_node : FnScope N_need_node ["shape", "thing"] (defScope s_need_node) := ⟨rfl, rfl, rfl, by decide +kernel, rfl, by decide +kernel, by decide +kernel⟩
theorem j_need_node (M : Blt mg) (h_is_node : Hd P w K mg base 2 "is_node" (spP K 2 false sp_is_node)) {f : Addr} {fd : FuncData} (F : Fun K "need_node" "need_node" s_need_node f fd) : FnG P w K mg base 3 f fd ["shape", "thing"] (spP K 2 false sp_need_node) := by
  have nd : N_need_node.Nodup := S_need_node.nd
  refine fun_okP (Γ := [.fz, .fz]) (Γo := [.fz, .fz]) (Γl := [.fz, .fz]) (Γr := ⟨[.fz, .fz], false⟩) (ω := w_need_node) F S_need_node rfl (by decide) rfl (by decide) m_need_node (fun cd A outer s H0 O => ?_)
  exact (JSs_one (JS_if (JT_not (JT_val (b := false) (J_call O (h_is_node.up (by decide)) (JA_cons (J_var (pv 0)) (JA_cons (J_var (pv 1)) JA_nil))))) (JSs_one JS_never) JSs_nil))
abbrev s_span : Stmt := topS 9
abbrev N_span : List Str := ["shape", "node", "wide", "level"]
theorem S_span : FnScope N_span ["shape", "node"] (defScope s_span) := ⟨rfl, rfl, rfl, by decide +kernel, rfl, by decide +kernel, by decide +kernel⟩
theorem j_span (M : Blt mg) (h_need_node : Hd P w K mg base 3 "need_node" (spP K 2 false sp_need_node)) {f : Addr} {fd : FuncData} (F : Fun K "span" "span" s_span f fd) : FnG P w K mg base 4 f fd ["shape", "node"] (spP K 2 false sp_span) := by
  have nd : N_span.Nodup := S_span.nd
  refine fun_okP (Γ := [.fz, .fz, .fz, .fz]) (Γo := [.fz, .fz, .fz, .fz]) (Γl := [.fz, .fz, .fz, .fz]) (Γr := ⟨[.fz, .fz, .fz, .fz], false⟩) (ω := w_span) F S_span rfl (by decide) rfl (by decide) m_span (fun cd A outer s H0 O => ?_)
  exact (JSs_cons (JS_expr (J_call O (h_need_node.up (by decide)) (JA_cons (J_var (pv 0)) (JA_cons (J_var (pv 1)) JA_nil)))) (JSs_cons (JS_set nd (i := 2) J_int) (JSs_cons (JS_for PassesOwn.never O.calm (JI_range1 M.range (JA_cons (J_ix (J_var (pv 1)) J_int) JA_nil)) (JG_name nd (i := 3)) (JSs_one (JS_set nd (i := 2) (J_mul (J_var (pv 2)) (J_ix (J_var (pv 0)) J_int))))) (JSs_one (JS_ret (J_tup (JA_cons (J_mul (J_ix (J_var (pv 1)) J_int) (J_var (pv 2))) (JA_cons (J_min O M.min (JA_cons (J_ix (J_var (pv 0)) J_int) (JA_cons (J_mul (J_add (J_ix (J_var (pv 1)) J_int) J_int) (J_var (pv 2))) JA_nil))) JA_nil))))))))
abbrev s_children : Stmt := topS 10
abbrev N_children : List Str := ["shape", "node", "many", "begin", "place"]
theorem S_children : FnScope N_children ["shape", "node"] (defScope s_children) := ⟨rfl, rfl, rfl, by decide +kernel, rfl, by decide +kernel, by decide +kernel⟩
theorem j_children (M : Blt mg) (h_levels : Hd P w K mg base 1 "levels" (spP K 1 false sp_levels)) (h_need_node : Hd P w K mg base 3 "need_node" (spP K 2 false sp_need_node)) {f : Addr} {fd : FuncData} (F : Fun K "children" "children" s_children f fd) : FnG P w K mg base 4 f fd ["shape", "node"] (spP K 2 false sp_children) := by
  have nd : N_children.Nodup := S_children.nd
  refine fun_okP (Γ := [.fz, .fz, .fz, .fz, .fz]) (Γo := [.fz, .fz, .fz, .fz, .fz]) (Γl := [.fz, .fz, .fz, .fz, .fz]) (Γr := ⟨[.fz, .fz, .fz, .fz, .fz], false⟩) (ω := w_children) F S_children rfl (by decide) rfl (by decide) m_children (fun cd A outer s H0 O => ?_)
  exact (JSs_cons (JS_expr (J_call O (h_need_node.up (by decide)) (JA_cons (J_var (pv 0)) (JA_cons (J_var (pv 1)) JA_nil)))) (JSs_cons (JS_if (JT_eq (b := false) O (J_ix (J_var (pv 1)) J_int) J_int) (JSs_one (JS_ret (J_lst JA_nil))) JSs_nil) (JSs_cons (JS_set nd (i := 2) (J_ix (J_call O (h_levels.up (by decide)) (JA_cons (J_var (pv 0)) JA_nil)) (J_sub (J_ix (J_var (pv 1)) J_int) J_int))) (JSs_cons (JS_set nd (i := 3) (J_mul (J_ix (J_var (pv 1)) J_int) (J_ix (J_var (pv 0)) J_int))) (JSs_one (JS_ret (J_lc (own := [("place", 4)]) O nd (JI_range2 M.range (JA_cons (J_var (pv 3)) (JA_cons (J_min O M.min (JA_cons (J_var (pv 2)) (JA_cons (J_add (J_var (pv 3)) (J_ix (J_var (pv 0)) J_int)) JA_nil))) JA_nil))) (blkOk_by (N := N_children) (sc := defScope s_children) (by decide +kernel)) (fun _ _ _ _ _ => (JG_name nd (i := 4))) (fun _ _ _ _ _ O => JTs_nil) (fun _ _ _ _ _ O => (J_tup (JA_cons (J_sub (J_ix (J_var (pv 1)) J_int) J_int) (JA_cons (J_var (pv 4)) JA_nil)))))))))))
abbrev s_top : Stmt := topS 11
abbrev N_top : List Str := ["shape", "counts"]
theorem S_top : FnScope N_top ["shape"] (defScope s_top) := ⟨rfl, rfl, rfl, by decide +kernel, rfl, by decide +kernel, by decide +kernel⟩
theorem j_top (M : Blt mg) (h_levels : Hd P w K mg base 1 "levels" (spP K 1 false sp_levels)) {f : Addr} {fd : FuncData} (F : Fun K "top" "top" s_top f fd) : FnG P w K mg base 2 f fd ["shape"] (spP K 1 false sp_top) := by
  have nd : N_top.Nodup := S_top.nd
  refine fun_okP (Γ := [.fz, .fz]) (Γo := [.fz, .fz]) (Γl := [.fz, .fz]) (Γr := ⟨[.fz, .fz], false⟩) (ω := w_top) F S_top rfl (by decide) rfl (by decide) m_top (fun cd A outer s H0 O => ?_)
  exact (JSs_cons (JS_set nd (i := 1) (J_call O (h_levels.up (by decide)) (JA_cons (J_var (pv 0)) JA_nil))) (JSs_cons (JS_if (JT_eq (b := false) O (J_var (pv 1)) (J_lst JA_nil)) (JSs_one (JS_ret J_non)) JSs_nil) (JSs_one (JS_ret (J_tup (JA_cons (J_sub (J_len M.len (JA_cons (J_var (pv 1)) JA_nil)) J_int) (JA_cons J_int JA_nil)))))))
abbrev s_told_above : Stmt := topS 13
abbrev N_told_above : List Str := ["level", "fan", "at"]
theorem S_told_above : FnScope N_told_above ["level", "fan"] (defScope s_told_above) := ⟨rfl, rfl, rfl, by decide +kernel, rfl, by decide +kernel, by decide +kernel⟩
theorem j_told_above (M : Blt mg)  {f : Addr} {fd : FuncData} (F : Fun K "told_above" "told_above" s_told_above f fd) : FnG P w K mg base 1 f fd ["level", "fan"] (spP K 2 false sp_told_above) := by
  have nd : N_told_above.Nodup := S_told_above.nd
  refine fun_okP (Γ := [.fz, .fz, .fz]) (Γo := [.fz, .fz, .fz]) (Γl := [.fz, .fz, .fz]) (Γr := ⟨[.fz, .fz, .fz], false⟩) (ω := w_told_above) F S_told_above rfl (by decide) rfl (by decide) m_told_above (fun cd A outer s H0 O => ?_)
  exact (JSs_one (JS_ret (J_lc (own := [("at", 2)]) O nd (JI_range3 M.range (JA_cons J_int (JA_cons (J_len M.len (JA_cons (J_var (pv 0)) JA_nil)) (JA_cons (J_var (pv 1)) JA_nil)))) (blkOk_by (N := N_told_above) (sc := defScope s_told_above) (by decide +kernel)) (fun _ _ _ _ _ => (JG_name nd (i := 2))) (fun _ _ _ _ _ O => JTs_nil) (fun _ _ _ _ _ O => (J_max O M.max (JA_cons (J_slice (J_var (pv 0)) (JP_some (J_var (pv 2))) (JP_some (J_add (J_var (pv 2)) (J_var (pv 1))))) JA_nil))))))
abbrev s_built : Stmt := topS 14
abbrev N_built : List Str := ["rooms", "fan", "tree"]
theorem S_built : FnScope N_built ["rooms", "fan"] (defScope s_built) := ⟨rfl, rfl, rfl, by decide +kernel, rfl, by decide +kernel, by decide +kernel⟩
theorem j_built (M : Blt mg) (h_told_above : Hd P w K mg base 1 "told_above" (spP K 2 false sp_told_above)) {f : Addr} {fd : FuncData} (F : Fun K "built" "built" s_built f fd) : FnG P w K mg base 2 f fd ["rooms", "fan"] (spP K 2 false sp_built) := by
  have nd : N_built.Nodup := S_built.nd
  refine fun_okP (Γ := [.fz, .fz, .o1]) (Γo := [.fz, .fz, .o1]) (Γl := [.fz, .fz, .o1]) (Γr := ⟨[.fz, .fz, .fz], false⟩) (ω := w_built) F S_built rfl (by decide) rfl (by decide) m_built (fun cd A outer s H0 O => ?_)
  exact (JSs_cons (JS_if (JT_eq (b := false) O (J_var (pv 0)) (J_lst JA_nil)) (JSs_one (JS_ret (J_lst JA_nil))) JSs_nil) (JSs_cons (JS_setL nd (i := 2) (J1_lst (JA_cons (J_list M.list (JA_cons (J_var (pv 0)) JA_nil)) JA_nil))) (JSs_cons (JS_while PassesOwn.never (JT_gt (b := false) (J_len M.len (JA_cons (J_ixO (pv 2) (J_neg J_int)) JA_nil)) J_int) (JSs_one (JS_append (pv 2) (J_call O (h_told_above.up (by decide)) (JA_cons (J_ixO (pv 2) (J_neg J_int)) (JA_cons (J_var (pv 1)) JA_nil)))))) (JSs_one (JS_ret (J_var (pv 2)))))))
abbrev s_pages_of : Stmt := topS 15
abbrev N_pages_of : List Str := ["tree"]
theorem S_pages_of : FnScope N_pages_of ["tree"] (defScope s_pages_of) := ⟨rfl, rfl, rfl, by decide +kernel, rfl, by decide +kernel, by decide +kernel⟩
theorem j_pages_of (M : Blt mg)  {f : Addr} {fd : FuncData} (F : Fun K "pages_of" "pages_of" s_pages_of f fd) : FnG P w K mg base 1 f fd ["tree"] (spP K 1 false sp_pages_of) := by
  have nd : N_pages_of.Nodup := S_pages_of.nd
  refine fun_okP (Γ := [.fz]) (Γo := [.fz]) (Γl := [.fz]) (Γr := ⟨[.fz], false⟩) (ω := w_pages_of) F S_pages_of rfl (by decide) rfl (by decide) m_pages_of (fun cd A outer s H0 O => ?_)
  exact (JSs_cons (JS_if (JT_eq (b := false) O (J_var (pv 0)) (J_lst JA_nil)) (JSs_one (JS_ret J_int)) JSs_nil) (JSs_one (JS_ret (J_len M.len (JA_cons (J_ix (J_var (pv 0)) J_int) JA_nil)))))
abbrev s_fault : Stmt := topS 16
abbrev N_fault : List Str := ["tree", "fan", "at", "due", "place"]
theorem S_fault : FnScope N_fault ["tree", "fan"] (defScope s_fault) := ⟨rfl, rfl, rfl, by decide +kernel, rfl, by decide +kernel, by decide +kernel⟩
theorem j_fault (M : Blt mg) (h_told_above : Hd P w K mg base 1 "told_above" (spP K 2 false sp_told_above)) {f : Addr} {fd : FuncData} (F : Fun K "fault" "fault" s_fault f fd) : FnG P w K mg base 2 f fd ["tree", "fan"] (spP K 2 false sp_fault) := by
  have nd : N_fault.Nodup := S_fault.nd
  refine fun_okP (Γ := [.fz, .fz, .fz, .fz, .fz]) (Γo := [.fz, .fz, .fz, .fz, .fz]) (Γl := [.fz, .fz, .fz, .fz, .fz]) (Γr := ⟨[.fz, .fz, .fz, .fz, .fz], false⟩) (ω := w_fault) F S_fault rfl (by decide) rfl (by decide) m_fault (fun cd A outer s H0 O => ?_)
  exact (JSs_cons (JS_for PassesOwn.never O.calm (JI_range2 M.range (JA_cons J_int (JA_cons (J_len M.len (JA_cons (J_var (pv 0)) JA_nil)) JA_nil))) (JG_name nd (i := 2)) (JSs_cons (JS_set nd (i := 3) (J_call O (h_told_above.up (by decide)) (JA_cons (J_ix (J_var (pv 0)) (J_sub (J_var (pv 2)) J_int)) (JA_cons (J_var (pv 1)) JA_nil)))) (JSs_one (JS_for PassesOwn.never O.calm (JI_range1 M.range (JA_cons (J_len M.len (JA_cons (J_var (pv 3)) JA_nil)) JA_nil)) (JG_name nd (i := 4)) (JSs_one (JS_if (JT_ne (b := false) O (J_ix (J_ix (J_var (pv 0)) (J_var (pv 2))) (J_var (pv 4))) (J_ix (J_var (pv 3)) (J_var (pv 4)))) (JSs_one (JS_ret (J_tup (JA_cons (J_var (pv 2)) (JA_cons (J_var (pv 4)) JA_nil))))) JSs_nil)))))) (JSs_one (JS_ret J_non)))
abbrev s_tells : Stmt := topS 17
abbrev N_tells : List Str := ["tree", "node"]
theorem S_tells : FnScope N_tells ["tree", "node"] (defScope s_tells) := ⟨rfl, rfl, rfl, by decide +kernel, rfl, by decide +kernel, by decide +kernel⟩
theorem j_tells (M : Blt mg) (h_is_whole : Hd P w K mg base 1 "is_whole" (spP K 1 false sp_is_whole)) {f : Addr} {fd : FuncData} (F : Fun K "tells" "tells" s_tells f fd) : FnG P w K mg base 2 f fd ["tree", "node"] (spP K 2 false sp_tells) := by
  have nd : N_tells.Nodup := S_tells.nd
  refine fun_okP (Γ := [.fz, .fz]) (Γo := [.fz, .fz]) (Γl := [.fz, .fz]) (Γr := ⟨[.fz, .fz], false⟩) (ω := w_tells) F S_tells rfl (by decide) rfl (by decide) m_tells (fun cd A outer s H0 O => ?_)
  exact (JSs_cons (JS_if (JT_W (JW_or (JT_not (JT_val (b := false) (J_isi known_tuple M.isinstance M.tuple (by decide +kernel) (J_var (pv 1))))) (JW_or (JT_ne (b := false) O (J_len M.len (JA_cons (J_var (pv 1)) JA_nil)) J_int) (JW_or (JT_not (JT_val (b := false) (J_call O (h_is_whole.up (by decide)) (JA_cons (J_ix (J_var (pv 1)) J_int) JA_nil)))) (JW_or1 (JT_not (JT_val (b := false) (J_call O (h_is_whole.up (by decide)) (JA_cons (J_ix (J_var (pv 1)) J_int) JA_nil))))))))) (JSs_one JS_never) JSs_nil) (JSs_cons (JS_if (JT_W (JW_or (JT_not (JT_chain (b := false) op_le op_lt o_cmp o_cmp J_int (J_ix (J_var (pv 1)) J_int) (J_len M.len (JA_cons (J_var (pv 0)) JA_nil)))) (JW_or1 (JT_not (JT_chain (b := false) op_le op_lt o_cmp o_cmp J_int (J_ix (J_var (pv 1)) J_int) (J_len M.len (JA_cons (J_ix (J_var (pv 0)) (J_ix (J_var (pv 1)) J_int)) JA_nil))))))) (JSs_one JS_never) JSs_nil) (JSs_one (JS_ret (J_ix (J_ix (J_var (pv 0)) (J_ix (J_var (pv 1)) J_int)) (J_ix (J_var (pv 1)) J_int))))))
abbrev s_greatest : Stmt := topS 18
abbrev N_greatest : List Str := ["tree"]
theorem S_greatest : FnScope N_greatest ["tree"] (defScope s_greatest) := ⟨rfl, rfl, rfl, by decide +kernel, rfl, by decide +kernel, by decide +kernel⟩
theorem j_greatest (M : Blt mg)  {f : Addr} {fd : FuncData} (F : Fun K "greatest" "greatest" s_greatest f fd) : FnG P w K mg base 1 f fd ["tree"] (spP K 1 false sp_greatest) := by
  have nd : N_greatest.Nodup := S_greatest.nd
  refine fun_okP (Γ := [.fz]) (Γo := [.fz]) (Γl := [.fz]) (Γr := ⟨[.fz], false⟩) (ω := w_greatest) F S_greatest rfl (by decide) rfl (by decide) m_greatest (fun cd A outer s H0 O => ?_)
  exact (JSs_cons (JS_if (JT_eq (b := false) O (J_var (pv 0)) (J_lst JA_nil)) (JSs_one (JS_ret J_int)) JSs_nil) (JSs_one (JS_ret (J_ix (J_ix (J_var (pv 0)) (J_neg J_int)) J_int))))
abbrev s_shape_of : Stmt := topS 19
abbrev N_shape_of : List Str := ["tree", "fan"]
theorem S_shape_of : FnScope N_shape_of ["tree", "fan"] (defScope s_shape_of) := ⟨rfl, rfl, rfl, by decide +kernel, rfl, by decide +kernel, by decide +kernel⟩
theorem j_shape_of (M : Blt mg) (h_pages_of : Hd P w K mg base 1 "pages_of" (spP K 1 false sp_pages_of)) {f : Addr} {fd : FuncData} (F : Fun K "shape_of" "shape_of" s_shape_of f fd) : FnG P w K mg base 2 f fd ["tree", "fan"] (spP K 2 false sp_shape_of) := by
  have nd : N_shape_of.Nodup := S_shape_of.nd
  refine fun_okP (Γ := [.fz, .fz]) (Γo := [.fz, .fz]) (Γl := [.fz, .fz]) (Γr := ⟨[.fz, .fz], false⟩) (ω := w_shape_of) F S_shape_of rfl (by decide) rfl (by decide) m_shape_of (fun cd A outer s H0 O => ?_)
  exact (JSs_one (JS_ret (J_tup (JA_cons (J_call O (h_pages_of.up (by decide)) (JA_cons (J_var (pv 0)) JA_nil)) (JA_cons (J_var (pv 1)) JA_nil)))))
abbrev s_goes_down : Stmt := topS 21
abbrev N_goes_down : List Str := ["tree", "shape", "need", "node", "ways", "child"]
theorem S_goes_down : FnScope N_goes_down ["tree", "shape", "need"] (defScope s_goes_down) := ⟨rfl, rfl, rfl, by decide +kernel, rfl, by decide +kernel, by decide +kernel⟩
theorem j_goes_down (M : Blt mg) (h_children : Hd P w K mg base 4 "children" (spP K 2 false sp_children)) (h_top : Hd P w K mg base 2 "top" (spP K 1 false sp_top)) (h_tells : Hd P w K mg base 2 "tells" (spP K 2 false sp_tells)) {f : Addr} {fd : FuncData} (F : Fun K "goes_down" "goes_down" s_goes_down f fd) : FnG P w K mg base 5 f fd ["tree", "shape", "need"] (spP K 3 false sp_goes_down) := by
  have nd : N_goes_down.Nodup := S_goes_down.nd
  refine fun_okP (Γ := [.fz, .fz, .fz, .fz, .fz, .fz]) (Γo := [.fz, .fz, .fz, .fz, .fz, .fz]) (Γl := [.fz, .fz, .fz, .fz, .fz, .fz]) (Γr := ⟨[.fz, .fz, .fz, .fz, .fz, .fz], false⟩) (ω := w_goes_down) F S_goes_down rfl (by decide) rfl (by decide) m_goes_down (fun cd A outer s H0 O => ?_)
  exact (JSs_cons (JS_set nd (i := 3) (J_call O (h_top.up (by decide)) (JA_cons (J_var (pv 1)) JA_nil))) (JSs_cons (JS_if (JT_W (JW_or (JT_is (b := false) (J_var (pv 3)) J_non) (JW_or1 (JT_lt (b := false) (J_call O (h_tells.up (by decide)) (JA_cons (J_var (pv 0)) (JA_cons (J_var (pv 3)) JA_nil))) (J_var (pv 2)))))) (JSs_one (JS_ret J_non)) JSs_nil) (JSs_cons (JS_while PassesOwn.never (JT_gt (b := false) (J_ix (J_var (pv 3)) J_int) J_int) (JSs_cons (JS_setLc (i := 4) (own := [("child", 5)]) O nd (JI_list (J_call O (h_children.up (by decide)) (JA_cons (J_var (pv 1)) (JA_cons (J_var (pv 3)) JA_nil)))) (blkOk_by (N := N_goes_down) (sc := defScope s_goes_down) (by decide +kernel)) (fun _ _ _ _ _ => (JG_name nd (i := 5))) (fun _ _ _ _ _ O => (JTs_one (JT_ge (b := false) (J_call O (h_tells.up (by decide)) (JA_cons (J_var (pv 0)) (JA_cons (J_var (pv 5)) JA_nil))) (J_var (pv 2))))) (fun _ _ _ _ _ O => (J_var (pv 5)))) (JSs_cons (JS_if (JT_eq (b := false) O (J_var (pv 4)) (J_lst JA_nil)) (JSs_one (JS_ret (J_var (pv 3)))) JSs_nil) (JSs_one (JS_set nd (i := 3) (J_ix (J_var (pv 4)) J_int)))))) (JSs_one (JS_ret (J_var (pv 3)))))))
abbrev s_seek : Stmt := topS 22
abbrev N_seek : List Str := ["tree", "fan", "rooms", "need", "made", "shape", "mends", "node", "now", "level", "place", "child"]
theorem S_seek : FnScope N_seek ["tree", "fan", "rooms", "need"] (defScope s_seek) := ⟨rfl, rfl, rfl, by decide +kernel, rfl, by decide +kernel, by decide +kernel⟩
theorem j_seek (M : Blt mg) (h_children : Hd P w K mg base 4 "children" (spP K 2 false sp_children)) (h_tells : Hd P w K mg base 2 "tells" (spP K 2 false sp_tells)) (h_shape_of : Hd P w K mg base 2 "shape_of" (spP K 2 false sp_shape_of)) (h_goes_down : Hd P w K mg base 5 "goes_down" (spP K 3 false sp_goes_down)) {f : Addr} {fd : FuncData} (F : Fun K "seek" "seek" s_seek f fd) : FnG P w K mg base 6 f fd ["tree", "fan", "rooms", "need"] (spP K 4 false sp_seek) := by
  have nd : N_seek.Nodup := S_seek.nd
  refine fun_okP (Γ := [.fz, .fz, .fz, .fz, .o2, .fz, .o1, .fz, .fz, .fz, .fz, .fz]) (Γo := [.fz, .fz, .fz, .fz, .o2, .fz, .o1, .fz, .fz, .fz, .fz, .fz]) (Γl := [.fz, .fz, .fz, .fz, .o2, .fz, .o1, .fz, .fz, .fz, .fz, .fz]) (Γr := ⟨[.fz, .fz, .fz, .fz, .fz, .fz, .fz, .fz, .fz, .fz, .fz, .fz], false⟩) (ω := w_seek) F S_seek rfl (by decide) rfl (by decide) m_seek (fun cd A outer s H0 O => ?_)
  exact (JSs_cons (JS_set2c (i := 4) (j := 9) (y := "level") O nd M.list (JI_list (J_var (pv 0))) (blkOk_by (N := N_seek) (sc := defScope s_seek) (by decide +kernel))) (JSs_cons (JS_set nd (i := 5) (J_call O (h_shape_of.up (by decide)) (JA_cons (J_var (pv 0)) (JA_cons (J_var (pv 1)) JA_nil)))) (JSs_cons (JS_setL nd (i := 6) (J1_lst JA_nil)) (JSs_one (JS_while PassesOwn.never (JT_val (b := false) J_bl) (JSs_cons (JS_set nd (i := 7) (J_flat (J_call O (h_goes_down.up (by decide)) (JA_cons (J_varB (pv 4)) (JA_cons (J_varB (pv 5)) (JA_cons (J_varB (pv 3)) JA_nil)))))) (JSs_cons (JS_if (JT_is (b := false) (J_var (pv 7)) J_non) (JSs_one (JS_ret (J_tup (JA_cons J_non (JA_cons (J_var (pv 4)) (JA_cons (J_var (pv 6)) JA_nil)))))) JSs_nil) (JSs_cons (JS_asg (JG_tup O.calm (JGs_cons (JG_name nd (i := 9)) (JGs_cons (JG_name nd (i := 10)) JGs_nil))) (J_var (pv 7))) (JSs_cons (JS_if (JT_W (JW_and (JT_eq (b := false) O (J_var (pv 9)) J_int) (JW_and1 (JT_ge (b := false) (J_ix (J_var (pv 2)) (J_var (pv 10))) (J_var (pv 3)))))) (JSs_one (JS_ret (J_tup (JA_cons (J_var (pv 10)) (JA_cons (J_var (pv 4)) (JA_cons (J_var (pv 6)) JA_nil)))))) JSs_nil) (JSs_cons (JS_set nd (i := 8) (J_if (JT_eq (b := false) O (J_var (pv 9)) J_int) (J_ix (J_var (pv 2)) (J_var (pv 10))) (J_max O M.max (JA_cons (J_lc (own := [("child", 11)]) O nd (JI_list (J_call O (h_children.up (by decide)) (JA_cons (J_var (pv 5)) (JA_cons (J_var (pv 7)) JA_nil)))) (blkOk_by (N := N_seek) (sc := defScope s_seek) (by decide +kernel)) (fun _ _ _ _ _ => (JG_name nd (i := 11))) (fun _ _ _ _ _ O => JTs_nil) (fun _ _ _ _ _ O => (J_flat (J_call O (h_tells.up (by decide)) (JA_cons (J_varB (pv 4)) (JA_cons (J_varB (pv 11)) JA_nil)))))) JA_nil)))) (JSs_cons (JS_append (pv 6) (J_tup (JA_cons (J_var (pv 9)) (JA_cons (J_var (pv 10)) (JA_cons (J_flat (J_ix (J_ix (J_varB (pv 4)) (J_varB (pv 9))) (J_varB (pv 10)))) (JA_cons (J_var (pv 8)) JA_nil)))))) (JSs_one (JS_put2 (pv 4) (J_varB (pv 9)) (J_varB (pv 10)) (J_var (pv 8)))))))))))))))
abbrev s_need_page : Stmt := topS 24
abbrev N_need_page : List Str := ["pages", "page"]
theorem S_need_page : FnScope N_need_page ["pages", "page"] (defScope s_need_page) := ⟨rfl, rfl, rfl, by decide +kernel, rfl, by decide +kernel, by decide +kernel⟩
theorem j_need_page (M : Blt mg)  {f : Addr} {fd : FuncData} (F : Fun K "need_page" "need_page" s_need_page f fd) : FnG P w K mg base 1 f fd ["pages", "page"] (spP K 2 false sp_need_page) := by
  have nd : N_need_page.Nodup := S_need_page.nd
  refine fun_okP (Γ := [.fz, .fz]) (Γo := [.fz, .fz]) (Γl := [.fz, .fz]) (Γr := ⟨[.fz, .fz], false⟩) (ω := w_need_page) F S_need_page rfl (by decide) rfl (by decide) m_need_page (fun cd A outer s H0 O => ?_)
  exact (JSs_one (JS_if (JT_W (JW_or (JT_lt (b := false) (J_var (pv 1)) J_int) (JW_or1 (JT_ge (b := false) (J_var (pv 1)) (J_var (pv 0)))))) (JSs_one JS_never) JSs_nil))
abbrev s_within : Stmt := topS 25
abbrev N_within : List Str := ["shape", "node", "begin", "end", "found", "child", "low", "high"]
theorem S_within : FnScope N_within ["shape", "node", "begin", "end"] (defScope s_within) := ⟨rfl, rfl, rfl, by decide +kernel, rfl, by decide +kernel, by decide +kernel⟩
theorem j_within {n : Nat} (M : Blt mg) (h_span : Hd P w K mg base 4 "span" (spP K 2 false sp_span)) (h_children : Hd P w K mg base 4 "children" (spP K 2 false sp_children)) (h_within : Hd P w K mg base (4 + n) "within" (spP K 4 false (sq_within n))) {f : Addr} {fd : FuncData} (F : Fun K "within" "within" s_within f fd) : FnG P w K mg base (4 + n + 1) f fd ["shape", "node", "begin", "end"] (spP K 4 false (sq_within (n + 1))) := by
  have nd : N_within.Nodup := S_within.nd
  refine fun_okP (Γ := [.fz, .fz, .fz, .fz, .o1, .fz, .fz, .fz]) (Γo := [.fz, .fz, .fz, .fz, .o1, .fz, .fz, .fz]) (Γl := [.fz, .fz, .fz, .fz, .o1, .fz, .fz, .fz]) (Γr := ⟨[.fz, .fz, .fz, .fz, .fz, .fz, .fz, .fz], false⟩) (ω := w_within (sq_within n)) F S_within rfl (by decide) rfl (by decide) m_within (fun cd A outer s H0 O => ?_)
  exact (JSs_cons (JS_asg (JG_tup O.calm (JGs_cons (JG_name nd (i := 6)) (JGs_cons (JG_name nd (i := 7)) JGs_nil))) (J_call O (h_span.up (by omega)) (JA_cons (J_var (pv 0)) (JA_cons (J_var (pv 1)) JA_nil)))) (JSs_cons (JS_if (JT_W (JW_or (JT_le (b := false) (J_var (pv 7)) (J_var (pv 2))) (JW_or1 (JT_le (b := false) (J_var (pv 3)) (J_var (pv 6)))))) (JSs_one (JS_ret (J_lst JA_nil))) JSs_nil) (JSs_cons (JS_if (JT_W (JW_and (JT_le (b := false) (J_var (pv 2)) (J_var (pv 6))) (JW_and1 (JT_le (b := false) (J_var (pv 7)) (J_var (pv 3)))))) (JSs_one (JS_ret (J_lst (JA_cons (J_var (pv 1)) JA_nil)))) JSs_nil) (JSs_cons (JS_setL nd (i := 4) (J1_lst JA_nil)) (JSs_cons (JS_for PassesOwn.never O.calm (JI_list (J_call O (h_children.up (by omega)) (JA_cons (J_var (pv 0)) (JA_cons (J_var (pv 1)) JA_nil)))) (JG_name nd (i := 5)) (JSs_one (JS_extend (pv 4) (J_call O (h_within.up (by omega)) (JA_cons (J_var (pv 0)) (JA_cons (J_var (pv 5)) (JA_cons (J_var (pv 2)) (JA_cons (J_var (pv 3)) JA_nil)))))))) (JSs_one (JS_ret (J_var (pv 4)))))))))
abbrev s_cover : Stmt := topS 26
abbrev N_cover : List Str := ["shape", "begin", "end"]
theorem S_cover : FnScope N_cover ["shape", "begin", "end"] (defScope s_cover) := ⟨rfl, rfl, rfl, by decide +kernel, rfl, by decide +kernel, by decide +kernel⟩
theorem j_cover (M : Blt mg) (h_top : Hd P w K mg base 2 "top" (spP K 1 false sp_top)) (h_within : Hd P w K mg base 25 "within" (spP K 4 false sp_within)) {f : Addr} {fd : FuncData} (F : Fun K "cover" "cover" s_cover f fd) : FnG P w K mg base 26 f fd ["shape", "begin", "end"] (spP K 3 false sp_cover) := by
  have nd : N_cover.Nodup := S_cover.nd
  refine fun_okP (Γ := [.fz, .fz, .fz]) (Γo := [.fz, .fz, .fz]) (Γl := [.fz, .fz, .fz]) (Γr := ⟨[.fz, .fz, .fz], false⟩) (ω := w_cover) F S_cover rfl (by decide) rfl (by decide) m_cover (fun cd A outer s H0 O => ?_)
  exact (JSs_cons (JS_if (JT_W (JW_or (JT_lt (b := false) (J_var (pv 1)) J_int) (JW_or (JT_gt (b := false) (J_var (pv 2)) (J_ix (J_var (pv 0)) J_int)) (JW_or1 (JT_gt (b := false) (J_var (pv 1)) (J_var (pv 2))))))) (JSs_one JS_never) JSs_nil) (JSs_cons (JS_if (JT_eq (b := false) O (J_var (pv 1)) (J_var (pv 2))) (JSs_one (JS_ret (J_lst JA_nil))) JSs_nil) (JSs_one (JS_ret (J_call O (h_within.up (by decide)) (JA_cons (J_var (pv 0)) (JA_cons (J_call O (h_top.up (by decide)) (JA_cons (J_var (pv 0)) JA_nil)) (JA_cons (J_var (pv 1)) (JA_cons (J_var (pv 2)) JA_nil)))))))))
abbrev s_looked_at : Stmt := topS 28
abbrev N_looked_at : List Str := ["tree", "nodes", "need", "found", "node"]
theorem S_looked_at : FnScope N_looked_at ["tree", "nodes", "need"] (defScope s_looked_at) := ⟨rfl, rfl, rfl, by decide +kernel, rfl, by decide +kernel, by decide +kernel⟩
theorem j_looked_at (M : Blt mg) (h_tells : Hd P w K mg base 2 "tells" (spP K 2 false sp_tells)) {f : Addr} {fd : FuncData} (F : Fun K "looked_at" "looked_at" s_looked_at f fd) : FnG P w K mg base 3 f fd ["tree", "nodes", "need"] (spP K 3 true sp_looked_at) := by
  have nd : N_looked_at.Nodup := S_looked_at.nd
  refine fun_okP (Γ := [.fz, .fz, .fz, .o1, .fz]) (Γo := [.fz, .fz, .fz, .o1, .fz]) (Γl := [.fz, .fz, .fz, .o1, .fz]) (Γr := ⟨[.fz, .fz, .fz, .fz, .fz], true⟩) (ω := w_looked_at) F S_looked_at rfl (by decide) rfl (by decide) m_looked_at (fun cd A outer s H0 O => ?_)
  exact (JSs_cons (JS_setL nd (i := 3) (J1_lst JA_nil)) (JSs_cons (JS_for PassesOwn.never O.calm (JI_list (J_var (pv 1))) (JG_name nd (i := 4)) (JSs_cons (JS_append (pv 3) (J_var (pv 4))) (JSs_one (JS_if (JT_ge (b := false) (J_call O (h_tells.up (by decide)) (JA_cons (J_var (pv 0)) (JA_cons (J_var (pv 4)) JA_nil))) (J_var (pv 2))) (JSs_one JS_break) JSs_nil)))) (JSs_one (JS_retV (pv 3)))))
abbrev s_walked : Stmt := topS 29
abbrev N_walked : List Str := ["tree", "fan", "need", "begin", "shape", "found"]
theorem S_walked : FnScope N_walked ["tree", "fan", "need", "begin"] (defScope s_walked) := ⟨rfl, rfl, rfl, by decide +kernel, rfl, by decide +kernel, by decide +kernel⟩
theorem j_walked (M : Blt mg) (h_children : Hd P w K mg base 4 "children" (spP K 2 false sp_children)) (h_pages_of : Hd P w K mg base 1 "pages_of" (spP K 1 false sp_pages_of)) (h_tells : Hd P w K mg base 2 "tells" (spP K 2 false sp_tells)) (h_shape_of : Hd P w K mg base 2 "shape_of" (spP K 2 false sp_shape_of)) (h_cover : Hd P w K mg base 26 "cover" (spP K 3 false sp_cover)) (h_looked_at : Hd P w K mg base 3 "looked_at" (spP K 3 true sp_looked_at)) {f : Addr} {fd : FuncData} (F : Fun K "walked" "walked" s_walked f fd) : FnG P w K mg base 27 f fd ["tree", "fan", "need", "begin"] (spP K 4 false sp_walked) := by
  have nd : N_walked.Nodup := S_walked.nd
  refine fun_okP (Γ := [.fz, .fz, .fz, .fz, .fz, .o1]) (Γo := [.fz, .fz, .fz, .fz, .fz, .o1]) (Γl := [.fz, .fz, .fz, .fz, .fz, .o1]) (Γr := ⟨[.fz, .fz, .fz, .fz, .fz, .fz], false⟩) (ω := w_walked) F S_walked rfl (by decide) rfl (by decide) m_walked (fun cd A outer s H0 O => ?_)
  exact (JSs_cons (JS_set nd (i := 4) (J_call O (h_shape_of.up (by decide)) (JA_cons (J_var (pv 0)) (JA_cons (J_var (pv 1)) JA_nil)))) (JSs_cons (JS_setL nd (i := 5) (J1_call O (h_looked_at.up (by decide)) (JA_cons (J_var (pv 0)) (JA_cons (J_call O (h_cover.up (by decide)) (JA_cons (J_var (pv 4)) (JA_cons (J_var (pv 3)) (JA_cons (J_call O (h_pages_of.up (by decide)) (JA_cons (J_var (pv 0)) JA_nil)) JA_nil)))) (JA_cons (J_var (pv 2)) JA_nil))))) (JSs_cons (JS_while PassesOwn.never (JT_W (JW_and (JT_ne (b := true) O (J_varB (pv 5)) (J_lst JA_nil)) (JW_and (JT_ge (b := false) (J_call O (h_tells.up (by decide)) (JA_cons (J_var (pv 0)) (JA_cons (J_ixO (pv 5) (J_neg J_int)) JA_nil))) (J_var (pv 2))) (JW_and1 (JT_gt (b := false) (J_ix (J_ixO (pv 5) (J_neg J_int)) J_int) J_int))))) (JSs_one (JS_extend (pv 5) (J_call O (h_looked_at.up (by decide)) (JA_cons (J_var (pv 0)) (JA_cons (J_call O (h_children.up (by decide)) (JA_cons (J_var (pv 4)) (JA_cons (J_ixO (pv 5) (J_neg J_int)) JA_nil))) (JA_cons (J_var (pv 2)) JA_nil))))))) (JSs_one (JS_ret (J_var (pv 5)))))))
abbrev s_further : Stmt := topS 31
abbrev N_further : List Str := ["tree", "fan", "need", "at", "way"]
theorem S_further : FnScope N_further ["tree", "fan", "need", "at"] (defScope s_further) := ⟨rfl, rfl, rfl, by decide +kernel, rfl, by decide +kernel, by decide +kernel⟩
theorem j_further (M : Blt mg) (h_pages_of : Hd P w K mg base 1 "pages_of" (spP K 1 false sp_pages_of)) (h_tells : Hd P w K mg base 2 "tells" (spP K 2 false sp_tells)) (h_need_page : Hd P w K mg base 1 "need_page" (spP K 2 false sp_need_page)) (h_walked : Hd P w K mg base 27 "walked" (spP K 4 false sp_walked)) {f : Addr} {fd : FuncData} (F : Fun K "further" "further" s_further f fd) : FnG P w K mg base 28 f fd ["tree", "fan", "need", "at"] (spP K 4 false sp_further) := by
  have nd : N_further.Nodup := S_further.nd
  refine fun_okP (Γ := [.fz, .fz, .fz, .fz, .fz]) (Γo := [.fz, .fz, .fz, .fz, .fz]) (Γl := [.fz, .fz, .fz, .fz, .fz]) (Γr := ⟨[.fz, .fz, .fz, .fz, .fz], false⟩) (ω := w_further) F S_further rfl (by decide) rfl (by decide) m_further (fun cd A outer s H0 O => ?_)
  exact (JSs_cons (JS_expr (J_call O (h_need_page.up (by decide)) (JA_cons (J_call O (h_pages_of.up (by decide)) (JA_cons (J_var (pv 0)) JA_nil)) (JA_cons (J_var (pv 3)) JA_nil)))) (JSs_cons (JS_set nd (i := 4) (J_call O (h_walked.up (by decide)) (JA_cons (J_var (pv 0)) (JA_cons (J_var (pv 1)) (JA_cons (J_var (pv 2)) (JA_cons (J_var (pv 3)) JA_nil)))))) (JSs_cons (JS_if (JT_lt (b := false) (J_call O (h_tells.up (by decide)) (JA_cons (J_var (pv 0)) (JA_cons (J_ix (J_var (pv 4)) (J_neg J_int)) JA_nil))) (J_var (pv 2))) (JSs_one (JS_ret J_non)) JSs_nil) (JSs_one (JS_ret (J_ix (J_ix (J_var (pv 4)) (J_neg J_int)) J_int))))))
abbrev s_first : Stmt := topS 32
abbrev N_first : List Str := ["tree", "fan", "need"]
theorem S_first : FnScope N_first ["tree", "fan", "need"] (defScope s_first) := ⟨rfl, rfl, rfl, by decide +kernel, rfl, by decide +kernel, by decide +kernel⟩
theorem j_first (M : Blt mg) (h_further : Hd P w K mg base 28 "further" (spP K 4 false sp_further)) {f : Addr} {fd : FuncData} (F : Fun K "first" "first" s_first f fd) : FnG P w K mg base 29 f fd ["tree", "fan", "need"] (spP K 3 false sp_first) := by
  have nd : N_first.Nodup := S_first.nd
  refine fun_okP (Γ := [.fz, .fz, .fz]) (Γo := [.fz, .fz, .fz]) (Γl := [.fz, .fz, .fz]) (Γr := ⟨[.fz, .fz, .fz], false⟩) (ω := w_first) F S_first rfl (by decide) rfl (by decide) m_first (fun cd A outer s H0 O => ?_)
  exact (JSs_cons (JS_if (JT_eq (b := false) O (J_var (pv 0)) (J_lst JA_nil)) (JSs_one (JS_ret J_non)) JSs_nil) (JSs_one (JS_ret (J_call O (h_further.up (by decide)) (JA_cons (J_var (pv 0)) (JA_cons (J_var (pv 1)) (JA_cons (J_var (pv 2)) (JA_cons J_int JA_nil))))))))
abbrev s_done : Stmt := topS 34
abbrev N_done : List Str := ["tree", "writes", "made", "level", "place", "number"]
theorem S_done : FnScope N_done ["tree", "writes"] (defScope s_done) := ⟨rfl, rfl, rfl, by decide +kernel, rfl, by decide +kernel, by decide +kernel⟩
theorem j_done (M : Blt mg) (h_tells : Hd P w K mg base 2 "tells" (spP K 2 false sp_tells)) {f : Addr} {fd : FuncData} (F : Fun K "done" "done" s_done f fd) : FnG P w K mg base 3 f fd ["tree", "writes"] (spP K 2 false sp_done) := by
  have nd : N_done.Nodup := S_done.nd
  refine fun_okP (Γ := [.fz, .fz, .o2, .fz, .fz, .fz]) (Γo := [.fz, .fz, .o2, .fz, .fz, .fz]) (Γl := [.fz, .fz, .o2, .fz, .fz, .fz]) (Γr := ⟨[.fz, .fz, .fz, .fz, .fz, .fz], false⟩) (ω := w_done) F S_done rfl (by decide) rfl (by decide) m_done (fun cd A outer s H0 O => ?_)
  exact (JSs_cons (JS_set2 (i := 2) (j := 3) (y := "level") O nd M.list (JI_list (J_var (pv 0))) (blkOk_by (N := N_done) (sc := defScope s_done) (by decide +kernel))) (JSs_cons (JS_for PassesOwn.never O.calm (JI_list (J_var (pv 1))) (JG_tup O.calm (JGs_cons (JG_name nd (i := 3)) (JGs_cons (JG_name nd (i := 4)) (JGs_cons (JG_name nd (i := 5)) JGs_nil)))) (JSs_cons (JS_expr (J_call O (h_tells.up (by decide)) (JA_cons (J_var (pv 0)) (JA_cons (J_tup (JA_cons (J_var (pv 3)) (JA_cons (J_var (pv 4)) JA_nil))) JA_nil)))) (JSs_one (JS_put2 (pv 2) (J_varB (pv 3)) (J_varB (pv 4)) (J_var (pv 5)))))) (JSs_one (JS_ret (J_var (pv 2))))))
abbrev s_is_safe : Stmt := topS 35
abbrev N_is_safe : List Str := ["tree", "fan", "at", "told", "due"]
theorem S_is_safe : FnScope N_is_safe ["tree", "fan"] (defScope s_is_safe) := ⟨rfl, rfl, rfl, by decide +kernel, rfl, by decide +kernel, by decide +kernel⟩
theorem j_is_safe (M : Blt mg) (h_told_above : Hd P w K mg base 1 "told_above" (spP K 2 false sp_told_above)) {f : Addr} {fd : FuncData} (F : Fun K "is_safe" "is_safe" s_is_safe f fd) : FnG P w K mg base 2 f fd ["tree", "fan"] (spP K 2 false sp_is_safe) := by
  have nd : N_is_safe.Nodup := S_is_safe.nd
  refine fun_okP (Γ := [.fz, .fz, .fz, .fz, .fz]) (Γo := [.fz, .fz, .fz, .fz, .fz]) (Γl := [.fz, .fz, .fz, .fz, .fz]) (Γr := ⟨[.fz, .fz, .fz, .fz, .fz], false⟩) (ω := w_is_safe) F S_is_safe rfl (by decide) rfl (by decide) m_is_safe (fun cd A outer s H0 O => ?_)
  exact (JSs_cons (JS_for PassesOwn.never O.calm (JI_range2 M.range (JA_cons J_int (JA_cons (J_len M.len (JA_cons (J_var (pv 0)) JA_nil)) JA_nil))) (JG_name nd (i := 2)) (JSs_one (JS_for PassesOwn.never O.calm (JI_zip M.zip (JA_cons (J_ix (J_var (pv 0)) (J_var (pv 2))) (JA_cons (J_call O (h_told_above.up (by decide)) (JA_cons (J_ix (J_var (pv 0)) (J_sub (J_var (pv 2)) J_int)) (JA_cons (J_var (pv 1)) JA_nil))) JA_nil))) (JG_tup O.calm (JGs_cons (JG_name nd (i := 3)) (JGs_cons (JG_name nd (i := 4)) JGs_nil))) (JSs_one (JS_if (JT_lt (b := false) (J_var (pv 3)) (J_var (pv 4))) (JSs_one (JS_ret J_bl)) JSs_nil))))) (JSs_one (JS_ret J_bl)))
abbrev s_mended : Stmt := topS 36
abbrev N_mended : List Str := ["tree", "fan", "made", "mends", "at", "place"]
theorem S_mended : FnScope N_mended ["tree", "fan"] (defScope s_mended) := ⟨rfl, rfl, rfl, by decide +kernel, rfl, by decide +kernel, by decide +kernel⟩
theorem j_mended (M : Blt mg) (h_built : Hd P w K mg base 2 "built" (spP K 2 false sp_built)) {f : Addr} {fd : FuncData} (F : Fun K "mended" "mended" s_mended f fd) : FnG P w K mg base 3 f fd ["tree", "fan"] (spP K 2 false sp_mended) := by
  have nd : N_mended.Nodup := S_mended.nd
  refine fun_okP (Γ := [.fz, .fz, .fz, .o1, .fz, .fz]) (Γo := [.fz, .fz, .fz, .o1, .fz, .fz]) (Γl := [.fz, .fz, .fz, .o1, .fz, .fz]) (Γr := ⟨[.fz, .fz, .fz, .fz, .fz, .fz], false⟩) (ω := w_mended) F S_mended rfl (by decide) rfl (by decide) m_mended (fun cd A outer s H0 O => ?_)
  exact (JSs_cons (JS_if (JT_eq (b := false) O (J_var (pv 0)) (J_lst JA_nil)) (JSs_one (JS_ret (J_tup (JA_cons (J_lst JA_nil) (JA_cons (J_lst JA_nil) JA_nil))))) JSs_nil) (JSs_cons (JS_set nd (i := 2) (J_call O (h_built.up (by decide)) (JA_cons (J_ix (J_var (pv 0)) J_int) (JA_cons (J_var (pv 1)) JA_nil)))) (JSs_cons (JS_setL nd (i := 3) (J1_lst JA_nil)) (JSs_cons (JS_for PassesOwn.never O.calm (JI_range2 M.range (JA_cons J_int (JA_cons (J_len M.len (JA_cons (J_var (pv 0)) JA_nil)) JA_nil))) (JG_name nd (i := 4)) (JSs_one (JS_for PassesOwn.never O.calm (JI_range1 M.range (JA_cons (J_len M.len (JA_cons (J_ix (J_var (pv 0)) (J_var (pv 4))) JA_nil)) JA_nil)) (JG_name nd (i := 5)) (JSs_one (JS_if (JT_ne (b := false) O (J_ix (J_ix (J_var (pv 0)) (J_var (pv 4))) (J_var (pv 5))) (J_ix (J_ix (J_var (pv 2)) (J_var (pv 4))) (J_var (pv 5)))) (JSs_one (JS_append (pv 3) (J_tup (JA_cons (J_var (pv 4)) (JA_cons (J_var (pv 5)) (JA_cons (J_ix (J_ix (J_var (pv 0)) (J_var (pv 4))) (J_var (pv 5))) (JA_cons (J_ix (J_ix (J_var (pv 2)) (J_var (pv 4))) (J_var (pv 5))) JA_nil))))))) JSs_nil))))) (JSs_one (JS_ret (J_tup (JA_cons (J_var (pv 2)) (JA_cons (J_var (pv 3)) JA_nil)))))))))
abbrev s_law_bag : Stmt := topS 38
abbrev N_law_bag : List Str := ["script", "cell"]
theorem S_law_bag : FnScope N_law_bag ["script"] (defScope s_law_bag) := ⟨rfl, rfl, rfl, by decide +kernel, rfl, by decide +kernel, by decide +kernel⟩
theorem j_law_bag (M : Blt mg)  {f : Addr} {fd : FuncData} (F : Fun K "_law_bag" "_law_bag" s_law_bag f fd) : FnG P w K mg base 1 f fd ["script"] (spS K 0 true sp_law_bag) := by
  have nd : N_law_bag.Nodup := S_law_bag.nd
  refine fun_okS (Γ := [.sc, .fz]) (Γo := [.sc, .fz]) (Γl := [.sc, .fz]) (Γr := ⟨[.sc, .fz], true⟩) (ω := w_law_bag) F S_law_bag rfl (by decide) rfl rfl (by decide) m_law_bag (fun cd A outer s H0 O => ?_)
  exact (JSs_one (JS_retL (J1_lst (JA_cons J_int (JA_cons J_int (JA_cons J_int (JA_cons (J_lc (own := [("cell", 1)]) O nd (JI_list (J_sliceSc (pv 0) JP_none (JP_some J_int))) (blkOk_by (N := N_law_bag) (sc := defScope s_law_bag) (by decide +kernel)) (fun _ _ _ _ _ => (JG_name nd (i := 1))) (fun _ _ _ _ _ O => JTs_nil) (fun _ _ _ _ _ O => (J_abs M.abs (JA_cons (J_var (pv 1)) JA_nil)))) JA_nil)))))))
abbrev s_law_take : Stmt := topS 39
abbrev N_law_take : List Str := ["bag", "many", "begin", "second", "cell", "stirred", "value"]
theorem S_law_take : FnScope N_law_take ["bag", "many"] (defScope s_law_take) := ⟨rfl, rfl, rfl, by decide +kernel, rfl, by decide +kernel, by decide +kernel⟩
theorem j_law_take (M : Blt mg)  {f : Addr} {fd : FuncData} (F : Fun K "_law_take" "_law_take" s_law_take f fd) : FnG P w K mg base 1 f fd ["bag", "many"] (spI K .io 1 false sp_law_take) := by
  have nd : N_law_take.Nodup := S_law_take.nd
  refine fun_okI (Γ := [.io, .fz, .fz, .fz, .fz, .fz, .fz]) (Γo := [.io, .fz, .fz, .fz, .fz, .fz, .fz]) (Γl := [.io, .fz, .fz, .fz, .fz, .fz, .fz]) (Γr := ⟨[.io, .fz, .fz, .fz, .fz, .fz, .fz], false⟩) (ω := w_law_take) F S_law_take rfl (by decide) rfl rfl (by decide) rfl rfl m_law_take (fun cd A outer s H0 O => ?_)
  exact (JSs_cons (JS_if (JT_eq (b := false) O (J_ixO (pv 0) J_int) J_int) (JSs_cons (JS_set nd (i := 4) (J_ix (J_add (J_slice (J_ixO (pv 0) J_int) (JP_some (J_ixO (pv 0) J_int)) JP_none) (J_lst (JA_cons J_int JA_nil))) J_int)) (JSs_cons (JS_augPut aug_add (pv 0) J_int J_int) (JSs_cons (JS_if (JT_ge (b := false) (J_var (pv 4)) (J_pow J_int J_int)) (JSs_one (JS_put (pv 0) J_int (J_var (pv 4)))) JSs_nil) (JSs_cons (JS_set nd (i := 5) (J_add (J_add (J_mul (J_ixO (pv 0) J_int) J_int) (J_mod (J_intc M.int (JA_cons (J_var (pv 4)) JA_nil)) J_int)) (J_mul J_int (J_ixO (pv 0) J_int)))) (JSs_one (JS_put (pv 0) J_int (J_mod (J_intc M.int (JA_cons (J_var (pv 5)) JA_nil)) J_int))))))) JSs_nil) (JSs_cons (JS_if (JT_gt (b := false) (J_ixO (pv 0) J_int) J_int) (JSs_cons (JS_set nd (i := 6) (J_mod (J_intc M.int (JA_cons (J_ixO (pv 0) J_int) JA_nil)) (J_var (pv 1)))) (JSs_cons (JS_put (pv 0) J_int (J_div (J_intc M.int (JA_cons (J_ixO (pv 0) J_int) JA_nil)) (J_var (pv 1)))) (JSs_one (JS_ret (J_var (pv 6)))))) JSs_nil) (JSs_cons (JS_set nd (i := 2) (J_mod (J_intc M.int (JA_cons (J_mul (J_add (J_ixO (pv 0) J_int) J_int) J_int) JA_nil)) J_int)) (JSs_cons (JS_set nd (i := 3) (J_mod (J_intc M.int (JA_cons (J_mul (J_mod (J_intc M.int (JA_cons (J_mul (J_var (pv 2)) (J_var (pv 2))) JA_nil)) J_int) J_int) JA_nil)) J_int)) (JSs_one (JS_ret (J_mod (J_intc M.int (JA_cons (J_div (J_var (pv 3)) J_int) JA_nil)) (J_var (pv 1)))))))))
abbrev s_law_some : Stmt := topS 40
abbrev N_law_some : List Str := ["bag", "things"]
theorem S_law_some : FnScope N_law_some ["bag", "things"] (defScope s_law_some) := ⟨rfl, rfl, rfl, by decide +kernel, rfl, by decide +kernel, by decide +kernel⟩
theorem j_law_some (M : Blt mg) (h_law_take : Hd P w K mg base 1 "_law_take" (spI K .io 1 false sp_law_take)) {f : Addr} {fd : FuncData} (F : Fun K "_law_some" "_law_some" s_law_some f fd) : FnG P w K mg base 2 f fd ["bag", "things"] (spI K .io 1 false sp_law_some) := by
  have nd : N_law_some.Nodup := S_law_some.nd
  refine fun_okI (Γ := [.io, .fz]) (Γo := [.io, .fz]) (Γl := [.io, .fz]) (Γr := ⟨[.io, .fz], false⟩) (ω := w_law_some) F S_law_some rfl (by decide) rfl rfl (by decide) rfl rfl m_law_some (fun cd A outer s H0 O => ?_)
  exact (JSs_one (JS_ret (J_ix (J_var (pv 1)) (J_callI (kc := .io) (kd := .io) O (h_law_take.up (by decide)) (pv 0) (JA_cons (J_len M.len (JA_cons (J_var (pv 1)) JA_nil)) JA_nil)))))
abbrev s_law_alike : Stmt := topS 41
abbrev N_law_alike : List Str := ["found", "due"]
theorem S_law_alike : FnScope N_law_alike ["found", "due"] (defScope s_law_alike) := ⟨rfl, rfl, rfl, by decide +kernel, rfl, by decide +kernel, by decide +kernel⟩
theorem j_law_alike (M : Blt mg)  {f : Addr} {fd : FuncData} (F : Fun K "_law_alike" "_law_alike" s_law_alike f fd) : FnG P w K mg base 1 f fd ["found", "due"] (spP K 2 false sp_law_alike) := by
  have nd : N_law_alike.Nodup := S_law_alike.nd
  refine fun_okP (Γ := [.fz, .fz]) (Γo := [.fz, .fz]) (Γl := [.fz, .fz]) (Γr := ⟨[.fz, .fz], false⟩) (ω := w_law_alike) F S_law_alike rfl (by decide) rfl (by decide) m_law_alike (fun cd A outer s H0 O => ?_)
  exact (JSs_one (JS_ret (J_and (J_eq O (J_var (pv 0)) (J_var (pv 1))) (J_one (J_eqS (J_repr O M.repr (JA_cons (J_var (pv 0)) JA_nil)) (J_repr O M.repr (JA_cons (J_var (pv 1)) JA_nil)))))))
abbrev s_law_power : Stmt := topS 42
abbrev N_law_power : List Str := ["base", "many", "found", "turn"]
theorem S_law_power : FnScope N_law_power ["base", "many"] (defScope s_law_power) := ⟨rfl, rfl, rfl, by decide +kernel, rfl, by decide +kernel, by decide +kernel⟩
theorem j_law_power (M : Blt mg)  {f : Addr} {fd : FuncData} (F : Fun K "_law_power" "_law_power" s_law_power f fd) : FnG P w K mg base 1 f fd ["base", "many"] (spP K 2 false sp_law_power) := by
  have nd : N_law_power.Nodup := S_law_power.nd
  refine fun_okP (Γ := [.fz, .fz, .fz, .fz]) (Γo := [.fz, .fz, .fz, .fz]) (Γl := [.fz, .fz, .fz, .fz]) (Γr := ⟨[.fz, .fz, .fz, .fz], false⟩) (ω := w_law_power) F S_law_power rfl (by decide) rfl (by decide) m_law_power (fun cd A outer s H0 O => ?_)
  exact (JSs_cons (JS_set nd (i := 2) J_int) (JSs_cons (JS_for PassesOwn.never O.calm (JI_range1 M.range (JA_cons (J_var (pv 1)) JA_nil)) (JG_name nd (i := 3)) (JSs_one (JS_set nd (i := 2) (J_mul (J_var (pv 2)) (J_var (pv 0)))))) (JSs_one (JS_ret (J_var (pv 2))))))
abbrev s_law_great : Stmt := topS 43
abbrev N_law_great : List Str := ["bag", "many", "found", "turn"]
theorem S_law_great : FnScope N_law_great ["bag", "many"] (defScope s_law_great) := ⟨rfl, rfl, rfl, by decide +kernel, rfl, by decide +kernel, by decide +kernel⟩
theorem j_law_great (M : Blt mg) (h_law_take : Hd P w K mg base 1 "_law_take" (spI K .io 1 false sp_law_take)) (h_law_some : Hd P w K mg base 2 "_law_some" (spI K .io 1 false sp_law_some)) {f : Addr} {fd : FuncData} (F : Fun K "_law_great" "_law_great" s_law_great f fd) : FnG P w K mg base 3 f fd ["bag", "many"] (spI K .io 1 false sp_law_great) := by
  have nd : N_law_great.Nodup := S_law_great.nd
  refine fun_okI (Γ := [.io, .fz, .fz, .fz]) (Γo := [.io, .fz, .fz, .fz]) (Γl := [.io, .fz, .fz, .fz]) (Γr := ⟨[.io, .fz, .fz, .fz], false⟩) (ω := w_law_great) F S_law_great rfl (by decide) rfl rfl (by decide) rfl rfl m_law_great (fun cd A outer s H0 O => ?_)
  exact (JSs_cons (JS_set nd (i := 2) J_int) (JSs_cons (JS_for PassesOwn.never O.calm (JI_range1 M.range (JA_cons J_int JA_nil)) (JG_name nd (i := 3)) (JSs_one (JS_set nd (i := 2) (J_add (J_mul (J_var (pv 2)) J_int) (J_callI (kc := .io) (kd := .io) O (h_law_take.up (by decide)) (pv 0) (JA_cons J_int JA_nil)))))) (JSs_one (JS_ret (J_callI (kc := .io) (kd := .io) O (h_law_some.up (by decide)) (pv 0) (JA_cons (J_lst (JA_cons (J_mod (J_var (pv 2)) (J_var (pv 1))) (JA_cons J_int (JA_cons (J_sub (J_var (pv 1)) J_int) (JA_cons (J_mod (J_intc M.int (JA_cons (J_var (pv 2)) JA_nil)) (J_add J_int (J_intc M.int (JA_cons (J_div (J_var (pv 1)) J_int) JA_nil)))) JA_nil))))) JA_nil))))))
abbrev s_law_sizes : Stmt := topS 44
abbrev N_law_sizes : List Str := ["pages", "fan", "found", "turn"]
theorem S_law_sizes : FnScope N_law_sizes ["pages", "fan"] (defScope s_law_sizes) := ⟨rfl, rfl, rfl, by decide +kernel, rfl, by decide +kernel, by decide +kernel⟩
theorem j_law_sizes (M : Blt mg)  {f : Addr} {fd : FuncData} (F : Fun K "_law_sizes" "_law_sizes" s_law_sizes f fd) : FnG P w K mg base 1 f fd ["pages", "fan"] (spP K 2 false sp_law_sizes) := by
  have nd : N_law_sizes.Nodup := S_law_sizes.nd
  refine fun_okP (Γ := [.fz, .fz, .o1, .fz]) (Γo := [.fz, .fz, .o1, .fz]) (Γl := [.fz, .fz, .o1, .fz]) (Γr := ⟨[.fz, .fz, .fz, .fz], false⟩) (ω := w_law_sizes) F S_law_sizes rfl (by decide) rfl (by decide) m_law_sizes (fun cd A outer s H0 O => ?_)
  exact (JSs_cons (JS_setL nd (i := 2) (J1_if (JT_gt (b := false) (J_var (pv 0)) J_int) (J1_lst (JA_cons (J_var (pv 0)) JA_nil)) (J1_lst JA_nil))) (JSs_cons (JS_for PassesOwn.never O.calm (JI_range1 M.range (JA_cons J_int JA_nil)) (JG_name nd (i := 3)) (JSs_one (JS_if (JT_W (JW_and (JT_ne (b := true) O (J_varB (pv 2)) (J_lst JA_nil)) (JW_and1 (JT_gt (b := false) (J_ixO (pv 2) (J_neg J_int)) J_int)))) (JSs_one (JS_append (pv 2) (J_div (J_intc M.int (JA_cons (J_sub (J_add (J_ixO (pv 2) (J_neg J_int)) (J_var (pv 1))) J_int) JA_nil)) (J_var (pv 1))))) JSs_nil))) (JSs_one (JS_ret (J_var (pv 2))))))
abbrev s_law_span : Stmt := topS 45
abbrev N_law_span : List Str := ["pages", "fan", "level", "place", "wide"]
theorem S_law_span : FnScope N_law_span ["pages", "fan", "level", "place"] (defScope s_law_span) := ⟨rfl, rfl, rfl, by decide +kernel, rfl, by decide +kernel, by decide +kernel⟩
theorem j_law_span (M : Blt mg) (h_law_power : Hd P w K mg base 1 "_law_power" (spP K 2 false sp_law_power)) {f : Addr} {fd : FuncData} (F : Fun K "_law_span" "_law_span" s_law_span f fd) : FnG P w K mg base 2 f fd ["pages", "fan", "level", "place"] (spP K 4 false sp_law_span) := by
  have nd : N_law_span.Nodup := S_law_span.nd
  refine fun_okP (Γ := [.fz, .fz, .fz, .fz, .fz]) (Γo := [.fz, .fz, .fz, .fz, .fz]) (Γl := [.fz, .fz, .fz, .fz, .fz]) (Γr := ⟨[.fz, .fz, .fz, .fz, .fz], false⟩) (ω := w_law_span) F S_law_span rfl (by decide) rfl (by decide) m_law_span (fun cd A outer s H0 O => ?_)
  exact (JSs_cons (JS_set nd (i := 4) (J_call O (h_law_power.up (by decide)) (JA_cons (J_var (pv 1)) (JA_cons (J_var (pv 2)) JA_nil)))) (JSs_one (JS_ret (J_tup (JA_cons (J_mul (J_var (pv 3)) (J_var (pv 4))) (JA_cons (J_min O M.min (JA_cons (J_var (pv 0)) (JA_cons (J_mul (J_add (J_var (pv 3)) J_int) (J_var (pv 4))) JA_nil))) JA_nil))))))
abbrev s_law_mends : Stmt := topS 46
abbrev N_law_mends : List Str := ["pages", "fan", "room", "page", "ahead", "found", "sizes", "level", "place", "whole", "below"]
theorem S_law_mends : FnScope N_law_mends ["pages", "fan", "room", "page"] (defScope s_law_mends) := ⟨rfl, rfl, rfl, by decide +kernel, rfl, by decide +kernel, by decide +kernel⟩
theorem j_law_mends (M : Blt mg) (h_law_power : Hd P w K mg base 1 "_law_power" (spP K 2 false sp_law_power)) (h_law_sizes : Hd P w K mg base 1 "_law_sizes" (spP K 2 false sp_law_sizes)) (h_law_span : Hd P w K mg base 2 "_law_span" (spP K 4 false sp_law_span)) {f : Addr} {fd : FuncData} (F : Fun K "_law_mends" "_law_mends" s_law_mends f fd) : FnG P w K mg base 3 f fd ["pages", "fan", "room", "page"] (spP K 4 false sp_law_mends) := by
  have nd : N_law_mends.Nodup := S_law_mends.nd
  refine fun_okP (Γ := [.fz, .fz, .fz, .fz, .fz, .o1, .fz, .fz, .fz, .fz, .fz]) (Γo := [.fz, .fz, .fz, .fz, .fz, .o1, .fz, .fz, .fz, .fz, .fz]) (Γl := [.fz, .fz, .fz, .fz, .fz, .o1, .fz, .fz, .fz, .fz, .fz]) (Γr := ⟨[.fz, .fz, .fz, .fz, .fz, .fz, .fz, .fz, .fz, .fz, .fz], false⟩) (ω := w_law_mends) F S_law_mends rfl (by decide) rfl (by decide) m_law_mends (fun cd A outer s H0 O => ?_)
  exact (JSs_cons (JS_parL (i := 5) (j := 6) O.calm nd (J1_lst JA_nil) (J_call O (h_law_sizes.up (by decide)) (JA_cons (J_var (pv 0)) (JA_cons (J_var (pv 1)) JA_nil)))) (JSs_cons (JS_for PassesOwn.never O.calm (JI_range1 M.range (JA_cons (J_var (pv 3)) JA_nil)) (JG_name nd (i := 4)) (JSs_cons (JS_append (pv 5) (J_tup (JA_cons J_int (JA_cons (J_var (pv 4)) (JA_cons (J_var (pv 2)) (JA_cons J_int JA_nil)))))) (JSs_one (JS_for PassesOwn.never O.calm (JI_range2 M.range (JA_cons J_int (JA_cons (J_len M.len (JA_cons (J_var (pv 6)) JA_nil)) JA_nil))) (JG_name nd (i := 7)) (JSs_cons (JS_set nd (i := 8) (J_div (J_intc M.int (JA_cons (J_var (pv 4)) JA_nil)) (J_call O (h_law_power.up (by decide)) (JA_cons (J_var (pv 1)) (JA_cons (J_var (pv 7)) JA_nil))))) (JSs_cons (JS_setLc (i := 9) (own := [("below", 10)]) O nd (JI_range1 M.range (JA_cons (J_add (J_var (pv 7)) J_int) JA_nil)) (blkOk_by (N := N_law_mends) (sc := defScope s_law_mends) (by decide +kernel)) (fun _ _ _ _ _ => (JG_name nd (i := 10))) (fun _ _ _ _ _ O => JTs_nil) (fun _ _ _ _ _ O => (J_ix (J_call O (h_law_span.up (by decide)) (JA_cons (J_var (pv 0)) (JA_cons (J_var (pv 1)) (JA_cons (J_var (pv 10)) (JA_cons (J_div (J_intc M.int (JA_cons (J_var (pv 4)) JA_nil)) (J_call O (h_law_power.up (by decide)) (JA_cons (J_var (pv 1)) (JA_cons (J_var (pv 10)) JA_nil)))) JA_nil))))) J_int))) (JSs_one (JS_if (JT_eq (b := false) O (J_var (pv 9)) (J_mul (J_lst (JA_cons (J_add (J_var (pv 4)) J_int) JA_nil)) (J_add (J_var (pv 7)) J_int))) (JSs_one (JS_append (pv 5) (J_tup (JA_cons (J_var (pv 7)) (JA_cons (J_var (pv 8)) (JA_cons (J_var (pv 2)) (JA_cons J_int JA_nil))))))) JSs_nil)))))))) (JSs_one (JS_ret (J_var (pv 5))))))
abbrev s_law_behind : Stmt := topS 47
abbrev N_law_behind : List Str := ["tree", "mends", "found", "level", "place", "was", "now"]
theorem S_law_behind : FnScope N_law_behind ["tree", "mends"] (defScope s_law_behind) := ⟨rfl, rfl, rfl, by decide +kernel, rfl, by decide +kernel, by decide +kernel⟩
theorem j_law_behind (M : Blt mg)  {f : Addr} {fd : FuncData} (F : Fun K "_law_behind" "_law_behind" s_law_behind f fd) : FnG P w K mg base 1 f fd ["tree", "mends"] (spP K 2 false sp_law_behind) := by
  have nd : N_law_behind.Nodup := S_law_behind.nd
  refine fun_okP (Γ := [.fz, .fz, .o2, .fz, .fz, .fz, .fz]) (Γo := [.fz, .fz, .o2, .fz, .fz, .fz, .fz]) (Γl := [.fz, .fz, .o2, .fz, .fz, .fz, .fz]) (Γr := ⟨[.fz, .fz, .fz, .fz, .fz, .fz, .fz], false⟩) (ω := w_law_behind) F S_law_behind rfl (by decide) rfl (by decide) m_law_behind (fun cd A outer s H0 O => ?_)
  exact (JSs_cons (JS_set2 (i := 2) (j := 3) (y := "level") O nd M.list (JI_list (J_var (pv 0))) (blkOk_by (N := N_law_behind) (sc := defScope s_law_behind) (by decide +kernel))) (JSs_cons (JS_for PassesOwn.never O.calm (JI_list (J_var (pv 1))) (JG_tup O.calm (JGs_cons (JG_name nd (i := 3)) (JGs_cons (JG_name nd (i := 4)) (JGs_cons (JG_name nd (i := 5)) (JGs_cons (JG_name nd (i := 6)) JGs_nil))))) (JSs_one (JS_put2 (pv 2) (J_varB (pv 3)) (J_varB (pv 4)) (J_var (pv 6))))) (JSs_one (JS_ret (J_var (pv 2))))))
abbrev s_law_again_right : Stmt := topS 48
abbrev N_law_again_right : List Str := ["fan", "rooms", "need", "told", "level_rooms", "page", "tree", "mends", "whole", "rest", "mend"]
theorem S_law_again_right : FnScope N_law_again_right ["fan", "rooms", "need", "told"] (defScope s_law_again_right) := ⟨rfl, rfl, rfl, by decide +kernel, rfl, by decide +kernel, by decide +kernel⟩
theorem j_law_again_right (M : Blt mg) (h_built : Hd P w K mg base 2 "built" (spP K 2 false sp_built)) (h_fault : Hd P w K mg base 2 "fault" (spP K 2 false sp_fault)) (h_seek : Hd P w K mg base 6 "seek" (spP K 4 false sp_seek)) (h_first : Hd P w K mg base 29 "first" (spP K 3 false sp_first)) (h_mended : Hd P w K mg base 3 "mended" (spP K 2 false sp_mended)) (h_law_alike : Hd P w K mg base 1 "_law_alike" (spP K 2 false sp_law_alike)) {f : Addr} {fd : FuncData} (F : Fun K "_law_again_right" "_law_again_right" s_law_again_right f fd) : FnG P w K mg base 30 f fd ["fan", "rooms", "need", "told"] (spP K 4 false sp_law_again_right) := by
  have nd : N_law_again_right.Nodup := S_law_again_right.nd
  refine fun_okP (Γ := [.fz, .fz, .fz, .fz, .fz, .fz, .fz, .fz, .fz, .fz, .fz]) (Γo := [.fz, .fz, .fz, .fz, .fz, .fz, .fz, .fz, .fz, .fz, .fz]) (Γl := [.fz, .fz, .fz, .fz, .fz, .fz, .fz, .fz, .fz, .fz, .fz]) (Γr := ⟨[.fz, .fz, .fz, .fz, .fz, .fz, .fz, .fz, .fz, .fz, .fz], false⟩) (ω := w_law_again_right) F S_law_again_right rfl (by decide) rfl (by decide) m_law_again_right (fun cd A outer s H0 O => ?_)
  exact (JSs_cons (JS_asg (JG_tup O.calm (JGs_cons (JG_name nd (i := 5)) (JGs_cons (JG_name nd (i := 6)) (JGs_cons (JG_name nd (i := 7)) JGs_nil)))) (J_var (pv 3))) (JSs_cons (JS_if (JT_not (JT_val (b := false) (J_call O (h_law_alike.up (by decide)) (JA_cons (J_call O (h_seek.up (by decide)) (JA_cons (J_var (pv 6)) (JA_cons (J_var (pv 0)) (JA_cons (J_var (pv 1)) (JA_cons (J_var (pv 2)) JA_nil))))) (JA_cons (J_tup (JA_cons (J_var (pv 5)) (JA_cons (J_var (pv 6)) (JA_cons (J_lst JA_nil) JA_nil)))) JA_nil))))) (JSs_one (JS_ret J_bl)) JSs_nil) (JSs_cons (JS_set nd (i := 4) (J_ix (J_var (pv 6)) J_int)) (JSs_cons (JS_asg (JG_tup O.calm (JGs_cons (JG_name nd (i := 8)) (JGs_cons (JG_name nd (i := 9)) JGs_nil))) (J_call O (h_mended.up (by decide)) (JA_cons (J_var (pv 6)) (JA_cons (J_var (pv 0)) JA_nil)))) (JSs_cons (JS_if (JT_not (JT_val (b := false) (J_call O (h_law_alike.up (by decide)) (JA_cons (J_lst (JA_cons (J_var (pv 8)) (JA_cons (J_call O (h_fault.up (by decide)) (JA_cons (J_var (pv 8)) (JA_cons (J_var (pv 0)) JA_nil))) JA_nil))) (JA_cons (J_lst (JA_cons (J_call O (h_built.up (by decide)) (JA_cons (J_var (pv 4)) (JA_cons (J_var (pv 0)) JA_nil))) (JA_cons J_non JA_nil))) JA_nil))))) (JSs_one (JS_ret J_bl)) JSs_nil) (JSs_cons (JS_if (JT_ne (b := false) O (J_lc (own := [("mend", 10)]) O nd (JI_list (J_var (pv 9))) (blkOk_by (N := N_law_again_right) (sc := defScope s_law_again_right) (by decide +kernel)) (fun _ _ _ _ _ => (JG_name nd (i := 10))) (fun _ _ _ _ _ O => (JTs_one (JT_W (JW_or (JT_le (b := false) (J_ix (J_var (pv 10)) J_int) (J_ix (J_var (pv 10)) J_int)) (JW_or1 (JT_eq (b := false) O (J_ix (J_var (pv 10)) J_int) J_int)))))) (fun _ _ _ _ _ O => (J_var (pv 10)))) (J_lst JA_nil)) (JSs_one (JS_ret J_bl)) JSs_nil) (JSs_one (JS_ret (J_and (J_eq O (J_call O (h_first.up (by decide)) (JA_cons (J_var (pv 8)) (JA_cons (J_var (pv 0)) (JA_cons (J_var (pv 2)) JA_nil)))) (J_var (pv 5))) (J_one (J_eq O (J_var (pv 4)) (J_var (pv 1)))))))))))))
abbrev s_law : Stmt := topS 49
abbrev N_law : List Str := ["script", "bag", "turn", "pages", "page", "need", "rooms", "tree", "due", "told", "end", "writes", "stop", "some", "fan", "room", "at", "level", "place", "was", "now"]
theorem S_law : FnScope N_law ["script"] (defScope s_law) := ⟨rfl, rfl, rfl, by decide +kernel, rfl, by decide +kernel, by decide +kernel⟩
theorem j_law (M : Blt mg) (h_built : Hd P w K mg base 2 "built" (spP K 2 false sp_built)) (h_greatest : Hd P w K mg base 1 "greatest" (spP K 1 false sp_greatest)) (h_seek : Hd P w K mg base 6 "seek" (spP K 4 false sp_seek)) (h_done : Hd P w K mg base 3 "done" (spP K 2 false sp_done)) (h_is_safe : Hd P w K mg base 2 "is_safe" (spP K 2 false sp_is_safe)) (h_law_bag : Hd P w K mg base 1 "_law_bag" (spS K 0 true sp_law_bag)) (h_law_take : Hd P w K mg base 1 "_law_take" (spI K .io 1 false sp_law_take)) (h_law_some : Hd P w K mg base 2 "_law_some" (spI K .io 1 false sp_law_some)) (h_law_alike : Hd P w K mg base 1 "_law_alike" (spP K 2 false sp_law_alike)) (h_law_great : Hd P w K mg base 3 "_law_great" (spI K .io 1 false sp_law_great)) (h_law_mends : Hd P w K mg base 3 "_law_mends" (spP K 4 false sp_law_mends)) (h_law_behind : Hd P w K mg base 1 "_law_behind" (spP K 2 false sp_law_behind)) (h_law_again_right : Hd P w K mg base 30 "_law_again_right" (spP K 4 false sp_law_again_right)) {f : Addr} {fd : FuncData} (F : Fun K "law" "law" s_law f fd) : FnG P w K mg base 31 f fd ["script"] (spS K 0 false sp_law) := by
  have nd : N_law.Nodup := S_law.nd
  refine fun_okS (Γ := [.sc, .o1, .fz, .fz, .fz, .fz, .fz, .fz, .fz, .fz, .fz, .fz, .fz, .fz, .fz, .fz, .fz, .fz, .fz, .fz, .fz]) (Γo := [.sc, .o1, .fz, .fz, .fz, .fz, .fz, .fz, .fz, .fz, .fz, .fz, .fz, .fz, .fz, .fz, .fz, .fz, .fz, .fz, .fz]) (Γl := [.sc, .o1, .fz, .fz, .fz, .fz, .fz, .fz, .fz, .fz, .fz, .fz, .fz, .fz, .fz, .fz, .fz, .fz, .fz, .fz, .fz]) (Γr := ⟨[.sc, .fz, .fz, .fz, .fz, .fz, .fz, .fz, .fz, .fz, .fz, .fz, .fz, .fz, .fz, .fz, .fz, .fz, .fz, .fz, .fz], false⟩) (ω := w_law) F S_law rfl (by decide) rfl rfl (by decide) m_law (fun cd A outer s H0 O => ?_)
  exact (JSs_cut (JS_setL nd (i := 1) (J1_callS O (h_law_bag.up (by decide)) (pv 0) JA_nil)) (JSs_cut (JS_for PassesOwn.never O.calm (JI_range1 M.range (JA_cons J_int JA_nil)) (JG_name nd (i := 2)) (JSs_cut (JS_set nd (i := 3) (J_callI (kc := .o1) (kd := .io) O (h_law_some.up (by decide)) (pv 1) (JA_cons (J_lst (JA_cons (J_add J_int (J_callI (kc := .o1) (kd := .io) O (h_law_take.up (by decide)) (pv 1) (JA_cons J_int JA_nil))) (JA_cons (J_add J_int (J_callI (kc := .o1) (kd := .io) O (h_law_take.up (by decide)) (pv 1) (JA_cons J_int JA_nil))) (JA_cons J_int (JA_cons J_int JA_nil))))) JA_nil))) (JSs_cut (JS_asg (JG_tup O.calm (JGs_cons (JG_name nd (i := 14)) (JGs_cons (JG_name nd (i := 15)) JGs_nil))) (J_tup (JA_cons (J_add J_int (J_callI (kc := .o1) (kd := .io) O (h_law_take.up (by decide)) (pv 1) (JA_cons J_int JA_nil))) (JA_cons (J_add J_int (J_callI (kc := .o1) (kd := .io) O (h_law_great.up (by decide)) (pv 1) (JA_cons J_int JA_nil))) JA_nil)))) (JSs_cut (JS_set nd (i := 4) (J_callI (kc := .o1) (kd := .io) O (h_law_some.up (by decide)) (pv 1) (JA_cons (J_lst (JA_cons (J_callI (kc := .o1) (kd := .io) O (h_law_take.up (by decide)) (pv 1) (JA_cons (J_add (J_var (pv 3)) J_int) JA_nil)) (JA_cons (J_var (pv 3)) (JA_cons J_int (JA_cons (J_min O M.min (JA_cons (J_var (pv 3)) (JA_cons (J_var (pv 14)) JA_nil))) JA_nil))))) JA_nil))) (JSs_cut (JS_set nd (i := 5) (J_add J_int (J_callI (kc := .o1) (kd := .io) O (h_law_great.up (by decide)) (pv 1) (JA_cons (J_var (pv 15)) JA_nil)))) (JSs_cut (JS_setLc (i := 6) (own := [("at", 16)]) O nd (JI_range1 M.range (JA_cons (J_var (pv 3)) JA_nil)) (blkOk_by (N := N_law) (sc := defScope s_law) (by decide +kernel)) (fun _ _ _ _ _ => (JG_name nd (i := 16))) (fun _ _ _ _ _ O => JTs_nil) (fun _ _ _ _ _ O => (J_mul (J_var (pv 15)) (J_intc M.int (JA_cons (J_ge (J_var (pv 16)) (J_var (pv 4))) JA_nil))))) (JSs_cut (JS_set nd (i := 7) (J_call O (h_built.up (by decide)) (JA_cons (J_mul (J_lst (JA_cons (J_var (pv 15)) JA_nil)) (J_var (pv 3))) (JA_cons (J_var (pv 14)) JA_nil)))) (JSs_cut (JS_set nd (i := 8) (J_call O (h_law_mends.up (by decide)) (JA_cons (J_var (pv 3)) (JA_cons (J_var (pv 14)) (JA_cons (J_var (pv 15)) (JA_cons (J_var (pv 4)) JA_nil)))))) (JSs_cut (JS_set nd (i := 9) (J_call O (h_seek.up (by decide)) (JA_cons (J_var (pv 7)) (JA_cons (J_var (pv 14)) (JA_cons (J_var (pv 6)) (JA_cons (J_var (pv 5)) JA_nil)))))) (JSs_cut (JS_set nd (i := 10) (J_if (JT_lt (b := false) (J_var (pv 4)) (J_var (pv 3))) (J_var (pv 4)) J_non)) (JSs_cut (JS_if (JT_not (JT_val (b := false) (J_call O (h_law_alike.up (by decide)) (JA_cons (J_var (pv 9)) (JA_cons (J_tup (JA_cons (J_var (pv 10)) (JA_cons (J_call O (h_law_behind.up (by decide)) (JA_cons (J_var (pv 7)) (JA_cons (J_var (pv 8)) JA_nil))) (JA_cons (J_var (pv 8)) JA_nil)))) JA_nil))))) (JSs_one (JS_ret J_bl)) JSs_nil) (JSs_cut (JS_setLc (i := 11) (own := [("level", 17), ("place", 18), ("was", 19), ("now", 20)]) O nd (JI_list (J_var (pv 8))) (blkOk_by (N := N_law) (sc := defScope s_law) (by decide +kernel)) (fun _ _ _ _ _ => (JG_tup O.calm (JGs_cons (JG_name nd (i := 17)) (JGs_cons (JG_name nd (i := 18)) (JGs_cons (JG_name nd (i := 19)) (JGs_cons (JG_name nd (i := 20)) JGs_nil)))))) (fun _ _ _ _ _ O => JTs_nil) (fun _ _ _ _ _ O => (J_tup (JA_cons (J_var (pv 17)) (JA_cons (J_var (pv 18)) (JA_cons (J_var (pv 20)) JA_nil)))))) (JSs_cut (JS_set nd (i := 12) (J_callI (kc := .o1) (kd := .io) O (h_law_take.up (by decide)) (pv 1) (JA_cons (J_add (J_len M.len (JA_cons (J_var (pv 11)) JA_nil)) J_int) JA_nil))) (JSs_cut (JS_if (JT_W (JW_or (JT_ne (b := false) O (J_call O (h_done.up (by decide)) (JA_cons (J_var (pv 7)) (JA_cons (J_var (pv 11)) JA_nil))) (J_ix (J_var (pv 9)) J_int)) (JW_or1 (JT_isNot (b := false) (J_call O (h_is_safe.up (by decide)) (JA_cons (J_call O (h_done.up (by decide)) (JA_cons (J_var (pv 7)) (JA_cons (J_slice (J_var (pv 11)) JP_none (JP_some (J_var (pv 12)))) JA_nil))) (JA_cons (J_var (pv 14)) JA_nil))) J_bl)))) (JSs_one (JS_ret J_bl)) JSs_nil) (JSs_cut (JS_if (JT_W (JW_or (JT_isNot (b := false) (J_call O (h_is_safe.up (by decide)) (JA_cons (J_ix (J_var (pv 9)) J_int) (JA_cons (J_var (pv 14)) JA_nil))) J_bl) (JW_or1 (JT_ne (b := false) O (J_call O (h_greatest.up (by decide)) (JA_cons (J_ix (J_var (pv 9)) J_int) JA_nil)) (J_if (JT_lt (b := false) (J_var (pv 4)) (J_var (pv 3))) (J_var (pv 15)) J_int))))) (JSs_one (JS_ret J_bl)) JSs_nil) (JSs_cut (JS_if (JT_not (JT_val (b := false) (J_call O (h_law_again_right.up (by decide)) (JA_cons (J_var (pv 14)) (JA_cons (J_var (pv 6)) (JA_cons (J_var (pv 5)) (JA_cons (J_var (pv 9)) JA_nil))))))) (JSs_one (JS_ret J_bl)) JSs_nil) (JSs_cut (JS_set nd (i := 13) (J_call O (h_seek.up (by decide)) (JA_cons (J_var (pv 7)) (JA_cons (J_var (pv 14)) (JA_cons (J_mul (J_lst (JA_cons (J_var (pv 15)) JA_nil)) (J_var (pv 3))) (JA_cons (J_var (pv 5)) JA_nil)))))) (JSs_one (JS_if (JT_W (JW_or (JT_not (JT_val (b := false) (J_call O (h_law_alike.up (by decide)) (JA_cons (J_var (pv 13)) (JA_cons (J_tup (JA_cons J_int (JA_cons (J_var (pv 7)) (JA_cons (J_lst JA_nil) JA_nil)))) JA_nil))))) (JW_or1 (JT_ne (b := false) O (J_call O (h_seek.up (by decide)) (JA_cons (J_var (pv 7)) (JA_cons (J_var (pv 14)) (JA_cons (J_var (pv 6)) (JA_cons (J_add (J_var (pv 15)) J_int) JA_nil))))) (J_tup (JA_cons J_non (JA_cons (J_var (pv 7)) (JA_cons (J_lst JA_nil) JA_nil)))))))) (JSs_one (JS_ret J_bl)) JSs_nil))))))))))))))))))) (JSs_one (JS_ret J_bl))))
def Got (K : PySem.W.Frag) (mg : Str → Option Value) (x : Str) (st : Stmt) : Prop := ∃ (f : Addr) (fd : FuncData), mg x = some (.ref f) ∧ PySem.W.keepIn K (.ref f) = true ∧ Fun K x x st f fd
abbrev GotX {K : PySem.W.Frag} {h : Heap} (X : K.In h) (mg : Str → Option Value) (x : Str) (st : Stmt) : Prop := Got K mg x st
theorem all_hd (M : Blt mg) (g_is_whole : Got K mg "is_whole" s_is_whole) (g_levels : Got K mg "levels" s_levels) (g_is_node : Got K mg "is_node" s_is_node) (g_need_node : Got K mg "need_node" s_need_node) (g_span : Got K mg "span" s_span) (g_children : Got K mg "children" s_children) (g_top : Got K mg "top" s_top) (g_told_above : Got K mg "told_above" s_told_above) (g_built : Got K mg "built" s_built) (g_pages_of : Got K mg "pages_of" s_pages_of) (g_fault : Got K mg "fault" s_fault) (g_tells : Got K mg "tells" s_tells) (g_greatest : Got K mg "greatest" s_greatest) (g_shape_of : Got K mg "shape_of" s_shape_of) (g_goes_down : Got K mg "goes_down" s_goes_down) (g_seek : Got K mg "seek" s_seek) (g_need_page : Got K mg "need_page" s_need_page) (g_within : Got K mg "within" s_within) (g_cover : Got K mg "cover" s_cover) (g_looked_at : Got K mg "looked_at" s_looked_at) (g_walked : Got K mg "walked" s_walked) (g_further : Got K mg "further" s_further) (g_first : Got K mg "first" s_first) (g_done : Got K mg "done" s_done) (g_is_safe : Got K mg "is_safe" s_is_safe) (g_mended : Got K mg "mended" s_mended) (g_law_bag : Got K mg "_law_bag" s_law_bag) (g_law_take : Got K mg "_law_take" s_law_take) (g_law_some : Got K mg "_law_some" s_law_some) (g_law_alike : Got K mg "_law_alike" s_law_alike) (g_law_power : Got K mg "_law_power" s_law_power) (g_law_great : Got K mg "_law_great" s_law_great) (g_law_sizes : Got K mg "_law_sizes" s_law_sizes) (g_law_span : Got K mg "_law_span" s_law_span) (g_law_mends : Got K mg "_law_mends" s_law_mends) (g_law_behind : Got K mg "_law_behind" s_law_behind) (g_law_again_right : Got K mg "_law_again_right" s_law_again_right) (g_law : Got K mg "law" s_law) {fa : Addr} (hfa : mg "law" = some (.ref fa)) : ∃ fd : FuncData, (∀ (s : Shared) (u : Value), BindsTo s fd ⟨[u], []⟩ [("script", u)]) ∧ ∀ base : Heap, FnG P w K mg base 31 fa fd ["script"] (spS K 0 false sp_law) := by
  obtain ⟨f_is_whole, fd_is_whole, e_is_whole, k_is_whole, F_is_whole⟩ := g_is_whole
  obtain ⟨f_levels, fd_levels, e_levels, k_levels, F_levels⟩ := g_levels
  obtain ⟨f_is_node, fd_is_node, e_is_node, k_is_node, F_is_node⟩ := g_is_node
  obtain ⟨f_need_node, fd_need_node, e_need_node, k_need_node, F_need_node⟩ := g_need_node
  obtain ⟨f_span, fd_span, e_span, k_span, F_span⟩ := g_span
  obtain ⟨f_children, fd_children, e_children, k_children, F_children⟩ := g_children
  obtain ⟨f_top, fd_top, e_top, k_top, F_top⟩ := g_top
  obtain ⟨f_told_above, fd_told_above, e_told_above, k_told_above, F_told_above⟩ := g_told_above
  obtain ⟨f_built, fd_built, e_built, k_built, F_built⟩ := g_built
  obtain ⟨f_pages_of, fd_pages_of, e_pages_of, k_pages_of, F_pages_of⟩ := g_pages_of
  obtain ⟨f_fault, fd_fault, e_fault, k_fault, F_fault⟩ := g_fault
  obtain ⟨f_tells, fd_tells, e_tells, k_tells, F_tells⟩ := g_tells
  obtain ⟨f_greatest, fd_greatest, e_greatest, k_greatest, F_greatest⟩ := g_greatest
  obtain ⟨f_shape_of, fd_shape_of, e_shape_of, k_shape_of, F_shape_of⟩ := g_shape_of
  obtain ⟨f_goes_down, fd_goes_down, e_goes_down, k_goes_down, F_goes_down⟩ := g_goes_down
  obtain ⟨f_seek, fd_seek, e_seek, k_seek, F_seek⟩ := g_seek
  obtain ⟨f_need_page, fd_need_page, e_need_page, k_need_page, F_need_page⟩ := g_need_page
  obtain ⟨f_within, fd_within, e_within, k_within, F_within⟩ := g_within
  obtain ⟨f_cover, fd_cover, e_cover, k_cover, F_cover⟩ := g_cover
  obtain ⟨f_looked_at, fd_looked_at, e_looked_at, k_looked_at, F_looked_at⟩ := g_looked_at
  obtain ⟨f_walked, fd_walked, e_walked, k_walked, F_walked⟩ := g_walked
  obtain ⟨f_further, fd_further, e_further, k_further, F_further⟩ := g_further
  obtain ⟨f_first, fd_first, e_first, k_first, F_first⟩ := g_first
  obtain ⟨f_done, fd_done, e_done, k_done, F_done⟩ := g_done
  obtain ⟨f_is_safe, fd_is_safe, e_is_safe, k_is_safe, F_is_safe⟩ := g_is_safe
  obtain ⟨f_mended, fd_mended, e_mended, k_mended, F_mended⟩ := g_mended
  obtain ⟨f_law_bag, fd_law_bag, e_law_bag, k_law_bag, F_law_bag⟩ := g_law_bag
  obtain ⟨f_law_take, fd_law_take, e_law_take, k_law_take, F_law_take⟩ := g_law_take
  obtain ⟨f_law_some, fd_law_some, e_law_some, k_law_some, F_law_some⟩ := g_law_some
  obtain ⟨f_law_alike, fd_law_alike, e_law_alike, k_law_alike, F_law_alike⟩ := g_law_alike
  obtain ⟨f_law_power, fd_law_power, e_law_power, k_law_power, F_law_power⟩ := g_law_power
  obtain ⟨f_law_great, fd_law_great, e_law_great, k_law_great, F_law_great⟩ := g_law_great
  obtain ⟨f_law_sizes, fd_law_sizes, e_law_sizes, k_law_sizes, F_law_sizes⟩ := g_law_sizes
  obtain ⟨f_law_span, fd_law_span, e_law_span, k_law_span, F_law_span⟩ := g_law_span
  obtain ⟨f_law_mends, fd_law_mends, e_law_mends, k_law_mends, F_law_mends⟩ := g_law_mends
  obtain ⟨f_law_behind, fd_law_behind, e_law_behind, k_law_behind, F_law_behind⟩ := g_law_behind
  obtain ⟨f_law_again_right, fd_law_again_right, e_law_again_right, k_law_again_right, F_law_again_right⟩ := g_law_again_right
  obtain ⟨f_law, fd_law, e_law, k_law, F_law⟩ := g_law
  have e := hfa.symm.trans e_law
  cases e
  refine ⟨fd_law, fun s u => ?_, fun base => ?_⟩
  · obtain ⟨oc, od, kV, doc, pm, an, cdv, ct, osl, rfl, lk, hcd⟩ := F_law.ex
    exact .of_eq rfl
  have h_is_whole : Hd P w K mg base 1 "is_whole" (spP K 1 false sp_is_whole) := ⟨_, _, _, j_is_whole M  F_is_whole, e_is_whole, k_is_whole, F_is_whole.binds (ps := ["thing"]) fun _ _ _ _ _ _ us hl => match us, hl with | [_], _ => rfl⟩
  have h_levels : Hd P w K mg base 1 "levels" (spP K 1 false sp_levels) := ⟨_, _, _, j_levels M  F_levels, e_levels, k_levels, F_levels.binds (ps := ["shape"]) fun _ _ _ _ _ _ us hl => match us, hl with | [_], _ => rfl⟩
  have h_is_node : Hd P w K mg base 2 "is_node" (spP K 2 false sp_is_node) := ⟨_, _, _, j_is_node M h_is_whole h_levels F_is_node, e_is_node, k_is_node, F_is_node.binds (ps := ["shape", "thing"]) fun _ _ _ _ _ _ us hl => match us, hl with | [_, _], _ => rfl⟩
  have h_need_node : Hd P w K mg base 3 "need_node" (spP K 2 false sp_need_node) := ⟨_, _, _, j_need_node M h_is_node F_need_node, e_need_node, k_need_node, F_need_node.binds (ps := ["shape", "thing"]) fun _ _ _ _ _ _ us hl => match us, hl with | [_, _], _ => rfl⟩
  have h_span : Hd P w K mg base 4 "span" (spP K 2 false sp_span) := ⟨_, _, _, j_span M h_need_node F_span, e_span, k_span, F_span.binds (ps := ["shape", "node"]) fun _ _ _ _ _ _ us hl => match us, hl with | [_, _], _ => rfl⟩
  have h_children : Hd P w K mg base 4 "children" (spP K 2 false sp_children) := ⟨_, _, _, j_children M h_levels h_need_node F_children, e_children, k_children, F_children.binds (ps := ["shape", "node"]) fun _ _ _ _ _ _ us hl => match us, hl with | [_, _], _ => rfl⟩
  have h_top : Hd P w K mg base 2 "top" (spP K 1 false sp_top) := ⟨_, _, _, j_top M h_levels F_top, e_top, k_top, F_top.binds (ps := ["shape"]) fun _ _ _ _ _ _ us hl => match us, hl with | [_], _ => rfl⟩
  have h_told_above : Hd P w K mg base 1 "told_above" (spP K 2 false sp_told_above) := ⟨_, _, _, j_told_above M  F_told_above, e_told_above, k_told_above, F_told_above.binds (ps := ["level", "fan"]) fun _ _ _ _ _ _ us hl => match us, hl with | [_, _], _ => rfl⟩
  have h_built : Hd P w K mg base 2 "built" (spP K 2 false sp_built) := ⟨_, _, _, j_built M h_told_above F_built, e_built, k_built, F_built.binds (ps := ["rooms", "fan"]) fun _ _ _ _ _ _ us hl => match us, hl with | [_, _], _ => rfl⟩
  have h_pages_of : Hd P w K mg base 1 "pages_of" (spP K 1 false sp_pages_of) := ⟨_, _, _, j_pages_of M  F_pages_of, e_pages_of, k_pages_of, F_pages_of.binds (ps := ["tree"]) fun _ _ _ _ _ _ us hl => match us, hl with | [_], _ => rfl⟩
  have h_fault : Hd P w K mg base 2 "fault" (spP K 2 false sp_fault) := ⟨_, _, _, j_fault M h_told_above F_fault, e_fault, k_fault, F_fault.binds (ps := ["tree", "fan"]) fun _ _ _ _ _ _ us hl => match us, hl with | [_, _], _ => rfl⟩
  have h_tells : Hd P w K mg base 2 "tells" (spP K 2 false sp_tells) := ⟨_, _, _, j_tells M h_is_whole F_tells, e_tells, k_tells, F_tells.binds (ps := ["tree", "node"]) fun _ _ _ _ _ _ us hl => match us, hl with | [_, _], _ => rfl⟩
  have h_greatest : Hd P w K mg base 1 "greatest" (spP K 1 false sp_greatest) := ⟨_, _, _, j_greatest M  F_greatest, e_greatest, k_greatest, F_greatest.binds (ps := ["tree"]) fun _ _ _ _ _ _ us hl => match us, hl with | [_], _ => rfl⟩
  have h_shape_of : Hd P w K mg base 2 "shape_of" (spP K 2 false sp_shape_of) := ⟨_, _, _, j_shape_of M h_pages_of F_shape_of, e_shape_of, k_shape_of, F_shape_of.binds (ps := ["tree", "fan"]) fun _ _ _ _ _ _ us hl => match us, hl with | [_, _], _ => rfl⟩
  have h_goes_down : Hd P w K mg base 5 "goes_down" (spP K 3 false sp_goes_down) := ⟨_, _, _, j_goes_down M h_children h_top h_tells F_goes_down, e_goes_down, k_goes_down, F_goes_down.binds (ps := ["tree", "shape", "need"]) fun _ _ _ _ _ _ us hl => match us, hl with | [_, _, _], _ => rfl⟩
  have h_seek : Hd P w K mg base 6 "seek" (spP K 4 false sp_seek) := ⟨_, _, _, j_seek M h_children h_tells h_shape_of h_goes_down F_seek, e_seek, k_seek, F_seek.binds (ps := ["tree", "fan", "rooms", "need"]) fun _ _ _ _ _ _ us hl => match us, hl with | [_, _, _, _], _ => rfl⟩
  have h_need_page : Hd P w K mg base 1 "need_page" (spP K 2 false sp_need_page) := ⟨_, _, _, j_need_page M  F_need_page, e_need_page, k_need_page, F_need_page.binds (ps := ["pages", "page"]) fun _ _ _ _ _ _ us hl => match us, hl with | [_, _], _ => rfl⟩
  have q_within : ∀ n : Nat, Hd P w K mg base (4 + n) "within" (spP K 4 false (sq_within n)) := fun n => by
    induction n with
    | zero => exact ⟨_, _, ["shape", "node", "begin", "end"], fnG_no fun ds Q h => sq_within_0 h, e_within, k_within, F_within.binds (ps := ["shape", "node", "begin", "end"]) fun _ _ _ _ _ _ us hl => match us, hl with | [_, _, _, _], _ => rfl⟩
    | succ n ih => exact ⟨_, _, _, j_within M h_span h_children ih F_within, e_within, k_within, F_within.binds (ps := ["shape", "node", "begin", "end"]) fun _ _ _ _ _ _ us hl => match us, hl with | [_, _, _, _], _ => rfl⟩
  have h_within : Hd P w K mg base 25 "within" (spP K 4 false sp_within) := q_within 21
  have h_cover : Hd P w K mg base 26 "cover" (spP K 3 false sp_cover) := ⟨_, _, _, j_cover M h_top h_within F_cover, e_cover, k_cover, F_cover.binds (ps := ["shape", "begin", "end"]) fun _ _ _ _ _ _ us hl => match us, hl with | [_, _, _], _ => rfl⟩
  have h_looked_at : Hd P w K mg base 3 "looked_at" (spP K 3 true sp_looked_at) := ⟨_, _, _, j_looked_at M h_tells F_looked_at, e_looked_at, k_looked_at, F_looked_at.binds (ps := ["tree", "nodes", "need"]) fun _ _ _ _ _ _ us hl => match us, hl with | [_, _, _], _ => rfl⟩
  have h_walked : Hd P w K mg base 27 "walked" (spP K 4 false sp_walked) := ⟨_, _, _, j_walked M h_children h_pages_of h_tells h_shape_of h_cover h_looked_at F_walked, e_walked, k_walked, F_walked.binds (ps := ["tree", "fan", "need", "begin"]) fun _ _ _ _ _ _ us hl => match us, hl with | [_, _, _, _], _ => rfl⟩
  have h_further : Hd P w K mg base 28 "further" (spP K 4 false sp_further) := ⟨_, _, _, j_further M h_pages_of h_tells h_need_page h_walked F_further, e_further, k_further, F_further.binds (ps := ["tree", "fan", "need", "at"]) fun _ _ _ _ _ _ us hl => match us, hl with | [_, _, _, _], _ => rfl⟩
  have h_first : Hd P w K mg base 29 "first" (spP K 3 false sp_first) := ⟨_, _, _, j_first M h_further F_first, e_first, k_first, F_first.binds (ps := ["tree", "fan", "need"]) fun _ _ _ _ _ _ us hl => match us, hl with | [_, _, _], _ => rfl⟩
  have h_done : Hd P w K mg base 3 "done" (spP K 2 false sp_done) := ⟨_, _, _, j_done M h_tells F_done, e_done, k_done, F_done.binds (ps := ["tree", "writes"]) fun _ _ _ _ _ _ us hl => match us, hl with | [_, _], _ => rfl⟩
  have h_is_safe : Hd P w K mg base 2 "is_safe" (spP K 2 false sp_is_safe) := ⟨_, _, _, j_is_safe M h_told_above F_is_safe, e_is_safe, k_is_safe, F_is_safe.binds (ps := ["tree", "fan"]) fun _ _ _ _ _ _ us hl => match us, hl with | [_, _], _ => rfl⟩
  have h_mended : Hd P w K mg base 3 "mended" (spP K 2 false sp_mended) := ⟨_, _, _, j_mended M h_built F_mended, e_mended, k_mended, F_mended.binds (ps := ["tree", "fan"]) fun _ _ _ _ _ _ us hl => match us, hl with | [_, _], _ => rfl⟩
  have h_law_bag : Hd P w K mg base 1 "_law_bag" (spS K 0 true sp_law_bag) := ⟨_, _, _, j_law_bag M  F_law_bag, e_law_bag, k_law_bag, F_law_bag.binds (ps := ["script"]) fun _ _ _ _ _ _ us hl => match us, hl with | [_], _ => rfl⟩
  have h_law_take : Hd P w K mg base 1 "_law_take" (spI K .io 1 false sp_law_take) := ⟨_, _, _, j_law_take M  F_law_take, e_law_take, k_law_take, F_law_take.binds (ps := ["bag", "many"]) fun _ _ _ _ _ _ us hl => match us, hl with | [_, _], _ => rfl⟩
  have h_law_some : Hd P w K mg base 2 "_law_some" (spI K .io 1 false sp_law_some) := ⟨_, _, _, j_law_some M h_law_take F_law_some, e_law_some, k_law_some, F_law_some.binds (ps := ["bag", "things"]) fun _ _ _ _ _ _ us hl => match us, hl with | [_, _], _ => rfl⟩
  have h_law_alike : Hd P w K mg base 1 "_law_alike" (spP K 2 false sp_law_alike) := ⟨_, _, _, j_law_alike M  F_law_alike, e_law_alike, k_law_alike, F_law_alike.binds (ps := ["found", "due"]) fun _ _ _ _ _ _ us hl => match us, hl with | [_, _], _ => rfl⟩
  have h_law_power : Hd P w K mg base 1 "_law_power" (spP K 2 false sp_law_power) := ⟨_, _, _, j_law_power M  F_law_power, e_law_power, k_law_power, F_law_power.binds (ps := ["base", "many"]) fun _ _ _ _ _ _ us hl => match us, hl with | [_, _], _ => rfl⟩
  have h_law_great : Hd P w K mg base 3 "_law_great" (spI K .io 1 false sp_law_great) := ⟨_, _, _, j_law_great M h_law_take h_law_some F_law_great, e_law_great, k_law_great, F_law_great.binds (ps := ["bag", "many"]) fun _ _ _ _ _ _ us hl => match us, hl with | [_, _], _ => rfl⟩
  have h_law_sizes : Hd P w K mg base 1 "_law_sizes" (spP K 2 false sp_law_sizes) := ⟨_, _, _, j_law_sizes M  F_law_sizes, e_law_sizes, k_law_sizes, F_law_sizes.binds (ps := ["pages", "fan"]) fun _ _ _ _ _ _ us hl => match us, hl with | [_, _], _ => rfl⟩
  have h_law_span : Hd P w K mg base 2 "_law_span" (spP K 4 false sp_law_span) := ⟨_, _, _, j_law_span M h_law_power F_law_span, e_law_span, k_law_span, F_law_span.binds (ps := ["pages", "fan", "level", "place"]) fun _ _ _ _ _ _ us hl => match us, hl with | [_, _, _, _], _ => rfl⟩
  have h_law_mends : Hd P w K mg base 3 "_law_mends" (spP K 4 false sp_law_mends) := ⟨_, _, _, j_law_mends M h_law_power h_law_sizes h_law_span F_law_mends, e_law_mends, k_law_mends, F_law_mends.binds (ps := ["pages", "fan", "room", "page"]) fun _ _ _ _ _ _ us hl => match us, hl with | [_, _, _, _], _ => rfl⟩
  have h_law_behind : Hd P w K mg base 1 "_law_behind" (spP K 2 false sp_law_behind) := ⟨_, _, _, j_law_behind M  F_law_behind, e_law_behind, k_law_behind, F_law_behind.binds (ps := ["tree", "mends"]) fun _ _ _ _ _ _ us hl => match us, hl with | [_, _], _ => rfl⟩
  have h_law_again_right : Hd P w K mg base 30 "_law_again_right" (spP K 4 false sp_law_again_right) := ⟨_, _, _, j_law_again_right M h_built h_fault h_seek h_first h_mended h_law_alike F_law_again_right, e_law_again_right, k_law_again_right, F_law_again_right.binds (ps := ["fan", "rooms", "need", "told"]) fun _ _ _ _ _ _ us hl => match us, hl with | [_, _, _, _], _ => rfl⟩
  exact j_law M h_built h_greatest h_seek h_done h_is_safe h_law_bag h_law_take h_law_some h_law_alike h_law_great h_law_mends h_law_behind h_law_again_right F_law
theorem got {h : Heap} {x : Str} {st : Stmt} {f : Addr} {oc : Value} {od an : Option Addr} {osl : Array (Option Value)} {kV doc pm cdv ct : Value} (X : K.In h) (G : h.Ns mainGlobals mg) (a : PySem.W.nsIn K mainGlobals x = some (some (.ref f)))
    (l : K.lookup f = some ⟨oc, od, .func (PySem.W.fnOf x x (defArgs st) (defBody st) (defScope st) .none kV doc pm an cdv ct), osl⟩) (c : PySem.W.codeIn K cdv x = true) (k : PySem.W.keepIn K (.ref f) = true) : Got K mg x st := ⟨_, _, PySem.W.mg_of X G a, k, fun_mk l c k⟩
end
end DD

set_option Elab.async false
set_option linter.all false
set_option maxRecDepth 100000
open PySem PySem.W PyProof.Rows
set_option maxHeartbeats 0 in
theorem PySem.Challenge.cw_ullage_k30_whole_search_that_mends_page_holds : PySem.Challenge.rw_ullage_k30_whole_search_that_mends_page.Holds := by
  w_on; o_law; k_head; (case hw => w_witness2)
  k_fill
  refine DD.walkG (l := PySem.Challenge.rw_ullage_k30_whole_search_that_mends_page) (n := 63) (k := 31) (x := "script") (Fl := DD.sp_law) rfl (by decide) rfl ⟨rfl, by decide, by decide⟩ (fun w h Y => PySem.W.kIn_of Y) ?F ?hF
  case hF => exact fun ns _ Q q => ⟨rfl, q⟩
  case F =>
    intro w mg fa h X G hmg
    have M : DD.Blt mg := by
      refine' ⟨PySem.W.mg_none_of X G ?b0, PySem.W.mg_none_of X G ?b1, PySem.W.mg_none_of X G ?b2, PySem.W.mg_none_of X G ?b3, PySem.W.mg_none_of X G ?b4, PySem.W.mg_none_of X G ?b5, PySem.W.mg_none_of X G ?b6, PySem.W.mg_none_of X G ?b7, PySem.W.mg_none_of X G ?b8, PySem.W.mg_none_of X G ?b9, PySem.W.mg_none_of X G ?b10, PySem.W.mg_none_of X G ?b11, PySem.W.mg_none_of X G ?b12, PySem.W.mg_none_of X G ?b13, PySem.W.mg_none_of X G ?b14, PySem.W.mg_none_of X G ?b15⟩
      all_goals k_is
    have g_is_whole : DD.GotX X mg "is_whole" DD.s_is_whole := by
      refine' DD.got X G ?a ?l ?c ?k
      (case a => k_is); (case l => k_is); (case c => k_is); (case k => k_is)
    have g_levels : DD.GotX X mg "levels" DD.s_levels := by
      refine' DD.got X G ?a ?l ?c ?k
      (case a => k_is); (case l => k_is); (case c => k_is); (case k => k_is)
    have g_is_node : DD.GotX X mg "is_node" DD.s_is_node := by
      refine' DD.got X G ?a ?l ?c ?k
      (case a => k_is); (case l => k_is); (case c => k_is); (case k => k_is)
    have g_need_node : DD.GotX X mg "need_node" DD.s_need_node := by
      refine' DD.got X G ?a ?l ?c ?k
      (case a => k_is); (case l => k_is); (case c => k_is); (case k => k_is)
    have g_span : DD.GotX X mg "span" DD.s_span := by
      refine' DD.got X G ?a ?l ?c ?k
      (case a => k_is); (case l => k_is); (case c => k_is); (case k => k_is)
    have g_children : DD.GotX X mg "children" DD.s_children := by
      refine' DD.got X G ?a ?l ?c ?k
      (case a => k_is); (case l => k_is); (case c => k_is); (case k => k_is)
    have g_top : DD.GotX X mg "top" DD.s_top := by
      refine' DD.got X G ?a ?l ?c ?k
      (case a => k_is); (case l => k_is); (case c => k_is); (case k => k_is)
    have g_told_above : DD.GotX X mg "told_above" DD.s_told_above := by
      refine' DD.got X G ?a ?l ?c ?k
      (case a => k_is); (case l => k_is); (case c => k_is); (case k => k_is)
    have g_built : DD.GotX X mg "built" DD.s_built := by
      refine' DD.got X G ?a ?l ?c ?k
      (case a => k_is); (case l => k_is); (case c => k_is); (case k => k_is)
    have g_pages_of : DD.GotX X mg "pages_of" DD.s_pages_of := by
      refine' DD.got X G ?a ?l ?c ?k
      (case a => k_is); (case l => k_is); (case c => k_is); (case k => k_is)
    have g_fault : DD.GotX X mg "fault" DD.s_fault := by
      refine' DD.got X G ?a ?l ?c ?k
      (case a => k_is); (case l => k_is); (case c => k_is); (case k => k_is)
    have g_tells : DD.GotX X mg "tells" DD.s_tells := by
      refine' DD.got X G ?a ?l ?c ?k
      (case a => k_is); (case l => k_is); (case c => k_is); (case k => k_is)
    have g_greatest : DD.GotX X mg "greatest" DD.s_greatest := by
      refine' DD.got X G ?a ?l ?c ?k
      (case a => k_is); (case l => k_is); (case c => k_is); (case k => k_is)
    have g_shape_of : DD.GotX X mg "shape_of" DD.s_shape_of := by
      refine' DD.got X G ?a ?l ?c ?k
      (case a => k_is); (case l => k_is); (case c => k_is); (case k => k_is)
    have g_goes_down : DD.GotX X mg "goes_down" DD.s_goes_down := by
      refine' DD.got X G ?a ?l ?c ?k
      (case a => k_is); (case l => k_is); (case c => k_is); (case k => k_is)
    have g_seek : DD.GotX X mg "seek" DD.s_seek := by
      refine' DD.got X G ?a ?l ?c ?k
      (case a => k_is); (case l => k_is); (case c => k_is); (case k => k_is)
    have g_need_page : DD.GotX X mg "need_page" DD.s_need_page := by
      refine' DD.got X G ?a ?l ?c ?k
      (case a => k_is); (case l => k_is); (case c => k_is); (case k => k_is)
    have g_within : DD.GotX X mg "within" DD.s_within := by
      refine' DD.got X G ?a ?l ?c ?k
      (case a => k_is); (case l => k_is); (case c => k_is); (case k => k_is)
    have g_cover : DD.GotX X mg "cover" DD.s_cover := by
      refine' DD.got X G ?a ?l ?c ?k
      (case a => k_is); (case l => k_is); (case c => k_is); (case k => k_is)
    have g_looked_at : DD.GotX X mg "looked_at" DD.s_looked_at := by
      refine' DD.got X G ?a ?l ?c ?k
      (case a => k_is); (case l => k_is); (case c => k_is); (case k => k_is)
    have g_walked : DD.GotX X mg "walked" DD.s_walked := by
      refine' DD.got X G ?a ?l ?c ?k
      (case a => k_is); (case l => k_is); (case c => k_is); (case k => k_is)
    have g_further : DD.GotX X mg "further" DD.s_further := by
      refine' DD.got X G ?a ?l ?c ?k
      (case a => k_is); (case l => k_is); (case c => k_is); (case k => k_is)
    have g_first : DD.GotX X mg "first" DD.s_first := by
      refine' DD.got X G ?a ?l ?c ?k
      (case a => k_is); (case l => k_is); (case c => k_is); (case k => k_is)
    have g_done : DD.GotX X mg "done" DD.s_done := by
      refine' DD.got X G ?a ?l ?c ?k
      (case a => k_is); (case l => k_is); (case c => k_is); (case k => k_is)
    have g_is_safe : DD.GotX X mg "is_safe" DD.s_is_safe := by
      refine' DD.got X G ?a ?l ?c ?k
      (case a => k_is); (case l => k_is); (case c => k_is); (case k => k_is)
    have g_mended : DD.GotX X mg "mended" DD.s_mended := by
      refine' DD.got X G ?a ?l ?c ?k
      (case a => k_is); (case l => k_is); (case c => k_is); (case k => k_is)
    have g_law_bag : DD.GotX X mg "_law_bag" DD.s_law_bag := by
      refine' DD.got X G ?a ?l ?c ?k
      (case a => k_is); (case l => k_is); (case c => k_is); (case k => k_is)
    have g_law_take : DD.GotX X mg "_law_take" DD.s_law_take := by
      refine' DD.got X G ?a ?l ?c ?k
      (case a => k_is); (case l => k_is); (case c => k_is); (case k => k_is)
    have g_law_some : DD.GotX X mg "_law_some" DD.s_law_some := by
      refine' DD.got X G ?a ?l ?c ?k
      (case a => k_is); (case l => k_is); (case c => k_is); (case k => k_is)
    have g_law_alike : DD.GotX X mg "_law_alike" DD.s_law_alike := by
      refine' DD.got X G ?a ?l ?c ?k
      (case a => k_is); (case l => k_is); (case c => k_is); (case k => k_is)
    have g_law_power : DD.GotX X mg "_law_power" DD.s_law_power := by
      refine' DD.got X G ?a ?l ?c ?k
      (case a => k_is); (case l => k_is); (case c => k_is); (case k => k_is)
    have g_law_great : DD.GotX X mg "_law_great" DD.s_law_great := by
      refine' DD.got X G ?a ?l ?c ?k
      (case a => k_is); (case l => k_is); (case c => k_is); (case k => k_is)
    have g_law_sizes : DD.GotX X mg "_law_sizes" DD.s_law_sizes := by
      refine' DD.got X G ?a ?l ?c ?k
      (case a => k_is); (case l => k_is); (case c => k_is); (case k => k_is)
    have g_law_span : DD.GotX X mg "_law_span" DD.s_law_span := by
      refine' DD.got X G ?a ?l ?c ?k
      (case a => k_is); (case l => k_is); (case c => k_is); (case k => k_is)
    have g_law_mends : DD.GotX X mg "_law_mends" DD.s_law_mends := by
      refine' DD.got X G ?a ?l ?c ?k
      (case a => k_is); (case l => k_is); (case c => k_is); (case k => k_is)
    have g_law_behind : DD.GotX X mg "_law_behind" DD.s_law_behind := by
      refine' DD.got X G ?a ?l ?c ?k
      (case a => k_is); (case l => k_is); (case c => k_is); (case k => k_is)
    have g_law_again_right : DD.GotX X mg "_law_again_right" DD.s_law_again_right := by
      refine' DD.got X G ?a ?l ?c ?k
      (case a => k_is); (case l => k_is); (case c => k_is); (case k => k_is)
    have g_law : DD.GotX X mg "law" DD.s_law := by
      refine' DD.got X G ?a ?l ?c ?k
      (case a => k_is); (case l => k_is); (case c => k_is); (case k => k_is)
    obtain ⟨fd, hb, hf⟩ := DD.all_hd (P := PySem.Challenge.rw_ullage_k30_whole_search_that_mends_page.prog) (w := w) M g_is_whole g_levels g_is_node g_need_node g_span g_children g_top g_told_above g_built g_pages_of g_fault g_tells g_greatest g_shape_of g_goes_down g_seek g_need_page g_within g_cover g_looked_at g_walked g_further g_first g_done g_is_safe g_mended g_law_bag g_law_take g_law_some g_law_alike g_law_power g_law_great g_law_sizes g_law_span g_law_mends g_law_behind g_law_again_right g_law hmg
    exact ⟨fd, hb, fun base _ _ => hf base⟩
