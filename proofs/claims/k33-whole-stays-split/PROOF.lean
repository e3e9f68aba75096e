import PyProof.Rows.All
import Wide.All
import OpenK.AllK
import Wide.FinOn
import HandS.ForMost
import HandS.More
import HandS.Slots
import HandS.SlotsOwn
import HandS.TupMul
import HandS.TupAny
import HandS.IsInst
import HandS.Star
import HandS.Zip
import HandS.Walk
import HandS.Style
import HandS.RaiseMore
import HandS.Sort
import KE.GoesMore
import KE.GoesZip
import KE.GoesEnum
import HandS.Defaults
import KE.KStateDown
import Lean
import HandS.WordsExc
import HandS.Head0
import HandS.Head1
import HandS.Head2
import HandS.HeadEnd
import HandS.HeadHook1
import HandS.HeadHook2
import HandS.Wide
import PySem.Challenge.RW_anymargin_k33_whole_stays_split
set_option Elab.async false
set_option linter.all false
set_option maxRecDepth 100000
set_option maxHeartbeats 4000000
/-! A typed layer over HandS: what a value is, told by a predicate that later heaps keep. -/
namespace TL
open PySem PySem.Spec PyProof.Rows L2
/-! ### heaps -/
def Ex (H H' : Hp) : Prop := ∀ a o, H a = some o → H' a = some o
theorem Ex.refl (H : Hp) : Ex H H := fun _ _ h => h
theorem Ex.trans {H H1 H2 : Hp} (a : Ex H H1) (b : Ex H1 H2) : Ex H H2 := fun c o h => b c o (a c o h)
theorem Ex.new {H : Hp} {p : Addr} {o : HO} (h : H p = none) : Ex H (upd H p o) := fun a u e => by
  rw [upd_ne (ne_of_none e h)]; exact e
theorem Ex.none {H H' : Hp} {p : Addr} (e : Ex H H') (h : H' p = none) : H p = none := by
  cases q : H p with
  | none => rfl
  | some o => rw [e p o q] at h; cases h
/-- what may change -/
def isM : HO → Bool := fun _ => true
def hide (M : List Addr) (H : Hp) : Hp := fun a => if a ∈ M then none else H a
theorem hide_nil (H : Hp) : hide [] H = H := by
  funext a; unfold hide; simp
theorem hide_in {M : List Addr} {H : Hp} {a : Addr} (h : a ∈ M) : hide M H a = none := by unfold hide; rw [if_pos h]
theorem hide_out {M : List Addr} {H : Hp} {a : Addr} (h : a ∉ M) : hide M H a = H a := by unfold hide; rw [if_neg h]
theorem hide_le (M : List Addr) (H : Hp) : Ex (hide M H) H := fun a o h => by
  by_cases q : a ∈ M
  · rw [hide_in q] at h; cases h
  · rw [hide_out q] at h; exact h
theorem Ex.hide {H H' : Hp} (e : Ex H H') (M : List Addr) : Ex (hide M H) (hide M H') := fun a o h => by
  by_cases q : a ∈ M
  · rw [hide_in q] at h; cases h
  · rw [hide_out q] at h ⊢; exact e a o h
theorem hide_sub {M M' : List Addr} (h : ∀ a ∈ M, a ∈ M') (H : Hp) : Ex (hide M' H) (hide M H) := fun a o e => by
  by_cases q : a ∈ M'
  · rw [hide_in q] at e; cases e
  · rw [hide_out q] at e; rw [hide_out fun z => q (h a z)]; exact e
theorem sqL_mono {K : PySem.W.Frag} {H H' : Hp} {a : Addr} {xs : List V} (e : Ex H H') (h : SqL K H a xs) : SqL K H' a xs := by
  rcases h with (h | ⟨o, h⟩) | h
  · exact .inl (.inl (e _ _ h))
  · exact .inl (.inr ⟨o, e _ _ h⟩)
  · exact .inr h
theorem sqT_mono {K : PySem.W.Frag} {H H' : Hp} {a : Addr} {xs : List V} (e : Ex H H') (h : SqT K H a xs) : SqT K H' a xs := by
  rcases h with (h | ⟨o, h⟩) | h
  · exact .inl (.inl (e _ _ h))
  · exact .inl (.inr ⟨o, e _ _ h⟩)
  · exact .inr h
/-! ### what a value is -/
structure Vp where
  p : Hp → V → Prop
  mono : ∀ {H H' : Hp} {v : V}, Ex H H' → p H v → p H' v
class KK where
  K : PySem.W.Frag
def AllP (H : Hp) : List V → List Vp → Prop
  | [], [] => True
  | v :: vs, r :: rs => r.p H v ∧ AllP H vs rs
  | _, _ => False
theorem AllP.mono {H H' : Hp} (e : Ex H H') : ∀ {vs : List V} {rs : List Vp}, AllP H vs rs → AllP H' vs rs
  | [], [], _ => trivial
  | _ :: _, r :: _, ⟨h, t⟩ => ⟨r.mono e h, AllP.mono e t⟩
  | [], _ :: _, h => h.elim
  | _ :: _, [], h => h.elim
theorem AllP.len {H : Hp} : ∀ {vs : List V} {rs : List Vp}, AllP H vs rs → vs.length = rs.length
  | [], [], _ => rfl
  | _ :: vs, _ :: rs, ⟨_, t⟩ => by simp [AllP.len t]
  | [], _ :: _, h => h.elim
  | _ :: _, [], h => h.elim
theorem AllP.get {H : Hp} : ∀ {vs : List V} {rs : List Vp} {i : Nat} {r : Vp}, AllP H vs rs → rs[i]? = some r → ∃ v, vs[i]? = some v ∧ r.p H v
  | [], [], _, _, _, e => by simp at e
  | v :: _, r :: _, 0, _, ⟨h, _⟩, e => by simp at e; subst e; exact ⟨v, rfl, h⟩
  | _ :: vs, _ :: rs, i + 1, _, ⟨_, t⟩, e => by
    obtain ⟨v, h1, h2⟩ := AllP.get (i := i) t (by simpa using e)
    exact ⟨v, by simpa using h1, h2⟩
  | [], _ :: _, _, _, h, _ => h.elim
  | _ :: _, [], _, _, h, _ => h.elim
theorem AllP.get' {H : Hp} : ∀ {vs : List V} {rs : List Vp} {i : Nat} {v : V}, AllP H vs rs → vs[i]? = some v → ∃ r, rs[i]? = some r ∧ r.p H v
  | [], [], _, _, _, e => by simp at e
  | v :: _, r :: _, 0, _, ⟨h, _⟩, e => by simp at e; subst e; exact ⟨r, rfl, h⟩
  | _ :: vs, _ :: rs, i + 1, _, ⟨_, t⟩, e => by
    obtain ⟨v, h1, h2⟩ := AllP.get' (i := i) t (by simpa using e)
    exact ⟨v, by simpa using h1, h2⟩
  | [], _ :: _, _, _, h, _ => h.elim
  | _ :: _, [], _, _, h, _ => h.elim
theorem AllP.append {H : Hp} : ∀ {vs ws : List V} {rs ss : List Vp}, AllP H vs rs → AllP H ws ss → AllP H (vs ++ ws) (rs ++ ss)
  | [], _, [], _, _, h => h
  | _ :: _, _, _ :: _, _, ⟨h, t⟩, k => ⟨h, AllP.append t k⟩
  | [], _, _ :: _, _, h, _ => h.elim
  | _ :: _, _, [], _, h, _ => h.elim
theorem AllP.of_get {H : Hp} : ∀ {vs : List V} {rs : List Vp}, vs.length = rs.length → (∀ (i : Nat) (v : V) (r : Vp), vs[i]? = some v → rs[i]? = some r → r.p H v) → AllP H vs rs
  | [], [], _, _ => trivial
  | v :: vs, r :: rs, hl, h => ⟨h 0 v r rfl rfl, AllP.of_get (by simpa using hl) fun i v r h1 h2 => h (i + 1) v r (by simpa using h1) (by simpa using h2)⟩
  | [], _ :: _, h, _ => by simp at h
  | _ :: _, [], h, _ => by simp at h
theorem AllP.take {H : Hp} : ∀ {vs : List V} {rs : List Vp} (n : Nat), AllP H vs rs → AllP H (vs.take n) (rs.take n)
  | _, _, 0, _ => trivial
  | [], [], _ + 1, _ => trivial
  | _ :: _, _ :: _, n + 1, ⟨h, t⟩ => ⟨h, AllP.take n t⟩
  | [], _ :: _, _, h => h.elim
  | _ :: _, [], _, h => h.elim
theorem AllP.drop {H : Hp} : ∀ {vs : List V} {rs : List Vp} (n : Nat), AllP H vs rs → AllP H (vs.drop n) (rs.drop n)
  | _, _, 0, h => h
  | [], [], _ + 1, _ => trivial
  | _ :: _, _ :: _, n + 1, ⟨_, t⟩ => AllP.drop n t
  | [], _ :: _, _, h => h.elim
  | _ :: _, [], _, h => h.elim
theorem AllP.replicate {H : Hp} {v : V} {r : Vp} (h : r.p H v) : ∀ n, AllP H (List.replicate n v) (List.replicate n r)
  | 0 => trivial
  | n + 1 => ⟨h, AllP.replicate h n⟩
theorem AllP.one {H : Hp} : ∀ {vs : List V} {r : Vp}, AllP H vs [r] → ∃ v, vs = [v] ∧ r.p H v
  | [v], _, ⟨h, _⟩ => ⟨v, rfl, h⟩
  | [], _, h => h.elim
  | _ :: _ :: _, _, ⟨_, h⟩ => h.elim
theorem AllP.two {H : Hp} : ∀ {vs : List V} {r q : Vp}, AllP H vs [r, q] → ∃ v u, vs = [v, u] ∧ r.p H v ∧ q.p H u
  | [v, u], _, _, ⟨h, k, _⟩ => ⟨v, u, rfl, h, k⟩
  | [], _, _, h => h.elim
  | [_], _, _, ⟨_, h⟩ => h.elim
  | _ :: _ :: _ :: _, _, _, ⟨_, _, h⟩ => h.elim
theorem AllP.nil {H : Hp} : ∀ {vs : List V}, AllP H vs [] → vs = []
  | [], _ => rfl
  | _ :: _, h => h.elim
def rI (i : Int) : Vp := ⟨fun _ v => v = .int i, fun _ h => h⟩
def rB (b : Bool) : Vp := ⟨fun _ v => v = .bl b, fun _ h => h⟩
def rN : Vp := ⟨fun _ v => v = .non, fun _ h => h⟩
def rS (x : Str) : Vp := ⟨fun _ v => v = .str x, fun _ h => h⟩
def rTy (n : String) : Vp := ⟨fun _ v => v = .ty n, fun _ h => h⟩
def rA (a : Addr) : Vp := ⟨fun _ v => v = .ref a, fun _ h => h⟩
section
variable [KK]
/-- a tuple of such values -/
def rT (rs : List Vp) : Vp := ⟨fun H v => ∃ a vs, v = .ref a ∧ SqT KK.K H a vs ∧ AllP H vs rs, fun e ⟨a, vs, h1, h2, h3⟩ => ⟨a, vs, h1, sqT_mono e h2, h3.mono e⟩⟩
/-- a list of such values (that stands by itself) -/
def rL (rs : List Vp) : Vp := ⟨fun H v => ∃ a vs, v = .ref a ∧ H a = some (.lst vs) ∧ AllP H vs rs, fun e ⟨a, vs, h1, h2, h3⟩ => ⟨a, vs, h1, e _ _ h2, h3.mono e⟩⟩
/-- a list that is read alone -/
def rLr (rs : List Vp) : Vp := ⟨fun H v => ∃ a vs, v = .ref a ∧ SqL KK.K H a vs ∧ AllP H vs rs, fun e ⟨a, vs, h1, h2, h3⟩ => ⟨a, vs, h1, sqL_mono e h2, h3.mono e⟩⟩
end
/-! ### a state of the slots -/
abbrev En := List (Option Vp)
structure Kn (G : En) (M : List Addr) (σ : L2.St) (H : Hp) : Prop where
  get : ∀ (i : Nat) (r : Vp), G[i]? = some (some r) → ∃ v, σ[i]? = some (some v) ∧ r.p (hide M H) v
  mu : ∀ a ∈ M, ∃ o, H a = some o ∧ isM o = true
  len : G.length = σ.length
theorem Kn.ex {G : En} {M : List Addr} {σ : L2.St} {H H' : Hp} (k : Kn G M σ H) (e : Ex H H') : Kn G M σ H' :=
  ⟨fun i r h => let ⟨v, h1, h2⟩ := k.get i r h; ⟨v, h1, r.mono (e.hide M) h2⟩, fun a h => let ⟨o, h1, h2⟩ := k.mu a h; ⟨o, e _ _ h1, h2⟩, k.len⟩
theorem Kn.set {G : En} {M : List Addr} {σ : L2.St} {H : Hp} {i : Nat} {r : Vp} {v : V} (k : Kn G M σ H) (h : r.p (hide M H) v) : Kn (G.set i (some r)) M (σ.set i (some v)) H := by
  refine ⟨fun j q e => ?_, k.mu, by rw [List.length_set, List.length_set]; exact k.len⟩
  by_cases hj : i = j
  · subst hj
    by_cases hl : i < G.length
    · rw [List.getElem?_set_self hl] at e
      cases e
      exact ⟨v, List.getElem?_set_self (by rw [← k.len]; exact hl), h⟩
    · rw [List.set_eq_of_length_le (by omega)] at e
      rw [List.getElem?_eq_none (by omega)] at e
      cases e
  · rw [List.getElem?_set_ne hj] at e
    rw [List.getElem?_set_ne hj]
    exact k.get j q e
theorem Kn.weak {G G' : En} {M : List Addr} {σ : L2.St} {H : Hp} (k : Kn G M σ H) (hl : G'.length = G.length) (h : ∀ (i : Nat) (r : Vp), G'[i]? = some (some r) → G[i]? = some (some r)) : Kn G' M σ H :=
  ⟨fun i r e => k.get i r (h i r e), k.mu, hl.trans k.len⟩
/-! ### readings by meaning -/
section
variable (X : Cx)
def semE (e : Expr) : TE := fun σ H Q => ∀ (pins : List (Addr × Obj)) (s : Shared), Inv X pins σ H s → wpAny (model X.prog X.w) X.A (eval e X.env) (EP X pins σ Q) X.xe s
def semT (e : Expr) : TT := fun σ H Q => ∀ (pins : List (Addr × Obj)) (s : Shared), Inv X pins σ H s → wpAny (model X.prog X.w) X.A (isTrue e X.env (eval e X.env)) (TP X pins σ Q) X.xe s
def semW (e : Expr) : TT := fun σ H Q => ∀ (whole : Sem Value) (pins : List (Addr × Obj)) (s : Shared), Inv X pins σ H s → wpAny (model X.prog X.w) X.A (isTrue e X.env whole) (TP X pins σ Q) X.xe s
def semA (es : List Expr) : TA := fun σ H Q => ∀ (pos : Pos) (pins : List (Addr × Obj)) (s : Shared), Inv X pins σ H s → wpAny (model X.prog X.w) X.A (spliced (backTo pos (starEach es X.env))) (AP X pins σ Q) X.xe s
def semS (st : Stmt) : TS := fun D σ H => ∀ (pins : List (Addr × Obj)) (s : Shared), Inv X pins σ H s → wpAny (model X.prog X.w) X.A (exec st X.env) (SP X pins D) X.xe s
def semB (st : List Stmt) : TS := fun D σ H => ∀ (pins : List (Addr × Obj)) (s : Shared), Inv X pins σ H s → wpAny (model X.prog X.w) X.A (execs st X.env) (SP X pins D) X.xe s
def semG (tg : Expr) : TG := fun v σ H Q => ∀ (pins : List (Addr × Obj)) (s : Shared) (u : Value), Inv X pins σ H s → RelV v u →
  wpAny (model X.prog X.w) X.A (assign tg X.env u) (fun _ s' => ∃ σ' H', Inv X pins σ' H' s' ∧ Q σ' H') X.xe s
def semGs (ts : List Expr) : TGs := fun vs σ H Q => ∀ (pins : List (Addr × Obj)) (s : Shared) (us : List Value), Inv X pins σ H s → Vals vs us →
  wpAny (model X.prog X.w) X.A (assignInOrder ((assignEach ts X.env).map (·.2)) us) (fun _ s' => ∃ σ' H', Inv X pins σ' H' s' ∧ Q σ' H') X.xe s
def semI (tg iter : Expr) : TI := fun σ H R => ∀ (pins : List (Addr × Obj)) (s : Shared), Inv X pins σ H s →
  wpAny (model X.prog X.w) X.A (eval iter X.env) (fun v s1 => wpAny (model X.prog X.w) X.A (pyIter v) (PIE X pins σ tg R) X.xe s1) X.xe s
end
section
variable {X : Cx}
theorem pe_sem {e : Expr} : PE X e (semE X e) := ⟨fun pins s σ H Q I h => h pins s I⟩
theorem pt_sem {e : Expr} : PT X e (semT X e) := ⟨fun pins s σ H Q I h => h pins s I⟩
theorem pw_sem {e : Expr} : PW X e (semW X e) := ⟨fun whole pins s σ H Q I h => h whole pins s I⟩
theorem pa_sem {es : List Expr} : PA X es (semA X es) := ⟨fun pos pins s σ H Q I h => h pos pins s I⟩
theorem ps_sem {st : Stmt} : PS X st (semS X st) := ⟨fun pins s σ H D I h => h pins s I⟩
theorem pss_sem {st : List Stmt} : PSs X st (semB X st) := ⟨fun pins s σ H D I h => h pins s I⟩
theorem pg_sem {tg : Expr} : PG X tg (semG X tg) := ⟨fun pins s σ H v u Q I r h => h pins s u I r⟩
theorem pgs_sem {ts : List Expr} : PGs X ts (semGs X ts) := ⟨fun pins s σ H vs us Q I r h => h pins s us I r⟩
theorem pi_sem {tg iter : Expr} : PI X tg iter (semI X tg iter) := ⟨fun pins s σ H R I h => h pins s I⟩
end
/-! ### the judgements -/
/-- e gives an r, whatever lists stand aside; what stood stands -/
structure XE (X : Cx) (e : Expr) (G : En) (r : Vp) : Prop where
  to : ∀ (σ : L2.St) (H : Hp) (M : List Addr) (Q : VK), Kn G M σ H → (∀ v H', Ex H H' → r.p (hide M H') v → Q v H') → semE X e σ H Q
structure XT (X : Cx) (e : Expr) (G : En) (b : Bool) : Prop where
  to : ∀ (σ : L2.St) (H : Hp) (M : List Addr) (Q : Bool → Hp → Prop), Kn G M σ H → (∀ H', Ex H H' → Q b H') → semT X e σ H Q
structure XW (X : Cx) (e : Expr) (G : En) (b : Bool) : Prop where
  to : ∀ (σ : L2.St) (H : Hp) (M : List Addr) (Q : Bool → Hp → Prop), Kn G M σ H → (∀ H', Ex H H' → Q b H') → semW X e σ H Q
structure XA (X : Cx) (es : List Expr) (G : En) (rs : List Vp) : Prop where
  to : ∀ (σ : L2.St) (H : Hp) (M : List Addr) (Q : List V → Hp → Prop), Kn G M σ H → (∀ vs H', Ex H H' → AllP (hide M H') vs rs → Q vs H') → semA X es σ H Q
section
variable {X : Cx} {e : Expr} {es : List Expr} {G : En} {r : Vp} {rs : List Vp} {b : Bool}
theorem XE.of {t : TE} (hp : PE X e t) (h : ∀ (σ : L2.St) (H : Hp) (M : List Addr) (Q : VK), Kn G M σ H → (∀ v H', Ex H H' → r.p (hide M H') v → Q v H') → t σ H Q) : XE X e G r :=
  ⟨fun σ H M Q k hQ pins s I => hp.run pins s σ H Q I (h σ H M Q k hQ)⟩
theorem XT.of {t : TT} (hp : PT X e t) (h : ∀ (σ : L2.St) (H : Hp) (M : List Addr) (Q : Bool → Hp → Prop), Kn G M σ H → (∀ H', Ex H H' → Q b H') → t σ H Q) : XT X e G b :=
  ⟨fun σ H M Q k hQ pins s I => hp.run pins s σ H Q I (h σ H M Q k hQ)⟩
theorem XW.of {t : TT} (hp : PW X e t) (h : ∀ (σ : L2.St) (H : Hp) (M : List Addr) (Q : Bool → Hp → Prop), Kn G M σ H → (∀ H', Ex H H' → Q b H') → t σ H Q) : XW X e G b :=
  ⟨fun σ H M Q k hQ whole pins s I => hp.run whole pins s σ H Q I (h σ H M Q k hQ)⟩
theorem XA.of {t : TA} (hp : PA X es t) (h : ∀ (σ : L2.St) (H : Hp) (M : List Addr) (Q : List V → Hp → Prop), Kn G M σ H → (∀ vs H', Ex H H' → AllP (hide M H') vs rs → Q vs H') → t σ H Q) : XA X es G rs :=
  ⟨fun σ H M Q k hQ pos pins s I => hp.run pos pins s σ H Q I (h σ H M Q k hQ)⟩
theorem XW.t (h : XW X e G b) : XT X e G b := ⟨fun σ H M Q k hQ pins s I => h.to σ H M Q k hQ _ pins s I⟩
theorem XE.cast {q : Vp} (h : XE X e G r) (he : r = q) : XE X e G q := he ▸ h
theorem XE.imp {q : Vp} (h : XE X e G r) (hi : ∀ H v, r.p H v → q.p H v) : XE X e G q := ⟨fun σ H M Q k hQ => h.to σ H M Q k fun v H' e1 h1 => hQ v H' e1 (hi _ _ h1)⟩
theorem XT.cast {c : Bool} (h : XT X e G b) (he : b = c) : XT X e G c := he ▸ h
theorem XW.cast {c : Bool} (h : XW X e G b) (he : b = c) : XW X e G c := he ▸ h
theorem XA.cast {qs : List Vp} (h : XA X es G rs) (he : rs = qs) : XA X es G qs := he ▸ h
end
end TL
/-! Expressions. -/
namespace TL
open PySem PySem.Spec PyProof.Rows L2
section
variable {X : Cx} {a b c e : Expr} {es : List Expr} {G : En} {p q z r : Vp} {rs : List Vp} {pos ps : Pos} {x : Str}
theorem xe_var (i : Nat) (hG : G[i]? = some (some r) := by rfl) (hN : X.N[i]? = some x := by rfl)
    (hv : Vis X.env.scope x := by first | exact Or.inl rfl | exact Or.inr (Or.inl rfl) | exact Or.inr (Or.inr rfl)) (hd : (x == ("__debug__" : Str)) = false := by decide)
    (hcd : (x == ("__classdict__" : Str)) = false := by decide) : XE X (.Name x pos) G r :=
  XE.of (pe_var (i := i) hN hv hd hcd) fun σ H M Q k hQ => by
    obtain ⟨v, h1, h2⟩ := k.get i r hG
    exact ⟨v, h1, hQ v H (Ex.refl _) h2⟩
theorem xe_int {i j} : XE X (.Constant (.int i) j pos) G (rI i) := XE.of pe_int fun σ H M Q k hQ => hQ _ H (Ex.refl _) rfl
theorem xe_bl {i j} : XE X (.Constant (.bool i) j pos) G (rB i) := XE.of pe_bl fun σ H M Q k hQ => hQ _ H (Ex.refl _) rfl
theorem xe_non {j} : XE X (.Constant .none j pos) G rN := XE.of pe_non fun σ H M Q k hQ => hQ _ H (Ex.refl _) rfl
theorem xe_str {i j} : XE X (.Constant (.str i) j pos) G (rS i) := XE.of pe_str fun σ H M Q k hQ => hQ _ H (Ex.refl _) rfl
/-- a name of the module -/
theorem xe_gl {v : V} {u : Value} (hm : X.mg x = some u) (hr : RelV v u) (hp : ∀ H, r.p H v) (hg : Gl X x := by rfl) (hd : (x == ("__debug__" : Str)) = false := by decide) : XE X (.Name x pos) G r :=
  XE.of (pe_glob hg hm hr hd) fun σ H M Q k hQ => hQ v H (Ex.refl _) (hp _)
theorem xe_gi {i : Int} (hm : ∃ t, X.mg x = some (.int i t)) (hg : Gl X x := by rfl) (hd : (x == ("__debug__" : Str)) = false := by decide) : XE X (.Name x pos) G (rI i) := by
  obtain ⟨t, h⟩ := hm
  exact xe_gl (v := .int i) h ⟨t, rfl⟩ (fun _ => rfl) hg hd
theorem xe_gs {i : Str} (hm : ∃ t, X.mg x = some (.str i t)) (hg : Gl X x := by rfl) (hd : (x == ("__debug__" : Str)) = false := by decide) : XE X (.Name x pos) G (rS i) := by
  obtain ⟨t, h⟩ := hm
  exact xe_gl (v := .str i) h ⟨t, rfl⟩ (fun _ => rfl) hg hd
/-! ### two operands -/
def R2V (r2 : R2) (p q z : Vp) : Prop := ∀ (H : Hp) (M : List Addr) (x y : V) (Q : VK), (∀ a ∈ M, ∃ o, H a = some o ∧ isM o = true) → p.p (hide M H) x → q.p (hide M H) y → (∀ v H', Ex H H' → z.p (hide M H') v → Q v H') → r2 x y H Q
theorem R2V.run {r2 : R2} (h : R2V r2 p q z) (ha : XE X a G p) (hb : XE X b G q) (σ : L2.St) (H : Hp) (M : List Addr) (Q : VK) (k : Kn G M σ H) (hQ : ∀ v H', Ex H H' → z.p (hide M H') v → Q v H') : tOp r2 (semE X a) (semE X b) σ H Q :=
  ha.to σ H M _ k fun x H1 e1 h1 => hb.to σ H1 M _ (k.ex e1) fun y H2 e2 h2 => h H2 M x y Q ((k.ex e1).ex e2).mu (p.mono (e2.hide M) h1) h2 fun v H3 e3 h3 => hQ v H3 ((e1.trans e2).trans e3) h3
theorem xe_op {op : Operator} {r2 : R2} (ho : OpR X (binaryOp op) r2) (hr : R2V r2 p q z) (ha : XE X a G p) (hb : XE X b G q) : XE X (.BinOp a op b pos) G z :=
  XE.of (pe_op ho pe_sem pe_sem) (hr.run ha hb)
theorem xe_ix {r2 : R2} (ho : IxR X r2) (hr : R2V r2 p q z) (ha : XE X a G p) (hb : XE X b G q) (hs : PlainIx b := by intro _ _; rfl) : XE X (.Subscript a b pos) G z :=
  XE.of (pe_ix ho pe_sem pe_sem hs) (hr.run ha hb)
theorem xe_cmp {op : CmpOp} {r2 : R2} (ho : OpR X (compareOp op) r2) (hr : R2V r2 p q z) (ha : XE X a G p) (hb : XE X b G q) (hm : behindInMarks op b = false := by first | exact nomark _ | rfl) : XE X (.Compare a [op] [b] pos) G z :=
  XE.of (pe_cmpR ho pe_sem pe_sem hm) (hr.run ha hb)
theorem xt_cmp {k : Bool} {op : CmpOp} {r2 : R2} (ho : OpR X (compareOp op) r2) (hr : R2V r2 p q (rB k)) (ha : XE X a G p) (hb : XE X b G q) (hm : behindInMarks op b = false := by first | exact nomark _ | rfl) : XT X (.Compare a [op] [b] pos) G k :=
  XT.of (pt_cmpR ho pe_sem pe_sem hm) fun σ H M Q kn hQ => hr.run ha hb σ H M _ kn fun v H' e h => ⟨k, h, hQ H' e⟩
theorem r2_I0 {g : Int → Int → Int} {i j : Int} : R2V (rI0 fun i j => .int (g i j)) (rI i) (rI j) (rI (g i j)) := fun H M x y Q _ h1 h2 hQ => ⟨i, j, h1, h2, hQ _ H (Ex.refl _) rfl⟩
theorem r2_I {C : Int → Int → Prop} {g : Int → Int → Int} {i j : Int} (hc : C i j) : R2V (L2.rI C fun i j => .int (g i j)) (rI i) (rI j) (rI (g i j)) := fun H M x y Q _ h1 h2 hQ => ⟨i, j, h1, h2, hc, hQ _ H (Ex.refl _) rfl⟩
theorem r2_B0 {g : Int → Int → Bool} {i j : Int} : R2V (rI0 fun i j => .bl (g i j)) (rI i) (rI j) (rB (g i j)) := fun H M x y Q _ h1 h2 hQ => ⟨i, j, h1, h2, hQ _ H (Ex.refl _) rfl⟩
theorem xe_add {i j : Int} (ha : XE X a G (rI i)) (hb : XE X b G (rI j)) : XE X (.BinOp a .Add b pos) G (rI (i + j)) := xe_op op_add r2_I0 ha hb
theorem xe_sub {i j : Int} (ha : XE X a G (rI i)) (hb : XE X b G (rI j)) : XE X (.BinOp a .Sub b pos) G (rI (i - j)) := xe_op op_sub r2_I0 ha hb
theorem xe_mul {i j : Int} (ha : XE X a G (rI i)) (hb : XE X b G (rI j)) (h : CMul i j) : XE X (.BinOp a .Mult b pos) G (rI (i * j)) := xe_op op_mul (r2_I h) ha hb
theorem xe_mod {i j : Int} (ha : XE X a G (rI i)) (hb : XE X b G (rI j)) (h : 0 < j) : XE X (.BinOp a .Mod b pos) G (rI (i % j)) := xe_op op_mod (r2_I h) ha hb
theorem xe_fdiv {i j : Int} (ha : XE X a G (rI i)) (hb : XE X b G (rI j)) (h : CDiv i j) : XE X (.BinOp a .FloorDiv b pos) G (rI (i / j)) := xe_op op_fdiv (r2_I h) ha hb
theorem xe_pow {i j : Int} (ha : XE X a G (rI i)) (hb : XE X b G (rI j)) (h : CPow i j) : XE X (.BinOp a .Pow b pos) G (rI (i ^ j.toNat)) := xe_op op_pow (r2_I h) ha hb
theorem xe_neg {i : Int} (ha : XE X a G (rI i)) : XE X (.UnaryOp .USub a pos) G (rI (-i)) :=
  XE.of (pe_un un_neg pe_sem) fun σ H M Q k hQ => ha.to σ H M _ k fun v H1 e1 h1 => ⟨i, h1, hQ _ H1 e1 rfl⟩
/-- comparisons of ints -/
theorem xt_lt {i j : Int} (ha : XE X a G (rI i)) (hb : XE X b G (rI j)) : XT X (.Compare a [.Lt] [b] pos) G (decide (i < j)) := xt_cmp op_lt r2_B0 ha hb (nomark _)
theorem xt_le {i j : Int} (ha : XE X a G (rI i)) (hb : XE X b G (rI j)) : XT X (.Compare a [.LtE] [b] pos) G (decide (i ≤ j)) := xt_cmp op_le r2_B0 ha hb (nomark _)
theorem xt_gt {i j : Int} (ha : XE X a G (rI i)) (hb : XE X b G (rI j)) : XT X (.Compare a [.Gt] [b] pos) G (decide (j < i)) := xt_cmp op_gt r2_B0 ha hb (nomark _)
theorem xt_ge {i j : Int} (ha : XE X a G (rI i)) (hb : XE X b G (rI j)) : XT X (.Compare a [.GtE] [b] pos) G (decide (j ≤ i)) := xt_cmp op_ge r2_B0 ha hb (nomark _)
theorem xe_lt {i j : Int} (ha : XE X a G (rI i)) (hb : XE X b G (rI j)) : XE X (.Compare a [.Lt] [b] pos) G (rB (decide (i < j))) := xe_cmp op_lt r2_B0 ha hb (nomark _)
theorem xe_le {i j : Int} (ha : XE X a G (rI i)) (hb : XE X b G (rI j)) : XE X (.Compare a [.LtE] [b] pos) G (rB (decide (i ≤ j))) := xe_cmp op_le r2_B0 ha hb (nomark _)
theorem xe_gt {i j : Int} (ha : XE X a G (rI i)) (hb : XE X b G (rI j)) : XE X (.Compare a [.Gt] [b] pos) G (rB (decide (j < i))) := xe_cmp op_gt r2_B0 ha hb (nomark _)
theorem xe_ge {i j : Int} (ha : XE X a G (rI i)) (hb : XE X b G (rI j)) : XE X (.Compare a [.GtE] [b] pos) G (rB (decide (j ≤ i))) := xe_cmp op_ge r2_B0 ha hb (nomark _)
/-- == and != of flat values -/
structure Fl (p : Vp) (v : V) : Prop where
  is : ∀ H u, p.p H u → u = v
theorem fl_i {i : Int} : Fl (rI i) (.int i) := ⟨fun _ _ h => h⟩
theorem fl_s {i : Str} : Fl (rS i) (.str i) := ⟨fun _ _ h => h⟩
theorem fl_b {i : Bool} : Fl (rB i) (.bl i) := ⟨fun _ _ h => h⟩
theorem r2_eq {v u : V} (h1 : Fl p v) (h2 : Fl q u) (hs : scal v u = true) : R2V rEq p q (rB (decide (v = u))) := fun H M x y Q _ a b hQ => by
  have := h1.is _ _ a; have := h2.is _ _ b; subst x y
  exact ⟨hs, hQ _ H (Ex.refl _) rfl⟩
theorem r2_ne {v u : V} (h1 : Fl p v) (h2 : Fl q u) (hs : scal v u = true) : R2V rNe p q (rB (!decide (v = u))) := fun H M x y Q _ a b hQ => by
  have := h1.is _ _ a; have := h2.is _ _ b; subst x y
  exact ⟨hs, hQ _ H (Ex.refl _) rfl⟩
theorem dvi {i j : Int} : decide (V.int i = V.int j) = decide (i = j) := by
  by_cases h : i = j
  · subst h; simp
  · rw [decide_eq_false h, decide_eq_false fun z => h (V.int.inj z)]
theorem xt_eq {i j : Int} (ha : XE X a G (rI i)) (hb : XE X b G (rI j)) : XT X (.Compare a [.Eq] [b] pos) G (decide (i = j)) := (xt_cmp op_eq (r2_eq fl_i fl_i rfl) ha hb (nomark _)).cast dvi
theorem xt_ne {i j : Int} (ha : XE X a G (rI i)) (hb : XE X b G (rI j)) : XT X (.Compare a [.NotEq] [b] pos) G (!decide (i = j)) := (xt_cmp op_ne (r2_ne fl_i fl_i rfl) ha hb (nomark _)).cast (by rw [dvi])
theorem xe_eq {i j : Int} (ha : XE X a G (rI i)) (hb : XE X b G (rI j)) : XE X (.Compare a [.Eq] [b] pos) G (rB (decide (i = j))) := (xe_cmp op_eq (r2_eq fl_i fl_i rfl) ha hb (nomark _)).cast (by rw [dvi])
theorem xe_ne {i j : Int} (ha : XE X a G (rI i)) (hb : XE X b G (rI j)) : XE X (.Compare a [.NotEq] [b] pos) G (rB (!decide (i = j))) := (xe_cmp op_ne (r2_ne fl_i fl_i rfl) ha hb (nomark _)).cast (by rw [dvi])
theorem xt_nes {i j : Str} (ha : XE X a G (rS i)) (hb : XE X b G (rS j)) : XT X (.Compare a [.NotEq] [b] pos) G (!decide (V.str i = V.str j)) := xt_cmp op_ne (r2_ne fl_s fl_s rfl) ha hb (nomark _)
/-- is None -/
structure NoN (p : Vp) (b : Bool) : Prop where
  is : ∀ H u, p.p H u → decide (u = .non) = b
theorem non_n : NoN rN true := ⟨fun _ u h => by have : u = .non := h; subst u; rfl⟩
theorem non_i {i : Int} : NoN (rI i) false := ⟨fun _ u h => by have : u = .int i := h; subst u; rfl⟩
theorem xt_isnot {k : Bool} (ha : XE X a G p) (hn : NoN p k) {j : Nat} {pos' : Pos} : XT X (.Compare a [.IsNot] [.Constant .none j pos'] pos) G (!k) :=
  XT.of (pt_cmpR op_notN pe_sem (tb := semE X _) pe_sem (nomark _)) fun σ H M Q kn hQ => ha.to σ H M _ kn fun x H1 e1 h1 => (xe_non (G := G)).to σ H1 M _ (kn.ex e1) fun y H2 e2 h2 => ⟨h2, !k, by rw [hn.is _ _ h1], hQ H2 (e1.trans e2)⟩
theorem xt_is {k : Bool} (ha : XE X a G p) (hn : NoN p k) {j : Nat} {pos' : Pos} : XT X (.Compare a [.Is] [.Constant .none j pos'] pos) G k :=
  XT.of (pt_cmpR op_isN pe_sem (tb := semE X _) pe_sem (nomark _)) fun σ H M Q kn hQ => ha.to σ H M _ kn fun x H1 e1 h1 => (xe_non (G := G)).to σ H1 M _ (kn.ex e1) fun y H2 e2 h2 => ⟨h2, k, by rw [hn.is _ _ h1], hQ H2 (e1.trans e2)⟩
/-- a op b op' c of ints -/
theorem xe_chain {op op' : CmpOp} {f g : Int → Int → Bool} {i j k : Int} (ho : OpR X (compareOp op) (rI0 fun i j => .bl (f i j))) (ho' : OpR X (compareOp op') (rI0 fun i j => .bl (g i j))) (ha : XE X a G (rI i)) (hb : XE X b G (rI j)) (hc : f i j = true → XE X c G (rI k))
    (hm : lastMarks [op, op'] [b, c] = false := by with_unfolding_all rfl) : XE X (.Compare a [op, op'] [b, c] pos) G (rB (f i j && g j k)) :=
  XE.of (pe_chain ho ho' pe_sem pe_sem pe_sem hm) fun σ H M Q kn hQ => ha.to σ H M _ kn fun x H1 e1 h1 => hb.to σ H1 M _ (kn.ex e1) fun y H2 e2 h2 => by
    refine ⟨i, j, h1, h2, f i j, rfl, ?_⟩
    cases hf : f i j with
    | true =>
      rw [if_pos rfl]
      exact (hc hf).to σ H2 M _ ((kn.ex e1).ex e2) fun w H3 e3 h3 => ⟨j, k, h2, h3, hQ _ H3 ((e1.trans e2).trans e3) (by rw [hf]; rfl)⟩
    | false =>
      rw [if_neg (by decide)]
      exact hQ _ H2 (e1.trans e2) (by rw [hf]; rfl)
theorem xt_chain {op op' : CmpOp} {f g : Int → Int → Bool} {i j k : Int} (ho : OpR X (compareOp op) (rI0 fun i j => .bl (f i j))) (ho' : OpR X (compareOp op') (rI0 fun i j => .bl (g i j))) (ha : XE X a G (rI i)) (hb : XE X b G (rI j)) (hc : f i j = true → XE X c G (rI k))
    (hm : lastMarks [op, op'] [b, c] = false := by with_unfolding_all rfl) : XT X (.Compare a [op, op'] [b, c] pos) G (f i j && g j k) :=
  XT.of (pt_chain ho ho' pe_sem pe_sem pe_sem hm) fun σ H M Q kn hQ => ha.to σ H M _ kn fun x H1 e1 h1 => hb.to σ H1 M _ (kn.ex e1) fun y H2 e2 h2 => by
    refine ⟨i, j, h1, h2, f i j, rfl, ?_⟩
    cases hf : f i j with
    | true =>
      rw [if_pos rfl]
      exact (hc hf).to σ H2 M _ ((kn.ex e1).ex e2) fun w H3 e3 h3 => ⟨j, k, h2, h3, _, rfl, by rw [hf] at hQ; exact hQ H3 ((e1.trans e2).trans e3)⟩
    | false =>
      rw [if_neg (by decide)]
      exact ⟨false, rfl, by rw [hf] at hQ; exact hQ H2 (e1.trans e2)⟩
/-! ### and, or, not, if -/
theorem xt_val {k : Bool} (h : XE X e G (rB k)) (he : ∀ whole, isTrue e X.env whole = (do let v ← whole; standAt e.pos; holding [v] (truthy v)) := by intro _; rfl) : XT X e G k :=
  XT.of (pt_val pe_sem he) fun σ H M Q kn hQ => h.to σ H M _ kn fun v H1 e1 h1 => ⟨k, h1, hQ H1 e1⟩
theorem xw_and1 {k : Bool} (ha : XT X a G k) : XW X (.BoolOp .And [a] pos) G k := XW.of (pw_and1 pt_sem) ha.to
theorem xw_or1 {k : Bool} (ha : XT X a G k) : XW X (.BoolOp .Or [a] pos) G k := XW.of (pw_or1 pt_sem) ha.to
theorem xw_and {k l : Bool} (ha : XT X a G k) (hb : k = true → XW X (.BoolOp .And (b :: es) pos) G l) : XW X (.BoolOp .And (a :: b :: es) pos) G (k && l) :=
  XW.of (pw_and pt_sem pw_sem) fun σ H M Q kn hQ => ha.to σ H M _ kn fun H1 e1 => by
    cases k with
    | true => rw [if_pos rfl]; exact (hb rfl).to σ H1 M Q (kn.ex e1) fun H2 e2 => hQ H2 (e1.trans e2)
    | false => rw [if_neg (by decide)]; exact hQ H1 e1
theorem xw_or {k l : Bool} (ha : XT X a G k) (hb : k = false → XW X (.BoolOp .Or (b :: es) pos) G l) : XW X (.BoolOp .Or (a :: b :: es) pos) G (k || l) :=
  XW.of (pw_or pt_sem pw_sem) fun σ H M Q kn hQ => ha.to σ H M _ kn fun H1 e1 => by
    cases k with
    | false => rw [if_neg (by decide)]; exact (hb rfl).to σ H1 M Q (kn.ex e1) fun H2 e2 => hQ H2 (e1.trans e2)
    | true => rw [if_pos rfl]; exact hQ H1 e1
theorem xt_not {k : Bool} (ha : XT X a G k) : XT X (.UnaryOp .Not a pos) G (!k) := XT.of (pt_not pt_sem) fun σ H M Q kn hQ => ha.to σ H M _ kn fun H1 e1 => hQ H1 e1
theorem xe_one {op} (h : XE X a G r) : XE X (.BoolOp op [a] pos) G r := XE.of (pe_one pe_sem) h.to
theorem xe_and {k l : Bool} (ha : XE X a G (rB k)) (hb : k = true → XE X (.BoolOp .And (b :: es) pos) G (rB l)) : XE X (.BoolOp .And (a :: b :: es) pos) G (rB (k && l)) :=
  XE.of (pe_and pe_sem pe_sem) fun σ H M Q kn hQ => ha.to σ H M _ kn fun v H1 e1 h1 => by
    refine ⟨k, h1, ?_⟩
    cases k with
    | true => rw [if_pos rfl]; exact (hb rfl).to σ H1 M Q (kn.ex e1) fun v H2 e2 h2 => hQ v H2 (e1.trans e2) h2
    | false => rw [if_neg (by decide)]; exact hQ _ H1 e1 rfl
theorem xe_or {k l : Bool} (ha : XE X a G (rB k)) (hb : k = false → XE X (.BoolOp .Or (b :: es) pos) G (rB l)) : XE X (.BoolOp .Or (a :: b :: es) pos) G (rB (k || l)) :=
  XE.of (pe_or pe_sem pe_sem) fun σ H M Q kn hQ => ha.to σ H M _ kn fun v H1 e1 h1 => by
    refine ⟨k, h1, ?_⟩
    cases k with
    | false => rw [if_neg (by decide)]; exact (hb rfl).to σ H1 M Q (kn.ex e1) fun v H2 e2 h2 => hQ v H2 (e1.trans e2) h2
    | true => rw [if_pos rfl]; exact hQ _ H1 e1 rfl
theorem xe_not {k : Bool} (ha : XE X a G (rB k)) : XE X (.UnaryOp .Not a pos) G (rB (!k)) := XE.of (pe_not pe_sem) fun σ H M Q kn hQ => ha.to σ H M _ kn fun v H1 e1 h1 => ⟨k, h1, hQ _ H1 e1 rfl⟩
theorem xe_if {k : Bool} (hc : XT X c G k) (ha : k = true → XE X a G r) (hb : k = false → XE X b G r) : XE X (.IfExp c a b pos) G r :=
  XE.of (pe_ifExp pt_sem pe_sem pe_sem) fun σ H M Q kn hQ => hc.to σ H M _ kn fun H1 e1 => by
    cases k with
    | true => rw [if_pos rfl]; exact (ha rfl).to σ H1 M Q (kn.ex e1) fun v H2 e2 h2 => hQ v H2 (e1.trans e2) h2
    | false => rw [if_neg (by decide)]; exact (hb rfl).to σ H1 M Q (kn.ex e1) fun v H2 e2 h2 => hQ v H2 (e1.trans e2) h2
/-! ### arguments, displays -/
theorem xa_nil : XA X [] G [] := XA.of pa_nil fun σ H M Q k hQ => hQ [] H (Ex.refl _) trivial
theorem xa_cons (ha : XE X e G r) (hr : XA X es G rs) (hs : starEach (e :: es) X.env = (false, eval e X.env) :: starEach es X.env := by rfl) : XA X (e :: es) G (r :: rs) :=
  XA.of (pa_cons pe_sem pa_sem hs) fun σ H M Q k hQ => ha.to σ H M _ k fun v H1 e1 h1 => hr.to σ H1 M _ (k.ex e1) fun vs H2 e2 h2 => hQ _ H2 (e1.trans e2) ⟨r.mono (e2.hide M) h1, h2⟩
theorem hide_new {M : List Addr} {H : Hp} {q : Addr} {o : HO} (hM : ∀ a ∈ M, ∃ o, H a = some o ∧ isM o = true) (hq : H q = none) : hide M (upd H q o) q = some o := by
  rw [hide_out, upd_same]
  intro h
  obtain ⟨u, hu, _⟩ := hM q h
  rw [hq] at hu; cases hu
section
variable [KK]
/-- an item, *e -/
theorem xa_star {qs : List Vp} {sp : Pos} (ha : XE X e G (rT qs)) (hr : XA X es G rs) (hK : X.K = KK.K := by rfl) (hs : starEach (.Starred e sp :: es) X.env = (true, eval e X.env) :: starEach es X.env := by rfl) : XA X (.Starred e sp :: es) G (qs ++ rs) :=
  XA.of (StX.pa_star pe_sem pa_sem hs) fun σ H M Q k hQ => ha.to σ H M _ k fun v H1 e1 ⟨t, xs, hv, hS, hA⟩ => ⟨t, xs, hv, .inl (by rw [hK]; exact sqT_mono (hide_le M H1) hS), hr.to σ H1 M _ (k.ex e1) fun vs H2 e2 h2 => hQ _ H2 (e1.trans e2) ((hA.mono (e2.hide M)).append h2)⟩
theorem xa_starL {qs : List Vp} {sp : Pos} (ha : XE X e G (rL qs)) (hr : XA X es G rs) (hs : starEach (.Starred e sp :: es) X.env = (true, eval e X.env) :: starEach es X.env := by rfl) : XA X (.Starred e sp :: es) G (qs ++ rs) :=
  XA.of (StX.pa_star pe_sem pa_sem hs) fun σ H M Q k hQ => ha.to σ H M _ k fun v H1 e1 ⟨t, xs, hv, hS, hA⟩ => ⟨t, xs, hv, .inr (SqL.of (hide_le M H1 _ _ hS)), hr.to σ H1 M _ (k.ex e1) fun vs H2 e2 h2 => hQ _ H2 (e1.trans e2) ((hA.mono (e2.hide M)).append h2)⟩
theorem xe_tup {x1} (h : XA X es G rs) (hl : rs.length ≤ sizeLine := by exact Nat.le_of_ble_eq_true rfl) : XE X (.Tuple es x1 pos) G (rT rs) :=
  XE.of (pe_tup pa_sem) fun σ H M Q k hQ => h.to σ H M _ k fun vs H1 e1 h1 => ⟨by rw [h1.len]; exact hl, fun t ht => hQ _ _ (e1.trans (Ex.new ht))
    ⟨t, vs, rfl, SqT.of (hide_new (k.ex e1).mu ht), h1.mono ((Ex.new ht).hide M)⟩⟩
theorem xe_lst (h : XA X es G rs) (hl : rs.length ≤ sizeLine := by exact Nat.le_of_ble_eq_true rfl) : XE X (.List es pos) G (rL rs) :=
  XE.of (pe_lst pa_sem) fun σ H M Q k hQ => h.to σ H M _ k fun vs H1 e1 h1 => ⟨by rw [h1.len]; exact hl, fun t ht => hQ _ _ (e1.trans (Ex.new ht))
    ⟨t, vs, rfl, hide_new (k.ex e1).mu ht, h1.mono ((Ex.new ht).hide M)⟩⟩
/-! ### subscripts -/
theorem atI_all {H : Hp} {vs : List V} {i : Int} (h : AllP H vs rs) (ha : atI rs i = some r) : ∃ v, atI vs i = some v ∧ r.p H v := by
  unfold atI at ha ⊢
  rw [h.len]
  cases q : ixN rs.length i with
  | none => rw [q] at ha; cases ha
  | some j =>
    rw [q] at ha
    exact h.get (i := j) ha
theorem xe_ixT {i : Int} (ha : XE X a G (rT rs)) (hb : XE X b G (rI i)) (hi : atI rs i = some r := by rfl) (hK : X.K = KK.K := by rfl) (hs : PlainIx b := by intro _ _; rfl) : XE X (.Subscript a b pos) G r :=
  xe_ix (p := rT rs) (q := rI i) (z := r) ix_tup (fun H M x y Q hM ⟨t, vs, hv, hS, hA⟩ hy hQ => by
    obtain ⟨v, h1, h2⟩ := atI_all hA hi
    exact ⟨t, vs, i, v, hv, hy, by rw [hK]; exact sqT_mono (hide_le M H) hS, h1, hQ v H (Ex.refl _) h2⟩) ha hb hs
theorem xe_ixL {i : Int} (ha : XE X a G (rL rs)) (hb : XE X b G (rI i)) (hi : atI rs i = some r := by rfl) (hs : PlainIx b := by intro _ _; rfl) : XE X (.Subscript a b pos) G r :=
  xe_ix (p := rL rs) (q := rI i) (z := r) ix_list (fun H M x y Q hM ⟨t, vs, hv, hS, hA⟩ hy hQ => by
    obtain ⟨v, h1, h2⟩ := atI_all hA hi
    exact ⟨t, vs, i, v, hv, hy, SqL.of (hide_le M H _ _ hS), h1, hQ v H (Ex.refl _) h2⟩) ha hb hs
theorem xe_ixLr {i : Int} (ha : XE X a G (rLr rs)) (hb : XE X b G (rI i)) (hi : atI rs i = some r := by rfl) (hK : X.K = KK.K := by rfl) (hs : PlainIx b := by intro _ _; rfl) : XE X (.Subscript a b pos) G r :=
  xe_ix (p := rLr rs) (q := rI i) (z := r) ix_list (fun H M x y Q hM ⟨t, vs, hv, hS, hA⟩ hy hQ => by
    obtain ⟨v, h1, h2⟩ := atI_all hA hi
    exact ⟨t, vs, i, v, hv, hy, by rw [hK]; exact sqL_mono (hide_le M H) hS, h1, hQ v H (Ex.refl _) h2⟩) ha hb hs
/-! ### slices -/
structure XO (X : Cx) (e : Option Expr) (G : En) (o : Option Int) : Prop where
  to : ∃ t, PO X e t ∧ ∀ (σ : L2.St) (H : Hp) (M : List Addr) (Q : Option Int → Hp → Prop), Kn G M σ H → (∀ H', Ex H H' → Q o H') → t σ H Q
theorem xo_none : XO X none G none := ⟨tNoPart, po_none, fun σ H M Q k hQ => hQ H (Ex.refl _)⟩
theorem xo_some {i : Int} (h : XE X e G (rI i)) : XO X (some e) G (some i) := ⟨_, po_some pe_sem, fun σ H M Q k hQ => h.to σ H M _ k fun v H1 e1 h1 => ⟨i, h1, hQ H1 e1⟩⟩
def cutP (xs : List Vp) (lo hi : Option Int) : List Vp := (xs.drop (HT.sIx xs.length 0 lo)).take (HT.sIx xs.length xs.length hi - HT.sIx xs.length 0 lo)
theorem AllP.cut {H : Hp} {vs : List V} {lo hi : Option Int} (h : AllP H vs rs) : AllP H (cutV vs lo hi) (cutP rs lo hi) := by
  unfold cutV cutP
  rw [h.len]
  exact (h.drop _).take _
theorem cut_whole {xs : List V} {lo hi : Option Int} (h : HT.sIx xs.length 0 lo = 0 ∧ HT.sIx xs.length xs.length hi = xs.length) : cutV xs lo hi = xs := by
  unfold cutV
  rw [h.1, h.2]; simp
theorem xe_slT {lo hi : Option Expr} {l h : Option Int} {p2 : Pos} (ha : XE X a G (rT rs)) (hl : XO X lo G l) (hh : XO X hi G h) (hK : X.K = KK.K := by rfl) : XE X (.Subscript a (.Slice lo hi none p2) pos) G (rT (cutP rs l h)) := by
  obtain ⟨tl, hl1, hl2⟩ := hl.to
  obtain ⟨th, hh1, hh2⟩ := hh.to
  refine XE.of (pe_slice sl_tupA pe_sem hl1 hh1) fun σ H M Q k hQ => ha.to σ H M _ k fun v H1 e1 ⟨t, vs, hv, hS, hA⟩ => hl2 σ H1 M _ (k.ex e1) fun H2 e2 => hh2 σ H2 M _ ((k.ex e1).ex e2) fun H3 e3 => ?_
  have e := (e1.trans e2).trans e3
  have e23 := e2.trans e3
  refine ⟨t, vs, hv, by rw [hK]; exact sqT_mono ((hide_le M H1).trans e23) hS, fun hw => hQ _ _ e ⟨t, vs, rfl, sqT_mono (e23.hide M) hS, ?_⟩, fun _ n hn => hQ _ _ (e.trans (Ex.new hn)) ⟨n, _, rfl, SqT.of (hide_new (k.ex e).mu hn), ?_⟩⟩
  · have := (hA.mono (e23.hide M)).cut (lo := l) (hi := h)
    rw [cut_whole hw] at this
    exact this
  · exact (hA.mono ((e23.trans (Ex.new hn)).hide M)).cut
theorem xe_slL {lo hi : Option Expr} {l h : Option Int} {p2 : Pos} (ha : XE X a G (rL rs)) (hl : XO X lo G l) (hh : XO X hi G h) : XE X (.Subscript a (.Slice lo hi none p2) pos) G (rL (cutP rs l h)) := by
  obtain ⟨tl, hl1, hl2⟩ := hl.to
  obtain ⟨th, hh1, hh2⟩ := hh.to
  refine XE.of (pe_slice sl_list pe_sem hl1 hh1) fun σ H M Q k hQ => ha.to σ H M _ k fun v H1 e1 ⟨t, vs, hv, hS, hA⟩ => hl2 σ H1 M _ (k.ex e1) fun H2 e2 => hh2 σ H2 M _ ((k.ex e1).ex e2) fun H3 e3 => ?_
  have e := (e1.trans e2).trans e3
  have e23 := e2.trans e3
  exact ⟨t, vs, hv, SqL.of (e23 _ _ (hide_le M H1 _ _ hS)), fun n hn => hQ _ _ (e.trans (Ex.new hn)) ⟨n, _, rfl, hide_new (k.ex e).mu hn, (hA.mono ((e23.trans (Ex.new hn)).hide M)).cut⟩⟩
/-! ### lists and tuples put together -/
theorem xe_catT {qs : List Vp} (ha : XE X a G (rT rs)) (hb : XE X b G (rT qs)) (hl : rs.length + qs.length ≤ sizeLine) (hK : X.K = KK.K := by rfl) : XE X (.BinOp a .Add b pos) G (rT (rs ++ qs)) :=
  xe_op (p := rT rs) (q := rT qs) (z := rT (rs ++ qs)) op_catA (fun H M x y Q hM ⟨t, vs, hv, hS, hA⟩ ⟨t', ws, hw, hS', hA'⟩ hQ => by
    have l1 := hA.len
    have l2 := hA'.len
    refine ⟨t, t', vs, ws, hv, hw, by rw [hK]; exact sqT_mono (hide_le M H) hS, by rw [hK]; exact sqT_mono (hide_le M H) hS', by omega, fun h0 => hQ _ H (Ex.refl _) ⟨t', ws, rfl, hS', ?_⟩, fun _ h0 => hQ _ H (Ex.refl _) ⟨t, vs, rfl, hS, ?_⟩, fun _ _ n hn => hQ _ _ (Ex.new hn) ⟨n, _, rfl, SqT.of (hide_new hM hn), (hA.append hA').mono ((Ex.new hn).hide M)⟩⟩
    · have := hA.append hA'
      rw [h0] at this; exact this
    · have := hA.append hA'
      rw [h0, List.append_nil] at this; exact this) ha hb
theorem xe_catL {qs : List Vp} (ha : XE X a G (rL rs)) (hb : XE X b G (rL qs)) (hl : rs.length + qs.length ≤ sizeLine) : XE X (.BinOp a .Add b pos) G (rL (rs ++ qs)) :=
  xe_op (p := rL rs) (q := rL qs) (z := rL (rs ++ qs)) op_cat (fun H M x y Q hM ⟨t, vs, hv, hS, hA⟩ ⟨t', ws, hw, hS', hA'⟩ hQ => by
    have l1 := hA.len
    have l2 := hA'.len
    exact ⟨t, t', vs, ws, hv, hw, hide_le M H _ _ hS, hide_le M H _ _ hS', by omega, fun n hn => hQ _ _ (Ex.new hn) ⟨n, _, rfl, hide_new hM hn, (hA.append hA').mono ((Ex.new hn).hide M)⟩⟩) ha hb
theorem flat_rep1 {α : Type} (v : α) : ∀ n, (List.replicate n [v]).flatten = List.replicate n v
  | 0 => rfl
  | n + 1 => by rw [List.replicate_succ, List.flatten_cons, flat_rep1 v n]; rfl
/-- [x] * n -/
theorem xe_repL {n : Nat} (ha : XE X a G (rL [r])) (hb : XE X b G (rI (n : Int))) (hn : n ≤ 1000) : XE X (.BinOp a .Mult b pos) G (rL (List.replicate n r)) :=
  xe_op (p := rL [r]) (q := rI (n : Int)) (z := rL (List.replicate n r)) op_rep (fun H M x y Q hM ⟨t, vs, hv, hS, hA⟩ hy hQ => by
    obtain ⟨v, hvs, hr⟩ := hA.one
    subst hvs
    refine ⟨t, (n : Int), [v], hv, hy, hide_le M H _ _ hS, by omega, by omega, ?_, fun m hm => hQ _ _ (Ex.new hm) ⟨m, _, rfl, hide_new hM hm, ?_⟩⟩
    · have e : sizeLine = 16777216 := sizeLine_eq
      rw [e]; show 1 * (n : Int).toNat ≤ _; omega
    · rw [show ((n : Int)).toNat = n by omega, flat_rep1]
      exact AllP.replicate (r.mono ((Ex.new hm).hide M) hr) n) ha hb
/-! ### len, abs, max, min, int, tuple, list, all -/
theorem xe_cb {id : String} {r1 : List V → Hp → VK → Prop} (hc : CallR X (.builtin id) r1) (hm : X.mg x = none) (hv : bootBuiltins x = some (.builtin id)) (ha : XA X (e :: es) G rs)
    (hr : ∀ (H : Hp) (M : List Addr) (vs : List V) (Q : VK), (∀ a ∈ M, ∃ o, H a = some o ∧ isM o = true) → AllP (hide M H) vs rs → (∀ v H', Ex H H' → z.p (hide M H') v → Q v H') → r1 vs H Q) (hg : Gl X x := by rfl) (hn : x ≠ "__name__" := by decide) (hdb : (x == ("__debug__" : Str)) = false := by decide)
    (he : starEach (e :: es) X.env = (false, eval e X.env) :: starEach es X.env := by rfl) (hpl : (backTo pos (starEach es X.env)).any (·.1) = false := by rfl) : XE X (.Call (.Name x ps) (e :: es) [] pos) G z :=
  XE.of (pe_callB hc hg hm hv pa_sem hn hdb he hpl) fun σ H M Q k hQ => ha.to σ H M _ k fun vs H1 e1 h1 => hr H1 M vs Q (k.ex e1).mu h1 fun v H2 e2 h2 => hQ v H2 (e1.trans e2) h2
theorem xe_ct {T : String} {r1 : List V → Hp → VK → Prop} (hc : CallR X (.type T) r1) (hm : X.mg x = none) (hv : bootBuiltins x = some (.type T)) (ha : XA X (e :: es) G rs)
    (hr : ∀ (H : Hp) (M : List Addr) (vs : List V) (Q : VK), (∀ a ∈ M, ∃ o, H a = some o ∧ isM o = true) → AllP (hide M H) vs rs → (∀ v H', Ex H H' → z.p (hide M H') v → Q v H') → r1 vs H Q) (hg : Gl X x := by rfl) (hn : x ≠ "__name__" := by decide) (hdb : (x == ("__debug__" : Str)) = false := by decide)
    (he : starEach (e :: es) X.env = (false, eval e X.env) :: starEach es X.env := by rfl) (hpl : (backTo pos (starEach es X.env)).any (·.1) = false := by rfl) : XE X (.Call (.Name x ps) (e :: es) [] pos) G z :=
  XE.of (pe_callTy hc hg hm hv pa_sem hn hdb he hpl) fun σ H M Q k hQ => ha.to σ H M _ k fun vs H1 e1 h1 => hr H1 M vs Q (k.ex e1).mu h1 fun v H2 e2 h2 => hQ v H2 (e1.trans e2) h2
end
end
end TL
/-! Built-ins, kinds, equality, attributes, calls of defs. -/
namespace TL
open PySem PySem.Spec PyProof.Rows L2
section
variable {X : Cx} {a b c e : Expr} {es : List Expr} {G : En} {p q z r : Vp} {rs : List Vp} {pos ps : Pos} {x : Str} [KK]
theorem xe_abs {i : Int} (hm : X.mg "abs" = none) (ha : XE X e G (rI i)) (hg : Gl X "abs" := by rfl) (hs : starEach [e] X.env = [(false, eval e X.env)] := by rfl) : XE X (.Call (.Name "abs" ps) [e] [] pos) G (rI (if i < 0 then -i else i)) :=
  xe_cb call_abs hm (by decide +kernel) (xa_cons ha xa_nil hs) (fun H M vs Q hM h hQ => by
    obtain ⟨v, rfl, hv⟩ := h.one
    exact ⟨i, by rw [show v = .int i from hv], hQ _ H (Ex.refl _) rfl⟩) hg (by decide) (by decide) hs rfl
theorem xe_max2 {i j : Int} (hm : X.mg "max" = none) (ha : XE X a G (rI i)) (hb : XE X b G (rI j)) (hc : X.calm = true := by rfl) (hg : Gl X "max" := by rfl) (hs1 : starEach [a, b] X.env = (false, eval a X.env) :: starEach [b] X.env := by rfl) (hs2 : starEach [b] X.env = [(false, eval b X.env)] := by rfl) : XE X (.Call (.Name "max" ps) [a, b] [] pos) G (rI (if j > i then j else i)) :=
  xe_cb (call_max2 hc) hm (by decide +kernel) (xa_cons ha (xa_cons hb xa_nil hs2) hs1) (fun H M vs Q hM h hQ => by
    obtain ⟨v, u, rfl, hv, hu⟩ := h.two
    exact ⟨i, j, by rw [show v = .int i from hv, show u = .int j from hu], hQ _ H (Ex.refl _) rfl⟩) hg (by decide) (by decide) hs1 (by rw [hs2]; rfl)
theorem xe_min2 {i j : Int} (hm : X.mg "min" = none) (ha : XE X a G (rI i)) (hb : XE X b G (rI j)) (hc : X.calm = true := by rfl) (hg : Gl X "min" := by rfl) (hs1 : starEach [a, b] X.env = (false, eval a X.env) :: starEach [b] X.env := by rfl) (hs2 : starEach [b] X.env = [(false, eval b X.env)] := by rfl) : XE X (.Call (.Name "min" ps) [a, b] [] pos) G (rI (if j < i then j else i)) :=
  xe_cb (call_min2 hc) hm (by decide +kernel) (xa_cons ha (xa_cons hb xa_nil hs2) hs1) (fun H M vs Q hM h hQ => by
    obtain ⟨v, u, rfl, hv, hu⟩ := h.two
    exact ⟨i, j, by rw [show v = .int i from hv, show u = .int j from hu], hQ _ H (Ex.refl _) rfl⟩) hg (by decide) (by decide) hs1 (by rw [hs2]; rfl)
theorem xe_toInt {i : Int} (hm : X.mg "int" = none) (ha : XE X e G (rI i)) (hg : Gl X "int" := by rfl) (hs : starEach [e] X.env = [(false, eval e X.env)] := by rfl) : XE X (.Call (.Name "int" ps) [e] [] pos) G (rI i) :=
  xe_ct call_int1 hm (by decide +kernel) (xa_cons ha xa_nil hs) (fun H M vs Q hM h hQ => by
    obtain ⟨v, rfl, hv⟩ := h.one
    exact .inl ⟨i, by rw [show v = .int i from hv], hQ _ H (Ex.refl _) rfl⟩) hg (by decide) (by decide) hs rfl
theorem xe_toIntB {k : Bool} (hm : X.mg "int" = none) (ha : XE X e G (rB k)) (hg : Gl X "int" := by rfl) (hs : starEach [e] X.env = [(false, eval e X.env)] := by rfl) : XE X (.Call (.Name "int" ps) [e] [] pos) G (rI (if k then 1 else 0)) :=
  xe_ct call_int1 hm (by decide +kernel) (xa_cons ha xa_nil hs) (fun H M vs Q hM h hQ => by
    obtain ⟨v, rfl, hv⟩ := h.one
    exact .inr ⟨k, by rw [show v = .bl k from hv], hQ _ H (Ex.refl _) rfl⟩) hg (by decide) (by decide) hs rfl
def reprB (b : Bool) : Str := if b then "True" else "False"
theorem call_repr_bool : CallR X (.builtin "repr") (fun xs H Q => ∃ b, xs = [.bl b] ∧ Q (.str (reprB b)) H) := by
  intro pins s σ H xs us Q I r h
  obtain ⟨i, rfl, q⟩ := h
  obtain ⟨u, rfl, r1⟩ := vals1 r
  obtain rfl : u = Value.bool i := r1
  exact PySem.P.repr_of_bool ⟨.str _, H, I.tok _, ⟨_, rfl⟩, q⟩
theorem xe_repr {k : Bool} (hm : X.mg "repr" = none) (ha : XE X e G (rB k)) (hg : Gl X "repr" := by rfl) (hs : starEach [e] X.env = [(false, eval e X.env)] := by rfl) : XE X (.Call (.Name "repr" ps) [e] [] pos) G (rS (reprB k)) :=
  xe_cb call_repr_bool hm (by decide +kernel) (xa_cons ha xa_nil hs) (fun H M vs Q hM h hQ => by
    obtain ⟨v, rfl, hv⟩ := h.one
    exact ⟨k, by rw [show v = .bl k from hv], hQ _ H (Ex.refl _) rfl⟩) hg (by decide) (by decide) hs rfl
theorem xe_len (hm : X.mg "len" = none) (ha : XE X e G (rT rs)) (hK : X.K = KK.K := by rfl) (hg : Gl X "len" := by rfl) (hs : starEach [e] X.env = [(false, eval e X.env)] := by rfl) : XE X (.Call (.Name "len" ps) [e] [] pos) G (rI (rs.length : Int)) :=
  xe_cb (z := rI (rs.length : Int)) call_len_seq hm (by decide +kernel) (xa_cons ha xa_nil hs) (fun H M vs Q hM h hQ => by
    obtain ⟨v, rfl, ⟨t, ws, rfl, hS, hA⟩⟩ := h.one
    exact ⟨t, ws, rfl, .inr (by rw [hK]; exact sqT_mono (hide_le M H) hS), hQ _ H (Ex.refl _) (by rw [hA.len]; rfl)⟩) hg (by decide) (by decide) hs rfl
theorem xe_lenL (hm : X.mg "len" = none) (ha : XE X e G (rL rs)) (hg : Gl X "len" := by rfl) (hs : starEach [e] X.env = [(false, eval e X.env)] := by rfl) : XE X (.Call (.Name "len" ps) [e] [] pos) G (rI (rs.length : Int)) :=
  xe_cb (z := rI (rs.length : Int)) call_len_seq hm (by decide +kernel) (xa_cons ha xa_nil hs) (fun H M vs Q hM h hQ => by
    obtain ⟨v, rfl, ⟨t, ws, rfl, hS, hA⟩⟩ := h.one
    exact ⟨t, ws, rfl, .inl (SqL.of (hide_le M H _ _ hS)), hQ _ H (Ex.refl _) (by rw [hA.len]; rfl)⟩) hg (by decide) (by decide) hs rfl
theorem xe_lenLr (hm : X.mg "len" = none) (ha : XE X e G (rLr rs)) (hK : X.K = KK.K := by rfl) (hg : Gl X "len" := by rfl) (hs : starEach [e] X.env = [(false, eval e X.env)] := by rfl) : XE X (.Call (.Name "len" ps) [e] [] pos) G (rI (rs.length : Int)) :=
  xe_cb (z := rI (rs.length : Int)) call_len_seq hm (by decide +kernel) (xa_cons ha xa_nil hs) (fun H M vs Q hM h hQ => by
    obtain ⟨v, rfl, ⟨t, ws, rfl, hS, hA⟩⟩ := h.one
    exact ⟨t, ws, rfl, .inl (by rw [hK]; exact sqL_mono (hide_le M H) hS), hQ _ H (Ex.refl _) (by rw [hA.len]; rfl)⟩) hg (by decide) (by decide) hs rfl
/-- tuple(a list) -/
theorem xe_tuple (hm : X.mg "tuple" = none) (ha : XE X e G (rL rs)) (hg : Gl X "tuple" := by rfl) (hs : starEach [e] X.env = [(false, eval e X.env)] := by rfl) : XE X (.Call (.Name "tuple" ps) [e] [] pos) G (rT rs) :=
  xe_ct (z := rT rs) call_tuple_of hm (by decide +kernel) (xa_cons ha xa_nil hs) (fun H M vs Q hM h hQ => by
    obtain ⟨v, rfl, ⟨t, ws, rfl, hS, hA⟩⟩ := h.one
    exact ⟨t, ws, rfl, .inl ⟨SqL.of (hide_le M H _ _ hS), fun l hl => hQ _ _ (Ex.new hl) ⟨l, ws, rfl, SqT.of (hide_new hM hl), hA.mono ((Ex.new hl).hide M)⟩⟩⟩) hg (by decide) (by decide) hs rfl
/-- list(a tuple) -/
theorem xe_list (hm : X.mg "list" = none) (ha : XE X e G (rT rs)) (hK : X.K = KK.K := by rfl) (hg : Gl X "list" := by rfl) (hs : starEach [e] X.env = [(false, eval e X.env)] := by rfl) : XE X (.Call (.Name "list" ps) [e] [] pos) G (rL rs) :=
  xe_ct (z := rL rs) call_list_of hm (by decide +kernel) (xa_cons ha xa_nil hs) (fun H M vs Q hM h hQ => by
    obtain ⟨v, rfl, ⟨t, ws, rfl, hS, hA⟩⟩ := h.one
    exact ⟨t, ws, rfl, .inr (by rw [hK]; exact sqT_mono (hide_le M H) hS), fun l hl => hQ _ _ (Ex.new hl) ⟨l, ws, rfl, hide_new hM hl, hA.mono ((Ex.new hl).hide M)⟩⟩) hg (by decide) (by decide) hs rfl
theorem bools {H : Hp} : ∀ {bs : List Bool} {vs : List V}, AllP H vs (bs.map rB) → vs = bs.map V.bl
  | [], [], _ => rfl
  | b :: bs, v :: vs, ⟨h, t⟩ => by rw [show v = .bl b from h, bools t]; rfl
  | [], _ :: _, h => h.elim
  | _ :: _, [], h => h.elim
theorem allInts {H : Hp} : ∀ {bs : List Int} {vs : List V}, AllP H vs (bs.map rI) → vs = bs.map V.int
  | [], [], _ => rfl
  | b :: bs, v :: vs, ⟨h, t⟩ => by rw [show v = .int b from h, allInts t]; rfl
  | [], _ :: _, h => h.elim
  | _ :: _, [], h => h.elim
theorem xe_all {bs : List Bool} (hm : X.mg "all" = none) (ha : XE X e G (rL (bs.map rB))) (hc : X.calm = true := by rfl) (hg : Gl X "all" := by rfl) (hs : starEach [e] X.env = [(false, eval e X.env)] := by rfl) : XE X (.Call (.Name "all" ps) [e] [] pos) G (rB (bs.all id)) :=
  xe_cb (z := rB (bs.all id)) (cr_all hc) hm (by decide +kernel) (xa_cons ha xa_nil hs) (fun H M vs Q hM h hQ => by
    obtain ⟨v, rfl, ⟨t, ws, rfl, hS, hA⟩⟩ := h.one
    refine ⟨t, bs, rfl, SqL.of ?_, hQ _ H (Ex.refl _) rfl⟩
    rw [← bools hA]
    exact hide_le M H _ _ hS) hg (by decide) (by decide) hs rfl
/-! ### kinds -/
class HasTy (p : Vp) (t : outParam String) : Prop where
  ty : ∀ H v, p.p H v → TyX KK.K H v (.type t)
instance {i : Int} : HasTy (rI i) "int" := ⟨fun H v h => by rw [show v = .int i from h]; exact .base (.int i)⟩
instance {i : Bool} : HasTy (rB i) "bool" := ⟨fun H v h => by rw [show v = .bl i from h]; exact .base (.bl i)⟩
instance : HasTy rN "NoneType" := ⟨fun H v h => by rw [show v = .non from h]; exact .base .non⟩
instance : HasTy (rT rs) "tuple" := ⟨fun H v ⟨t, vs, hv, hS, hA⟩ => by
  subst hv
  rcases hS with (h | ⟨o, h⟩) | ⟨o, its, n, h, hc, _⟩
  · exact .base (.tup h)
  · exact .fTuple h
  · exact .kTuple h hc⟩
instance : HasTy (rL rs) "list" := ⟨fun H v ⟨t, vs, hv, hS, hA⟩ => by
  subst hv
  exact .base (.lst hS)⟩
theorem xe_ty {T : String} (hm : X.mg x = none) (hv : bootBuiltins x = some (.type T)) (hg : Gl X x := by rfl) (hn : x ≠ "__name__" := by decide) (hd : (x == ("__debug__" : Str)) = false := by decide) : XE X (.Name x pos) G (rTy T) :=
  XE.of (pe_bltn hg hm hv (v := .ty T) rfl hn hd) fun σ H M Q k hQ => hQ _ H (Ex.refl _) rfl
theorem TyX.mono {K : PySem.W.Frag} {H H' : Hp} {v : V} {t : Value} (e : Ex H H') (h : TyX K H v t) : TyX K H' v t := by
  cases h with
  | base h =>
    refine .base ?_
    cases h with
    | non => exact .non
    | bl => exact .bl _
    | int => exact .int _
    | str => exact .str _
    | flt => exact .flt _
    | lst q => exact .lst (e _ _ q)
    | frz q => exact .frz (e _ _ q)
    | tup q => exact .tup (e _ _ q)
    | dK q => exact .dK (e _ _ q)
    | dT q => exact .dT (e _ _ q)
    | ins q c h1 h2 h3 h4 => exact .ins (e _ _ q) c h1 h2 h3 h4
  | byt => exact .byt _
  | set q => exact .set (e _ _ q)
  | kList h c => exact .kList h c
  | kTuple h c => exact .kTuple h c
  | kDict h c => exact .kDict h c
  | fTuple q => exact .fTuple (e _ _ q)
  | fDict q => exact .fDict (e _ _ q)
theorem xe_isi {t T : String} {k : Bool} [h : HasTy p t] (hm : X.mg "isinstance" = none) (ha : XE X a G p) (hb : XE X b G (rTy T)) (hk : L2.kitB t T = some k) (hK : X.K = KK.K := by rfl) (hg : Gl X "isinstance" := by rfl) (hs1 : starEach [a, b] X.env = (false, eval a X.env) :: starEach [b] X.env := by rfl) (hs2 : starEach [b] X.env = [(false, eval b X.env)] := by rfl) : XE X (.Call (.Name "isinstance" ps) [a, b] [] pos) G (rB k) :=
  xe_cb (z := rB k) call_isi hm (by decide +kernel) (xa_cons ha (xa_cons hb xa_nil hs2) hs1) (fun H M vs Q hM h' hQ => by
    obtain ⟨v, u, rfl, hv, hu⟩ := h'.two
    obtain rfl : u = .ty T := hu
    refine ⟨v, .ty T, .type t, .type T, k, rfl, .ty T, ?_, kit_ty hk, hQ _ H (Ex.refl _) rfl⟩
    rw [hK]
    exact TyX.mono (hide_le M H) (h.ty _ _ hv)) hg (by decide) (by decide) hs1 (by rw [hs2]; rfl)
/-! ### == of data -/
class Dt (p : Vp) (d : outParam PyData) : Prop where
  dt : ∀ H v, p.p H v → Dp KK.K H v d
class DtL (rs : List Vp) (ds : outParam (List PyData)) : Prop where
  dt : ∀ H vs, AllP H vs rs → DpAll KK.K H vs ds
instance {i : Int} : Dt (rI i) (.int i) := ⟨fun H v h => by rw [show v = .int i from h]; exact .int i⟩
instance {i : Bool} : Dt (rB i) (.bool i) := ⟨fun H v h => by rw [show v = .bl i from h]; exact .bl i⟩
instance {i : Str} : Dt (rS i) (.str i) := ⟨fun H v h => by rw [show v = .str i from h]; exact .str i⟩
instance : Dt rN .none := ⟨fun H v h => by rw [show v = .non from h]; exact .non⟩
instance {ds : List PyData} [h : DtL rs ds] : Dt (rT rs) (.tuple ds) := ⟨fun H v ⟨t, vs, hv, hS, hA⟩ => by subst hv; exact .tup hS (h.dt H vs hA)⟩
instance {ds : List PyData} [h : DtL rs ds] : Dt (rL rs) (.list ds) := ⟨fun H v ⟨t, vs, hv, hS, hA⟩ => by subst hv; exact .lst (SqL.of hS) (h.dt H vs hA)⟩
instance : DtL [] [] := ⟨fun H vs h => by rw [h.nil]; exact .nil⟩
instance {d : PyData} {ds : List PyData} [h1 : Dt p d] [h2 : DtL rs ds] : DtL (p :: rs) (d :: ds) := ⟨fun H vs h => by
  cases vs with
  | nil => exact h.elim
  | cons v vs => exact .cons (h1.dt H v h.1) (h2.dt H vs h.2)⟩
theorem dtl_map {α : Type} {f : α → Vp} {g : α → PyData} (h : ∀ x, Dt (f x) (g x)) : ∀ (l : List α), DtL (l.map f) (l.map g)
  | [] => (inferInstance : DtL [] [])
  | x :: l => by
    have := h x
    have := dtl_map h l
    show DtL (f x :: l.map f) (g x :: l.map g)
    infer_instance
instance {α : Type} {f : α → Vp} {g : α → PyData} {l : List α} [h : ∀ x, Dt (f x) (g x)] : DtL (l.map f) (l.map g) := dtl_map h l
mutual
theorem Dp.mono {K : PySem.W.Frag} {H H' : Hp} (e : Ex H H') : ∀ {v : V} {d : PyData}, Dp K H v d → Dp K H' v d
  | _, _, .non => .non
  | _, _, .bl b => .bl b
  | _, _, .int i => .int i
  | _, _, .str x => .str x
  | _, _, .lst h t => .lst (sqL_mono e h) (Dp.monos e t)
  | _, _, .tup h t => .tup (sqT_mono e h) (Dp.monos e t)
theorem Dp.monos {K : PySem.W.Frag} {H H' : Hp} (e : Ex H H') : ∀ {v : List V} {d : List PyData}, DpAll K H v d → DpAll K H' v d
  | _, _, .nil => .nil
  | _, _, .cons h t => .cons (Dp.mono e h) (Dp.monos e t)
end
theorem r2_eqD {d d' : PyData} [h1 : Dt p d] [h2 : Dt q d'] (s1 : SeqAt.shaped d = true) (s2 : SeqAt.shaped d' = true) : R2V (rEqD KK.K) p q (rB (PyData.eqv d d')) := fun H M x y Q hM ha hb hQ =>
  ⟨d, d', Dp.mono (hide_le M H) (h1.dt _ _ ha), Dp.mono (hide_le M H) (h2.dt _ _ hb), s1, s2, hQ _ H (Ex.refl _) rfl⟩
theorem r2_neD {d d' : PyData} [h1 : Dt p d] [h2 : Dt q d'] (s1 : SeqAt.shaped d = true) (s2 : SeqAt.shaped d' = true) : R2V (rNeD KK.K) p q (rB (!PyData.eqv d d')) := fun H M x y Q hM ha hb hQ =>
  ⟨d, d', Dp.mono (hide_le M H) (h1.dt _ _ ha), Dp.mono (hide_le M H) (h2.dt _ _ hb), s1, s2, hQ _ H (Ex.refl _) rfl⟩
theorem xt_eqD {k : Nat} {d d' : PyData} [h1 : Dt p d] [h2 : Dt q d'] (hr : Room k X.A) (ha : XE X a G p) (hb : XE X b G q) (s1 : SeqAt.shaped d = true) (s2 : SeqAt.shaped d' = true) (hK : X.K = KK.K := by rfl) : XT X (.Compare a [.Eq] [b] pos) G (PyData.eqv d d') :=
  xt_cmp (r2 := rEqD KK.K) (hK ▸ op_eqD hr.units) (r2_eqD s1 s2) ha hb (nomark _)
theorem xt_neD {k : Nat} {d d' : PyData} [h1 : Dt p d] [h2 : Dt q d'] (hr : Room k X.A) (ha : XE X a G p) (hb : XE X b G q) (s1 : SeqAt.shaped d = true) (s2 : SeqAt.shaped d' = true) (hK : X.K = KK.K := by rfl) : XT X (.Compare a [.NotEq] [b] pos) G (!PyData.eqv d d') :=
  xt_cmp (r2 := rNeD KK.K) (hK ▸ op_neD hr.units) (r2_neD s1 s2) ha hb (nomark _)
theorem xe_eqD {k : Nat} {d d' : PyData} [h1 : Dt p d] [h2 : Dt q d'] (hr : Room k X.A) (ha : XE X a G p) (hb : XE X b G q) (s1 : SeqAt.shaped d = true) (s2 : SeqAt.shaped d' = true) (hK : X.K = KK.K := by rfl) : XE X (.Compare a [.Eq] [b] pos) G (rB (PyData.eqv d d')) :=
  xe_cmp (r2 := rEqD KK.K) (hK ▸ op_eqD hr.units) (r2_eqD s1 s2) ha hb (nomark _)
/-! ### in -/
theorem inV_ints (i : Int) (l : List Int) : inV (.int i) (l.map V.int) = decide (i ∈ l) := by
  induction l with
  | nil => rfl
  | cons j l ih =>
    have e : inV (.int i) ((j :: l).map V.int) = ((j == i) || inV (.int i) (l.map V.int)) := rfl
    rw [e, ih]
    by_cases h : i = j
    · subst h; simp
    · have : (j == i) = false := beq_eq_false_iff_ne.mpr fun z => h z.symm
      rw [this]; simp [h]
theorem flat_ints (l : List Int) : (l.map V.int).all flatV = true := by
  induction l with
  | nil => rfl
  | cons j l ih => exact ih
theorem xt_inT {i : Int} {l : List Int} (ha : XE X a G (rI i)) (hb : XE X b G (rT (l.map rI))) (hK : X.K = KK.K := by rfl) (hm : behindInMarks .In b = false := by rfl) : XT X (.Compare a [.In] [b] pos) G (decide (i ∈ l)) :=
  xt_cmp (q := rT (l.map rI)) op_in_seq (fun H M x y Q hM hx ⟨t, vs, hv, hS, hA⟩ hQ => by
    have := allInts hA
    subst this
    refine ⟨t, _, hv, .inr (by rw [hK]; exact sqT_mono (hide_le M H) hS), by rw [show x = .int i from hx]; rfl, flat_ints l, hQ _ H (Ex.refl _) ?_⟩
    show V.bl _ = V.bl _
    rw [if_neg (by decide), show x = .int i from hx, inV_ints]) ha hb hm
theorem xt_notInL {i : Int} {l : List Int} (ha : XE X a G (rI i)) (hb : XE X b G (rL (l.map rI))) (hm : behindInMarks .NotIn b = false := by rfl) : XT X (.Compare a [.NotIn] [b] pos) G (!decide (i ∈ l)) :=
  xt_cmp (q := rL (l.map rI)) op_notIn_seq (fun H M x y Q hM hx ⟨t, vs, hv, hS, hA⟩ hQ => by
    have := allInts hA
    subst this
    refine ⟨t, _, hv, .inl (SqL.of (hide_le M H _ _ hS)), by rw [show x = .int i from hx]; rfl, flat_ints l, hQ _ H (Ex.refl _) ?_⟩
    show V.bl _ = V.bl _
    rw [if_pos rfl, show x = .int i from hx, inV_ints]) ha hb hm
/-- i not in range(n) -/
def rR (lo hi : Int) : Vp := ⟨fun H v => ∃ a, v = .ref a ∧ H a = some (.rng lo hi), fun e ⟨a, h1, h2⟩ => ⟨a, h1, e _ _ h2⟩⟩
theorem cr_range1 : CallR X (.type "range") (fun vs H Q => ∃ i, vs = [V.int i] ∧ ∀ p, H p = none → Q (.ref p) (upd H p (.rng 0 i))) := by
  intro pins s σ H vs us Q I r h
  obtain ⟨i, rfl, q⟩ := h
  obtain ⟨u1, rfl, ri⟩ := vals1 r
  obtain ⟨t, rfl⟩ := ri
  refine call_range_1 ?_
  exact ⟨.ref s.heap.objs.size, upd H s.heap.objs.size (.rng 0 i), I.laid (t' := s.toks + 2) (fun b o e => Heap.get?_push_of_some _ e) (Nat.le_refl _) ⟨_, t, _, Heap.get?_push_size _ rfl⟩, rfl, q _ (I.hok.fresh (Nat.le_refl _))⟩
theorem xe_range1 {i : Int} (hm : X.mg "range" = none) (ha : XE X e G (rI i)) (hg : Gl X "range" := by rfl) (hs : starEach [e] X.env = [(false, eval e X.env)] := by rfl) : XE X (.Call (.Name "range" ps) [e] [] pos) G (rR 0 i) :=
  xe_ct (z := rR 0 i) cr_range1 hm (by decide +kernel) (xa_cons ha xa_nil hs) (fun H M vs Q hM h hQ => by
    obtain ⟨v, rfl, hv⟩ := h.one
    exact ⟨i, by rw [show v = .int i from hv], fun l hl => hQ _ _ (Ex.new hl) ⟨l, rfl, hide_new hM hl⟩⟩) hg (by decide) (by decide) hs rfl
theorem op_notIn_rng : OpR X (compareOp .NotIn) (fun x y H Q => ∃ i a lo hi, x = V.int i ∧ y = V.ref a ∧ H a = some (.rng lo hi) ∧ Q (.bl (!decide (lo ≤ i ∧ i < hi))) H) := by
  intro pins s σ H x y v u Q I rx ry h
  obtain ⟨i, a, lo, hi, rfl, rfl, ha, q⟩ := h
  obtain ⟨k, rfl⟩ := rx
  obtain rfl : u = Value.ref a := ry
  obtain ⟨t1, t2, t3, ho⟩ := I.hok a _ ha
  show wpAny _ _ (do return Value.bool (!(← contains (Value.ref a) (Value.int i k)))) _ _ s
  refine wpAny_bind (wpAny_contains_slot (T := "range") ⟨_, ho, rfl⟩ F.slot_range_contains (call_meets F.slot_range_contains ⟨_, ho, rfl⟩ F.entry_range_contains (F.args_range_contains_2 _ _) (q_contains a lo hi i t1 t2 t3 k)
    ⟨ho, wpAny_truthy_bool (wpAny_pure ⟨.bl _, H, I, rfl, ?_⟩)⟩))
  rw [place1]
  exact q
theorem xt_notInR {i lo hi : Int} (ha : XE X a G (rI i)) (hb : XE X b G (rR lo hi)) (hm : behindInMarks .NotIn b = false := by rfl) : XT X (.Compare a [.NotIn] [b] pos) G (!decide (lo ≤ i ∧ i < hi)) :=
  xt_cmp (q := rR lo hi) op_notIn_rng (fun H M x y Q hM hx ⟨t, hv, hS⟩ hQ => ⟨i, t, lo, hi, hx, hv, hide_le M H _ _ hS, hQ _ H (Ex.refl _) rfl⟩) ha hb hm
/-! ### (x, ..) * n -/
theorem tuple_mul1 (l : Addr) (items : Array Value) (n : Nat) (dd : Option Addr) (sl : Array (Option Value)) (u : Tok) :
    Meets (Builtin.«tuple.__mul__» ⟨[.ref l, .int 1 u], []⟩) (fun _ R s => s.heap.get? l = some { cls := .type "tuple", dict := dd, data := .seq items n, slots := sl } ∧
      R (.ok (.ret (Value.ref l))) s) :=
  .of_wp fun prog w A R s h => by
    obtain ⟨hp, g, d, tk, os⟩ := s
    obtain ⟨hl, h⟩ := h
    have f1 := AutoSeq1.idx_int
    wp_walk using wpAny_loadPart' hl
    exact ⟨_, rfl, h⟩
def rRepT1 (K : PySem.W.Frag) : R2 := fun x y H Q => ∃ l xs, x = .ref l ∧ y = .int 1 ∧ SqT K H l xs ∧ Q (.ref l) H
theorem op_repT1 : OpR X (binaryOp .Mult) (rRepT1 X.K) := by
  intro pins s σ H x y v u Q I rx ry h
  obtain ⟨l, xs, rfl, rfl, hT, q⟩ := h
  cases rx
  obtain ⟨t, rfl⟩ := ry
  obtain ⟨its, r, ⟨⟨cls, dd, data, sl⟩, ho, hc, n, hd⟩, hs⟩ := I.tuple hT
  simp only at hc hd
  subst hc hd
  refine wpAny_binaryOp_repeat_ref (T := "tuple") (U := "int") (by decide) ⟨_, ho, rfl⟩ (fun s' => typeIs_int s' 1 t) noFill_tuple_mul F.fills_int_mul F.slot_int_rmul repeat_tuple F.slot_int_index.lookup
    (call_meets F.slot_int_rmul (typeIs_int s 1 t) F.entry_int_rmul (F.args_int_rmul_2 _ _) (int_rmul_tuple 1 t l its.toArray n dd sl)
      ⟨ho, rfl, ⟨_, ho, rfl⟩, call_meets F.slot_tuple_mul ⟨_, ho, rfl⟩ F.entry_tuple_mul (F.args_tuple_mul_2 _ _) (tuple_mul1 l its.toArray n dd sl t) ⟨ho, ?_⟩⟩)
  exact ⟨.ref l, H, I, rfl, q⟩
theorem xe_repT {n : Nat} (ha : XE X a G (rT [r])) (hb : XE X b G (rI (n : Int))) (h1 : 1 ≤ n) (h2 : n ≤ 1000) (hK : X.K = KK.K := by rfl) : XE X (.BinOp a .Mult b pos) G (rT (List.replicate n r)) := by
  by_cases h : n = 1
  · subst h
    exact xe_op (p := rT [r]) (q := rI ((1 : Nat) : Int)) (z := rT (List.replicate 1 r)) op_repT1 (fun H M x y Q hM ⟨t, vs, hv, hS, hA⟩ hy hQ =>
      ⟨t, vs, hv, hy, by rw [hK]; exact sqT_mono (hide_le M H) hS, hQ _ H (Ex.refl _) ⟨t, vs, rfl, hS, hA⟩⟩) ha hb
  · exact xe_op (p := rT [r]) (q := rI (n : Int)) (z := rT (List.replicate n r)) op_repT (fun H M x y Q hM ⟨t, vs, hv, hS, hA⟩ hy hQ => by
      obtain ⟨v, hvs, hr⟩ := hA.one
      subst hvs
      refine ⟨t, (n : Int), [v], hv, hy, by rw [hK]; exact sqT_mono (hide_le M H) hS, by simp, by omega, by omega, by simp, fun m hm => hQ _ _ (Ex.new hm) ⟨m, _, rfl, SqT.of (hide_new hM hm), ?_⟩⟩
      rw [show ((n : Int)).toNat = n by omega, flat_rep1]
      exact AllP.replicate (r.mono ((Ex.new hm).hide M) hr) n) ha hb
/-! ### objects with slots -/
/-- an instance of the class at C, finished; what its slots hold -/
def rO (C : Addr) (fs : En) : Vp := ⟨fun H v => ∃ a dx vs, v = .ref a ∧ H a = some (SlX.SlO a C dx vs) ∧ H dx = some (.xd []) ∧ ∀ (i : Nat) (r : Vp), fs[i]? = some (some r) → ∃ u, vs[i]? = some (some u) ∧ r.p H u,
  fun e ⟨a, dx, vs, h1, h2, h3, h4⟩ => ⟨a, dx, vs, h1, e _ _ h2, e _ _ h3, fun i r h => let ⟨u, h5, h6⟩ := h4 i r h; ⟨u, h5, r.mono e h6⟩⟩⟩
theorem xe_sl {C d : Addr} {fs : En} {f : Str} (i : Nat) (hc : SlX.SCls KK.K C) (hs : SlX.Slot1 KK.K C f d i) (ha : XE X a G (rO C fs)) (hf : fs[i]? = some (some r) := by rfl) (hK : X.K = KK.K := by rfl) (hb : attributeBase a f X.env (eval a X.env) = eval a X.env := by rfl) : XE X (.Attribute a f pos) G r :=
  XE.of (SlX.pe_sl pe_sem hb) fun σ H M Q k hQ => ha.to σ H M _ k fun v H1 e1 ⟨p, dx, vs, h1, h2, h3, h4⟩ => by
    obtain ⟨u, h5, h6⟩ := h4 i r hf
    exact ⟨p, C, dx, d, vs, i, u, h1, .inr ⟨hide_le M H1 _ _ h2, hide_le M H1 _ _ h3⟩, by rw [hK]; exact hc, by rw [hK]; exact hs, h5, hQ u H1 e1 h6⟩
/-- isinstance(x, C), x such an instance -/
theorem xe_isiO {C : Addr} {fs : En} {k : Bool} (hm : X.mg "isinstance" = none) (ha : XE X a G (rO C fs)) (hb : XE X b G (rA C)) (hc : SlX.SCls KK.K C) (hi : SlX.SIsi KK.K C) (hk : PySem.W.kitOne KK.K (.ref C) (.ref C) = some k) (hK : X.K = KK.K := by rfl) (hg : Gl X "isinstance" := by rfl)
    (hs1 : starEach [a, b] X.env = (false, eval a X.env) :: starEach [b] X.env := by rfl) (hs2 : starEach [b] X.env = [(false, eval b X.env)] := by rfl) : XE X (.Call (.Name "isinstance" ps) [a, b] [] pos) G (rB k) :=
  xe_cb (z := rB k) (SlX.call_isiSl (.ref C)) hm (by decide +kernel) (xa_cons ha (xa_cons hb xa_nil hs2) hs1) (fun H M vs Q hM h' hQ => by
    obtain ⟨v, u, rfl, ⟨p, dx, ws, h1, h2, h3, h4⟩, hu⟩ := h'.two
    obtain rfl : u = .ref C := hu
    subst h1
    exact ⟨p, C, dx, ws, .ref C, k, rfl, rfl, fun w hw => hw, .inr ⟨hide_le M H _ _ h2, hide_le M H _ _ h3⟩, by rw [hK]; exact hc, by rw [hK]; exact hi, by rw [hK]; exact hk, hQ _ H (Ex.refl _) rfl⟩) hg (by decide) (by decide) hs1 (by rw [hs2]; rfl)
/-! ### calls -/
/-- what a def that only reads is worth: S tells the answer of what is handed in -/
def spF (S : List Vp → Vp → Prop) : Sp := fun vs H Q _ => ∃ M rs r, (∀ a ∈ M, ∃ o, H a = some o ∧ isM o = true) ∧ S rs r ∧ AllP (hide M H) vs rs ∧ ∀ v H', Ex H H' → r.p (hide M H') v → Q v H'
section
variable (P : Program) (w : World) (mg : Str → Option Value) (base : Heap)
structure Fn (x : Str) (k : Nat) (sp : Sp) : Prop where
  ex : ∃ f fd ps', FnOk P w KK.K mg base CX0 k f fd ps' sp ∧ mg x = some (.ref f) ∧ PySem.W.keepIn KK.K (.ref f) = true ∧ Binds KK.K fd ps' []
end
theorem xe_call {S : List Vp → Vp → Prop} {j k : Nat} (F : Fn X.prog X.w X.mg X.base x j (spF S)) (hr : Room k X.A) (ha : XA X (e :: es) G rs) (hS : S rs r) (hj : j ≤ k := by decide) (hg : Gl X x := by rfl) (hK : X.K = KK.K := by rfl) (hdb : (x == ("__debug__" : Str)) = false := by decide)
    (he : starEach (e :: es) X.env = (false, eval e X.env) :: starEach es X.env := by rfl) (hpl : (backTo pos (starEach es X.env)).any (·.1) = false := by rfl) : XE X (.Call (.Name x ps) (e :: es) [] pos) G r := by
  obtain ⟨f, fd, ps', h1, h2, h3, h4⟩ := F.ex
  rw [← hK] at h1 h3 h4
  refine XE.of (pe_call h1 (hr.mono hj) hg h2 h3 h4 .nil pass0 pa_sem hdb he hpl) fun σ H M Q kn hQ => ha.to σ H M _ kn fun vs H1 e1 hA => ?_
  exact ⟨M, rs, r, (kn.ex e1).mu, hS, by rw [List.append_nil]; exact hA, fun v H2 e2 h => hQ v H2 (e1.trans e2) h⟩
end
end TL
/-! enumerate of a tuple; zip of a list and a tuple. -/
namespace TL
open PySem PySem.Spec PyProof.Rows L2
theorem plain_isList {h : Heap} {a : Addr} {its : Array Value} (p : PlainL h a its) : h.IsList a its := p.isList
/-! ### enumerate(tuple) -/
def IteT (K : PySem.W.Frag) (a : Addr) : It :=
  ⟨fun i H => ∃ (xs : List V) (x : V), SqT K H a xs ∧ xs[i]? = some x, fun i H v H' => ∃ T x, v = .ref T ∧ H T = none ∧ H' = upd H T (.tup [.int (i : Nat), x]) ∧ ∀ xs, SqT K H a xs → xs[i]? = some x, fun i H => ∃ xs : List V, SqT K H a xs ∧ xs.length = i⟩
theorem turn_enumT {P : Program} {w : World} {K : PySem.W.Frag} {elts : List Expr} {kk : Nat} {tpos : Pos} (a e it : Addr) (hae : a ≠ e) (hai : a ≠ it) :
    Turn P w K (.Tuple elts kk tpos) (IteT K a) [e, it] e (fun i h => (∃ old, IsEnum h e it ((i : Nat) : Int) old) ∧ h.IsTupleIter it a i ∧ e ≠ it) where
  mem := by simp
  obj := fun i h st b hb => by
    obtain ⟨⟨old, he⟩, ⟨o, ho, hc, hd⟩, _⟩ := st
    have e' : b = e ∨ b = it := by simpa using hb
    rcases e' with z | z
    · rw [z]; exact ⟨_, he, fun v q => nomatch q⟩
    · rw [z]; exact ⟨o, ho, fun v q => by rw [hd] at q; cases q⟩
  keep := fun i h h' st k => let ⟨⟨old, he⟩, hi, hne⟩ := st; ⟨⟨old, k e (by simp) _ he⟩, hi.at fun o q => k it (by simp) o q, hne⟩
  item := by
    intro X hP hw hK hc i pins s σ H E I hf st hg
    subst hP hw hK
    obtain ⟨⟨old, he⟩, hit, hne⟩ := st
    obtain ⟨xs, x, hq, hx⟩ := hg
    obtain ⟨its, rv, p, hz⟩ := I.tuple hq
    obtain ⟨u, hu, ru⟩ := rv.get hx
    have hel : e < s.heap.objs.size := Heap.lt_size he
    have hil : it < s.heap.objs.size := by obtain ⟨_, q, _⟩ := hit; exact Heap.lt_size q
    have hlen : i < its.toArray.size := by
      have := (List.getElem?_eq_some_iff.mp hu).1
      simpa using this
    refine wpAny_pyNext_enum_itemD (Draws.tuple (show X.A.in1.handled = none from I.ok.hd hc) it a hai its.toArray) he ⟨hit, p⟩ hlen hne (by simp [hne, Ne.symm hae]) fun x' h' tk hPx ho hst hT hsz hk => ?_
    have ex : x' = u := by
      have h1 : its.toArray[i]? = some x' := hPx
      rw [show its.toArray[i]? = some u by simpa using hu] at h1
      exact (Option.some.inj h1).symm
    subst ex
    obtain ⟨hit', _⟩ := hst
    refine ⟨_, rfl, wpAny_letOwnedTupleGo_enum (s := { s with heap := h', toks := tk + 1 }) ho fun h'' he' sb => ?_⟩
    have hT2 : h''.get? s.heap.objs.size = some { cls := .type "tuple", data := .seq #[.int i tk, x'] } := (sb.2 _ (Nat.ne_of_gt hel)).trans hT
    have new : ObjOk X.prog X.w (upd H s.heap.objs.size (.tup [.int (i : Nat), x])) h'' s.heap.objs.size (.tup [.int (i : Nat), x]) :=
      ⟨by show 2 ≤ sizeLine; decide, [.int i tk, x'], .cons ⟨_, rfl⟩ (.cons ru .nil), ⟨_, hT2, rfl, _, rfl⟩⟩
    have I1 : Inv X pins σ (upd H s.heap.objs.size (.tup [.int (i : Nat), x])) { s with heap := h'', toks := tk + 1 } :=
      I.turnedNew (ch := [e, it]) (fun b ob hb q => (sb.2 b (fun z => hb (by simp [z]))).trans (hk b ob (fun z => hb (by simp [z])) (fun z => hb (by simp [z])) q)) hf (Nat.le_refl _) new
    refine ⟨.ref s.heap.objs.size, _, I1, rfl, ⟨_, x, rfl, I.hok.fresh (Nat.le_refl _), rfl, fun ys hy => by rw [I.tuple_inj hy hq]; exact hx⟩, ⟨⟨x', ?_⟩, hit'.at fun o q => (sb.2 it (Ne.symm hne)).trans q, hne⟩, fun b hb => ?_⟩
    · have e1 : ((i + 1 : Nat) : Int) = (i : Int) + 1 := by omega
      rw [e1]; exact he'
    · have hb' : b < s.heap.objs.size := by
        have e' : b = e ∨ b = it := by simpa using hb
        rcases e' with z | z
        · rw [z]; exact hel
        · rw [z]; exact hil
      rw [upd_ne (Nat.ne_of_lt hb')]
      exact (hf b hb).1
  done := by
    intro X hP hw hK hc i pins s σ H E I hf st hg
    subst hP hw hK
    obtain ⟨⟨old, he⟩, hit, hne⟩ := st
    obtain ⟨xs, hq, hx⟩ := hg
    obtain ⟨its, rv, p, hz⟩ := I.tuple hq
    obtain ⟨f0, f1, f2, f3, f4, f5⟩ := hf it (by simp)
    have hl := rv.length
    have hsz : its.toArray.size = i := by rw [List.size_toArray]; omega
    refine wpAny_pyNext_enum_endD (Draws.tuple (show X.A.in1.handled = none from I.ok.hd hc) it a hai its.toArray) he ⟨by rw [hsz]; exact hit, p⟩ fun h' eb => ⟨rfl, I.turned (t' := s.toks) (fun b o hb q => eb b o hb q) f0 f1 f3 f4 f5⟩
  self := fun A i s Q E st h => let ⟨⟨_, he⟩, _⟩ := st; wpAny_pyIter_enum he h
theorem meets_enumerate_newT (t : Addr) (items : Array Value) :
    Meets (Builtin.«enumerate.__new__» ⟨[.type "enumerate", .ref t], []⟩) (fun _ R s => s.heap.IsTuple t items ∧
      R (.ok (.ret (.ref (s.heap.push { cls := .type "tuple_iterator", data := .fields #[.ref t, .int 0 0] }).objs.size)))
        { s with heap := (s.heap.push { cls := .type "tuple_iterator", data := .fields #[.ref t, .int 0 0] }).push { cls := .type "enumerate", data := .fields #[.none, .bool false, .ref s.heap.objs.size, rawInt 0, .none, .none] } }) :=
  .of_wp fun prog w A R s h => by
    obtain ⟨hp, g, d, tk, os⟩ := s
    obtain ⟨hl, h⟩ := h
    have hsub := sub_enumerate
    have hL : Heap.IsTuple (Shared.heap ⟨hp, g, d, tk, os⟩) t items := hl
    obtain ⟨ot, hot, hct, n, hdt⟩ := id hl
    wp_walk using wpAny_loadPart' hot
    refine wpAny_stack_any fun st => wpAny_pure ?_
    split
    · rename_i c _ _ _ _ _
      cases (c == Value.type "enumerate")
      · wp_walk using wpAny_loadPart' hot, wpAny_pyIter_tuple hL
        exact ⟨_, rfl, h⟩
      · wp_walk using wpAny_loadPart' hot, wpAny_pyIter_tuple hL
        exact ⟨_, rfl, h⟩
    · wp_walk using wpAny_loadPart' hot, wpAny_pyIter_tuple hL
      exact ⟨_, rfl, h⟩
theorem call_enumerate_tuple {prog : Program} {w : World} {A : Around} {E : Value → Shared → Prop} {s : Shared} {l : Addr} {items : Array Value} {Q : Value → Shared → Prop} (hL : s.heap.IsTuple l items)
    (h : ∀ h', IsEnum h' (s.heap.objs.size + 1) s.heap.objs.size 0 .none → h'.IsTupleIter s.heap.objs.size l 0 → h'.objs.size = s.heap.objs.size + 2 →
      (∀ b o, s.heap.get? b = some o → h'.get? b = some o) → Q (.ref (s.heap.objs.size + 1)) { s with heap := h' }) :
    wpAny (model prog w) A (call (.type "enumerate") [.ref l]) Q E s := by
  refine callType_new F.called_enumerate (by decide) (F.typeCall_enumerate_1 _) (F.newCall_enumerate_1 _) (fun obj => F.args_object_init_2 obj _) F.entry_enumerate_new
    (meets_enumerate_newT l items) ⟨hL, ?_⟩
  have hz : (s.heap.push { cls := .type "tuple_iterator", data := .fields #[.ref l, .int 0 0] }).objs.size = s.heap.objs.size + 1 := Heap.size_push ..
  show _ ∧ _
  rw [hz]
  have he : IsEnum ((s.heap.push { cls := .type "tuple_iterator", data := .fields #[.ref l, .int 0 0] }).push
      { cls := .type "enumerate", data := .fields #[.none, .bool false, .ref s.heap.objs.size, rawInt 0, .none, .none] }) (s.heap.objs.size + 1) s.heap.objs.size 0 .none := by
    have := Heap.get?_push_size (s.heap.push { cls := .type "tuple_iterator", data := .fields #[.ref l, .int 0 0] })
      (o := { cls := .type "enumerate", data := .fields #[.none, .bool false, .ref s.heap.objs.size, rawInt 0, .none, .none] }) rfl
    rw [hz] at this; exact this
  refine ⟨⟨_, he, rfl⟩, h _ he ⟨_, Heap.get?_push_of_some _ (Heap.get?_push_size _ rfl), rfl, rfl⟩ (by rw [Heap.size_push, hz]) fun b o x => Heap.get?_push_of_some _ (Heap.get?_push_of_some _ x)⟩
def iEnumT (K : PySem.W.Frag) (ta : TA) : TI := fun σ H R => ta σ H fun vs H1 => ∃ a xs, vs = [.ref a] ∧ SqT K H1 a xs ∧ R (IteT K a) H1
theorem pi_enumT {X : Cx} {e : Expr} {ta : TA} {p pos tpos : Pos} {elts : List Expr} {kk : Nat} (hg : Gl X "enumerate") (hm : X.mg "enumerate" = none) (ha : PA X [e] ta) (hs : starEach [e] X.env = [(false, eval e X.env)] := by rfl) :
    PI X (.Tuple elts kk tpos) (.Call (.Name "enumerate" p) [e] [] pos) (iEnumT X.K ta) := by
  refine ⟨fun pins s σ H R I h => ?_⟩
  refine Call_ (ld_blt I hg hm boot_enumerate (PyProof.Rows.callWith_type1 (thn (ha.run pos pins s σ H _ I h) fun us s1 ⟨vs, H1, I1, r1, q1⟩ => ?_) hs rfl))
  obtain ⟨a, xs, ex, hq, q⟩ := q1
  subst ex
  cases r1 with
  | cons r rr =>
    cases rr
    cases r
    obtain ⟨its, rv, p', hz⟩ := I1.tuple hq
    have hal : a < s1.heap.objs.size := p'.lt
    refine call_enumerate_tuple p' fun h' he hit hsz hk => wpAny_pyIter_enum he ?_
    have I2 : Inv X pins σ H1 { s1 with heap := h' } := I1.kept (t' := s1.toks) hk
    refine ⟨s1.heap.objs.size + 1, [s1.heap.objs.size + 1, s1.heap.objs.size], _, _, H1, rfl, I2, turn_enumT a (s1.heap.objs.size + 1) s1.heap.objs.size (Nat.ne_of_lt (Nat.lt_succ_of_lt hal)) (Nat.ne_of_lt hal), ⟨⟨.none, he⟩, hit, Nat.succ_ne_self _⟩, fun b hb => ?_, q⟩
    have e' : b = s1.heap.objs.size + 1 ∨ b = s1.heap.objs.size := by simpa using hb
    have hle : s1.heap.objs.size ≤ b := by
      rcases e' with z | z
      · rw [z]; exact Nat.le_add_right _ _
      · rw [z]; exact Nat.le_refl _
    exact I1.fpOk hle (I1.hok.fresh hle)
/-! ### zip(list, tuple) -/
def ItzM (K : PySem.W.Frag) (a b : Addr) : It :=
  ⟨fun i H => ∃ (xs ys : List V) (x y : V), SqL K H a xs ∧ SqT K H b ys ∧ xs[i]? = some x ∧ ys[i]? = some y,
    fun i H v H' => ∃ T x y, v = .ref T ∧ H T = none ∧ H' = upd H T (.tup [x, y]) ∧ (∀ xs, SqL K H a xs → xs[i]? = some x) ∧ ∀ ys, SqT K H b ys → ys[i]? = some y,
    fun i H => ∃ xs ys : List V, SqL K H a xs ∧ SqT K H b ys ∧ i ≤ xs.length ∧ i ≤ ys.length ∧ (i = xs.length ∨ i = ys.length)⟩
theorem sep_of {z TI TO i1 i2 a b : Addr} (D : ZipApart z TI TO i1 i2 a b) : ZipSep2 z TI TO i1 i2 [i1, a] [i2, b] where
  TIz := D.TIz
  TOz := D.TOz
  TITO := D.TITO
  TIi1 := D.TIi1
  mem1 := by simp
  zf1 := by simp [Ne.symm D.i1z, Ne.symm D.l1z]
  Tf1 := by simp [D.TOi1, Ne.symm D.l1TO]
  TIi2 := D.TIi2
  mem2 := by simp
  zf2 := by simp [Ne.symm D.i2z, Ne.symm D.l2z]
  Tf2 := by simp [D.TOi2, Ne.symm D.l2TO]
  sep1_2 := by simp [D.i12, Ne.symm D.l2i1]
  sep2_1 := by simp [Ne.symm D.i12, Ne.symm D.l1i2]
theorem turn_zipM {P : Program} {w : World} {K : PySem.W.Frag} {elts : List Expr} {kk : Nat} {tpos : Pos} {a b z TI TO i1 i2 : Addr} (D : ZipApart z TI TO i1 i2 a b) :
    Turn P w K (.Tuple elts kk tpos) (ItzM K a b) [z, TI, TO, i1, i2] z (fun i h => IsZip h z TI TO .none ∧ IsPair h TI (.ref i1) (.ref i2) ∧ (∃ x y, IsPair h TO x y) ∧ h.IsListIter i1 a i ∧ h.IsTupleIter i2 b i) where
  mem := by simp
  obj := fun i h st c hc => by
    obtain ⟨hz, hTI, ⟨x, y, hTO⟩, ⟨o1, e1, _, d1⟩, ⟨o2, e2, _, d2⟩⟩ := st
    have e' : c = z ∨ c = TI ∨ c = TO ∨ c = i1 ∨ c = i2 := by simpa using hc
    rcases e' with q | q | q | q | q
    · rw [q]; exact ⟨_, hz, fun v q => nomatch q⟩
    · rw [q]; exact ⟨_, hTI, fun v q => nomatch q⟩
    · rw [q]; exact ⟨_, hTO, fun v q => nomatch q⟩
    · rw [q]; exact ⟨o1, e1, fun v q => by rw [d1] at q; cases q⟩
    · rw [q]; exact ⟨o2, e2, fun v q => by rw [d2] at q; cases q⟩
  keep := fun i h h' st k => by
    obtain ⟨hz, hTI, ⟨x, y, hTO⟩, h1, h2⟩ := st
    exact ⟨k z (by simp) _ hz, k TI (by simp) _ hTI, ⟨x, y, k TO (by simp) _ hTO⟩, h1.at fun o q => k i1 (by simp) o q, h2.at fun o q => k i2 (by simp) o q⟩
  item := by
    intro X hP hw hK hc i pins s σ H E I hf st hg
    subst hP hw hK
    obtain ⟨hz, hTI, ⟨x0, y0, hTO⟩, h1, h2⟩ := st
    obtain ⟨xs, ys, x, y, hqx, hqy, hx, hy⟩ := hg
    obtain ⟨its, rv, p, _⟩ := I.list hqx
    obtain ⟨its2, rv2, p2, _⟩ := I.tuple hqy
    obtain ⟨u, hu, ru⟩ := rv.get hx
    obtain ⟨u2, hu2, ru2⟩ := rv2.get hy
    have hzl : z < s.heap.objs.size := Heap.lt_size hz
    have hlen1 : i < its.toArray.size := by
      have := (List.getElem?_eq_some_iff.mp hu).1
      simpa using this
    have hlen2 : i < its2.toArray.size := by
      have := (List.getElem?_eq_some_iff.mp hu2).1
      simpa using this
    refine wpAny_pyNext_zipD2_item (sep_of D) (Draws.list (show X.A.in1.handled = none from I.ok.hd hc) i1 a D.l1i1 its.toArray) (Draws.tuple (show X.A.in1.handled = none from I.ok.hd hc) i2 b D.l2i2 its2.toArray) hz hTI hTO ⟨h1, p.isList⟩ ⟨h2, p2⟩ hlen1 hlen2 fun x1 x2 h' tk P1 P2 z' TO' s1' s2' hT hsz hk => ?_
    have ex1 : x1 = u := by
      have q : its.toArray[i]? = some x1 := P1
      rw [show its.toArray[i]? = some u by simpa using hu] at q
      exact (Option.some.inj q).symm
    have ex2 : x2 = u2 := by
      have q : its2.toArray[i]? = some x2 := P2
      rw [show its2.toArray[i]? = some u2 by simpa using hu2] at q
      exact (Option.some.inj q).symm
    subst ex1 ex2
    obtain ⟨h1', _⟩ := s1'
    obtain ⟨h2', _⟩ := s2'
    refine ⟨_, rfl, wpAny_letOwnedTupleGo_zip (s := { s with heap := h', toks := tk }) z' fun h'' z'' sb => ?_⟩
    have hT2 : h''.get? s.heap.objs.size = some { cls := .type "tuple", data := .seq #[x1, x2] } := (sb.2 _ (Nat.ne_of_gt hzl)).trans hT
    have new : ObjOk X.prog X.w (upd H s.heap.objs.size (.tup [x, y])) h'' s.heap.objs.size (.tup [x, y]) :=
      ⟨by show 2 ≤ sizeLine; decide, [x1, x2], .cons ru (.cons ru2 .nil), ⟨_, hT2, rfl, _, rfl⟩⟩
    have I1 : Inv X pins σ (upd H s.heap.objs.size (.tup [x, y])) { s with heap := h'', toks := tk } :=
      I.turnedNew (t' := tk) (ch := [z, TI, TO, i1, i2]) (fun c o hb q => (sb.2 c (fun q' => hb (by simp [q']))).trans (hk c o (fun q' => hb (by simp [q'])) (fun q' => hb (by simp [q'])) (fun q' => hb (by simp [q'])) (fun q' => hb (by simp [q'])) q)) hf (Nat.le_refl _) new
    refine ⟨.ref s.heap.objs.size, _, I1, rfl, ⟨_, x, y, rfl, I.hok.fresh (Nat.le_refl _), rfl, fun l hl => by rw [I.list_inj hl hqx]; exact hx, fun l hl => by rw [I.tuple_inj hl hqy]; exact hy⟩, ⟨z'', ?_, ⟨x1, x2, ?_⟩, ?_, ?_⟩, fun c hcm => ?_⟩
    · exact (sb.2 _ D.TIz).trans (hk _ _ D.TIz D.TITO D.TIi1 D.TIi2 hTI)
    · exact (sb.2 _ D.TOz).trans TO'
    · exact h1'.at fun o q => (sb.2 _ D.i1z).trans q
    · exact h2'.at fun o q => (sb.2 _ D.i2z).trans q
    · have hlt : c < s.heap.objs.size := by
        have e' : c = z ∨ c = TI ∨ c = TO ∨ c = i1 ∨ c = i2 := by simpa using hcm
        rcases e' with q | q | q | q | q
        · rw [q]; exact hzl
        · rw [q]; exact Heap.lt_size hTI
        · rw [q]; exact Heap.lt_size hTO
        · rw [q]; obtain ⟨_, e1, _⟩ := h1; exact Heap.lt_size e1
        · rw [q]; obtain ⟨_, e2, _⟩ := h2; exact Heap.lt_size e2
      rw [upd_ne (Nat.ne_of_lt hlt)]
      exact (hf c hcm).1
  done := by
    intro X hP hw hK hc i pins s σ H E I hf st hg
    subst hP hw hK
    obtain ⟨hz, hTI, ⟨x0, y0, hTO⟩, h1, h2⟩ := st
    obtain ⟨xs, ys, hqx, hqy, hi1, hi2, hend⟩ := hg
    obtain ⟨its, rv, p, _⟩ := I.list hqx
    obtain ⟨its2, rv2, p2, _⟩ := I.tuple hqy
    have l1 := rv.length
    have l2 := rv2.length
    have e1 : its.toArray.size = xs.length := by rw [List.size_toArray]; omega
    have e2 : its2.toArray.size = ys.length := by rw [List.size_toArray]; omega
    refine wpAny_pyNext_zipD2_end (sep_of D) (Draws.list (show X.A.in1.handled = none from I.ok.hd hc) i1 a D.l1i1 its.toArray) (Draws.tuple (show X.A.in1.handled = none from I.ok.hd hc) i2 b D.l2i2 its2.toArray) hz hTI hTO ⟨h1, p.isList⟩ ⟨h2, p2⟩ (by omega) (by omega) (by omega) fun h' tk hk => ⟨rfl, ?_⟩
    exact I.turnedL (t' := tk) (ch := [z, TI, TO, i1, i2]) (fun c o hb q => hk c o (fun q' => hb (by simp [q'])) (fun q' => hb (by simp [q'])) (fun q' => hb (by simp [q'])) (fun q' => hb (by simp [q'])) q) hf
  self := fun A i s Q E st h => let ⟨hz, _⟩ := st; wpAny_pyIter_zip hz h
def iZipM (K : PySem.W.Frag) (ta : TA) : TI := fun σ H R => ta σ H fun vs H1 => ∃ a b xs ys, vs = [.ref a, .ref b] ∧ SqL K H1 a xs ∧ SqT K H1 b ys ∧ R (ItzM K a b) H1
theorem pi_zipM {X : Cx} {e e2 : Expr} {ta : TA} {p pos tpos : Pos} {elts : List Expr} {kk : Nat} (hg : Gl X "zip") (hm : X.mg "zip" = none) (ha : PA X [e, e2] ta)
    (hs : starEach [e, e2] X.env = (false, eval e X.env) :: starEach [e2] X.env := by rfl) (hpl : (backTo pos (starEach [e2] X.env)).any (·.1) = false := by rfl) :
    PI X (.Tuple elts kk tpos) (.Call (.Name "zip" p) [e, e2] [] pos) (iZipM X.K ta) := by
  refine ⟨fun pins s σ H R I h => ?_⟩
  refine Call_ (ld_blt I hg hm PyProof.Rows.boot_zip (PyProof.Rows.callWith_type1 (thn (ha.run pos pins s σ H _ I h) fun us s1 ⟨vs, H1, I1, r1, q1⟩ => ?_) hs hpl))
  obtain ⟨a, b, xs, ys, ex, hqx, hqy, q⟩ := q1
  subst ex
  cases r1 with
  | cons r rr =>
    cases rr with
    | cons r' rr =>
      cases rr
      cases r
      cases r'
      have fresh5 : ∀ c, c ∈ [s1.heap.objs.size + 4, s1.heap.objs.size + 2, s1.heap.objs.size + 3, s1.heap.objs.size, s1.heap.objs.size + 1] → FpOk X pins H1 c := fun c hcm => by
        have e' : c = s1.heap.objs.size + 4 ∨ c = s1.heap.objs.size + 2 ∨ c = s1.heap.objs.size + 3 ∨ c = s1.heap.objs.size ∨ c = s1.heap.objs.size + 1 := by simpa using hcm
        have hle : s1.heap.objs.size ≤ c := by
          rcases e' with z | z | z | z | z
          · rw [z]; exact Nat.le_add_right _ _
          · rw [z]; exact Nat.le_add_right _ _
          · rw [z]; exact Nat.le_add_right _ _
          · rw [z]; exact Nat.le_refl _
          · rw [z]; exact Nat.le_add_right _ _
        exact I1.fpOk hle (I1.hok.fresh hle)
      obtain ⟨its, rv, p1, _⟩ := I1.list hqx
      obtain ⟨its2, rv2, p2, _⟩ := I1.tuple hqy
      refine zip_begins2 (begins_list a its.toArray) (begins_tuple b its2.toArray) p1.isList p2 fun h' hz hTI hTO h1 h2 hsz hk => wpAny_pyIter_zip hz ?_
      have I2 : Inv X pins σ H1 { s1 with heap := h' } := I1.kept (t' := s1.toks) hk
      exact ⟨s1.heap.objs.size + 4, [s1.heap.objs.size + 4, s1.heap.objs.size + 2, s1.heap.objs.size + 3, s1.heap.objs.size, s1.heap.objs.size + 1], _, _, H1, rfl, I2, turn_zipM (PySem.W.ktu_apart s1.heap.objs.size a b p1.lt p2.lt), ⟨hz, hTI, ⟨_, _, hTO⟩, ⟨_, h1, rfl, rfl⟩, ⟨_, h2, rfl, rfl⟩⟩, fresh5, q⟩
end TL
/-! Targets, what is walked, comprehensions. -/
namespace TL
open PySem PySem.Spec PyProof.Rows L2
/-! ### targets -/
structure XG (X : Cx) (tg : Expr) (p : Vp) (G G' : En) (ts : List Nat) : Prop where
  len : G'.length = G.length
  to : ∀ (σ : L2.St) (H : Hp) (M : List Addr) (v : V) (Q : L2.St → Hp → Prop), Kn G M σ H → p.p (hide M H) v → (∀ σ', Kn G' M σ' H → (∀ j, j ∉ ts → σ'[j]? = σ[j]?) → Q σ' H) → semG X tg v σ H Q
structure XGs (X : Cx) (tgs : List Expr) (rs : List Vp) (G G' : En) (ts : List Nat) : Prop where
  len : G'.length = G.length
  to : ∀ (σ : L2.St) (H : Hp) (M : List Addr) (vs : List V) (Q : L2.St → Hp → Prop), Kn G M σ H → AllP (hide M H) vs rs → (∀ σ', Kn G' M σ' H → (∀ j, j ∉ ts → σ'[j]? = σ[j]?) → Q σ' H) → semGs X tgs vs σ H Q
section
variable {X : Cx} {e : Expr} {es : List Expr} {G G' G'' : En} {p r : Vp} {rs : List Vp} {pos : Pos} {x : Str} {ts us : List Nat}
theorem xg_name (i : Nat) (hN : X.N.Nodup) (hi : X.N[i]? = some x := by rfl) (hx : Loc X.env.scope x := by first | exact Or.inl rfl | exact Or.inr rfl) (hf : X.fn x = true ∨ X.env.scope.names.lookup x = some .local := by first | exact .inl rfl | exact .inr rfl) : XG X (.Name x pos) p G (G.set i (some p)) [i] :=
  ⟨List.length_set .., fun σ H M v Q k hp hQ pins s u I r => (pg_name hN hi hx hf).run pins s σ H v u Q I r (hQ _ (k.set hp) fun j hj => List.getElem?_set_ne (fun z => hj (by simp [z])))⟩
theorem xgs_nil : XGs X [] [] G G [] := ⟨rfl, fun σ H M vs Q k hp hQ pins s us I r => pgs_nil.run pins s σ H vs us Q I r ⟨hp.nil, hQ σ k fun _ _ => rfl⟩⟩
theorem xgs_cons (h1 : XG X e p G G' ts) (h2 : XGs X es rs G' G'' us) (hs : (assignEach (e :: es) X.env).map (·.2) = assign e X.env :: (assignEach es X.env).map (·.2) := by rfl) : XGs X (e :: es) (p :: rs) G G'' (ts ++ us) :=
  ⟨h2.len.trans h1.len, fun σ H M vs Q k hp hQ pins s us' I r => by
    cases vs with
    | nil => exact hp.elim
    | cons v vs =>
      exact (pgs_cons pg_sem pgs_sem hs).run pins s σ H (v :: vs) us' Q I r ⟨v, vs, rfl, h1.to σ H M v _ k hp.1 fun σ1 k1 f1 => h2.to σ1 H M vs _ k1 hp.2 fun σ2 k2 f2 => hQ σ2 k2 fun j hj => (f2 j fun z => hj (List.mem_append_right _ z)).trans (f1 j fun z => hj (List.mem_append_left _ z))⟩⟩
theorem xg_tup [KK] {k : Nat} (h : XGs X es rs G G' ts) (hc : X.calm = true := by rfl) (hK : X.K = KK.K := by rfl) (hn : (assignEach es X.env).length = rs.length := by rfl) (hst : (assignEach es X.env).findIdx? (·.1) = none := by rfl) : XG X (.Tuple es k pos) (rT rs) G G' ts :=
  ⟨h.len, fun σ H M v Q kn ⟨t, vs, hv, hS, hA⟩ hQ pins s u I r => (pg_tup hc pgs_sem hn hst).run pins s σ H v u Q I r ⟨t, vs, hv, by rw [hK]; exact sqT_mono (hide_le M H) hS, hA.len, h.to σ H M vs Q kn hA hQ⟩⟩
end
/-! ### what is walked -/
structure WalkV (J : It) (rs : List Vp) (B : Hp) : Prop where
  stop : ∀ H, Ex B H → J.stop rs.length H
  go : ∀ i H, Ex B H → i < rs.length → J.go i H
  yld : ∀ i H x H', Ex B H → J.yld i H x H' → i < rs.length → Ex H H' ∧ ∀ M : List Addr, (∀ a ∈ M, ∃ o, H a = some o ∧ isM o = true) → Ex B (hide M H) → ∃ r, rs[i]? = some r ∧ r.p (hide M H') x
structure XI (X : Cx) (tg iter : Expr) (G : En) (rs : List Vp) : Prop where
  to : ∀ (σ : L2.St) (H : Hp) (M : List Addr) (R : It → Hp → Prop), Kn G M σ H → (∀ J H', Ex H H' → WalkV J rs (hide M H') → R J H') → semI X tg iter σ H R
section
variable [KK] {X : Cx} {e e2 tg : Expr} {es : List Expr} {G : En} {p r : Vp} {rs qs : List Vp} {pos ps : Pos}
theorem XI.of {t : TI} {iter : Expr} (hp : PI X tg iter t) (h : ∀ (σ : L2.St) (H : Hp) (M : List Addr) (R : It → Hp → Prop), Kn G M σ H → (∀ J H', Ex H H' → WalkV J rs (hide M H') → R J H') → t σ H R) : XI X tg iter G rs :=
  ⟨fun σ H M R k hR pins s I => hp.run pins s σ H R I (h σ H M R k hR)⟩
theorem XI.cast {iter : Expr} (h : XI X tg iter G rs) (he : rs = qs) : XI X tg iter G qs := he ▸ h
theorem walkv_tup {B : Hp} {a : Addr} {vs : List V} (hS : SqT KK.K B a vs) (hA : AllP B vs rs) (hK : X.K = KK.K) : WalkV (Itt X.K a) rs B where
  stop := fun H e => ⟨vs, by rw [hK]; exact sqT_mono e hS, by rw [hA.len]; exact Nat.le_refl _⟩
  go := fun i H e hi => ⟨vs, vs[i]'(by rw [hA.len]; exact hi), by rw [hK]; exact sqT_mono e hS, by simp⟩
  yld := fun i H x H' e ⟨h1, h2⟩ hi => by
    subst h1
    refine ⟨Ex.refl _, fun M hM eM => ?_⟩
    have h3 := h2 vs (by rw [hK]; exact sqT_mono e hS)
    obtain ⟨r, h4, h5⟩ := hA.get' h3
    exact ⟨r, h4, r.mono eM h5⟩
theorem walkv_list {B : Hp} {a : Addr} {vs : List V} (hS : SqL KK.K B a vs) (hA : AllP B vs rs) (hK : X.K = KK.K) : WalkV (Itl X.K a) rs B where
  stop := fun H e => ⟨vs, by rw [hK]; exact sqL_mono e hS, by rw [hA.len]; exact Nat.le_refl _⟩
  go := fun i H e hi => ⟨vs, vs[i]'(by rw [hA.len]; exact hi), by rw [hK]; exact sqL_mono e hS, by simp⟩
  yld := fun i H x H' e ⟨h1, h2⟩ hi => by
    subst h1
    refine ⟨Ex.refl _, fun M hM eM => ?_⟩
    have h3 := h2 vs (by rw [hK]; exact sqL_mono e hS)
    obtain ⟨r, h4, h5⟩ := hA.get' h3
    exact ⟨r, h4, r.mono eM h5⟩
theorem xi_tup (ha : XE X e G (rT rs)) (hK : X.K = KK.K := by rfl) : XI X tg e G rs :=
  XI.of (pi_tup pe_sem) fun σ H M R k hR => ha.to σ H M _ k fun v H1 e1 ⟨t, vs, hv, hS, hA⟩ => ⟨t, hv, ⟨vs, by rw [hK]; exact sqT_mono (hide_le M H1) hS⟩, hR _ _ e1 (walkv_tup hS hA hK)⟩
theorem xi_list (ha : XE X e G (rL rs)) (hK : X.K = KK.K := by rfl) : XI X tg e G rs :=
  XI.of (pi_list pe_sem) fun σ H M R k hR => ha.to σ H M _ k fun v H1 e1 ⟨t, vs, hv, hS, hA⟩ => ⟨t, hv, ⟨vs, SqL.of (hide_le M H1 _ _ hS)⟩, hR _ _ e1 (walkv_list (SqL.of hS) hA hK)⟩
theorem xi_range {n : Nat} (hm : X.mg "range" = none) (ha : XE X e G (rI (n : Int))) (hn : (n : Int) < 2 ^ 62 := by decide) (hg : Gl X "range" := by rfl) (hs : starEach [e] X.env = [(false, eval e X.env)] := by rfl) :
    XI X tg (.Call (.Name "range" ps) [e] [] pos) G ((List.range n).map fun i : Nat => rI (i : Int)) :=
  XI.of (pi_range1 hg hm pa_sem hs) fun σ H M R k hR => (xa_cons ha xa_nil hs).to σ H M _ k fun vs H1 e1 h1 => by
    obtain ⟨v, rfl, hv⟩ := h1.one
    refine ⟨(n : Int), by rw [show v = .int (n : Int) from hv], by omega, hn, hR _ H1 e1 ?_⟩
    rw [show ((n : Int)).toNat = n by omega]
    refine ⟨fun H e => ?_, fun i H e hi => ?_, fun i H x H' e ⟨h1, h2⟩ hi => ?_⟩
    · show n ≤ _; simp
    · show i < n; simpa using hi
    · subst h1
      refine ⟨Ex.refl _, fun M hM eM => ⟨rI (i : Int), ?_, ?_⟩⟩
      · rw [List.getElem?_map, List.getElem?_range (by simpa using hi)]; rfl
      · rw [h2]; show V.int _ = V.int _; congr 1; omega
def enumP (rs : List Vp) : List Vp := rs.zipIdx.map fun q => rT [rI (q.2 : Int), q.1]
theorem enumP_len : (enumP rs).length = rs.length := by unfold enumP; simp
theorem enumP_get {i : Nat} (h : rs[i]? = some r) : (enumP rs)[i]? = some (rT [rI (i : Int), r]) := by
  unfold enumP
  rw [List.getElem?_map, List.getElem?_zipIdx, h]; simp
theorem new_pair {H : Hp} {M : List Addr} {T : Addr} {v u : V} {q : Vp} (hM : ∀ a ∈ M, ∃ o, H a = some o ∧ isM o = true) (hT : H T = none) (h1 : p.p (hide M H) v) (h2 : q.p (hide M H) u) : (rT [p, q]).p (hide M (upd H T (.tup [v, u]))) (.ref T) :=
  ⟨T, [v, u], rfl, SqT.of (hide_new hM hT), p.mono ((Ex.new hT).hide M) h1, q.mono ((Ex.new hT).hide M) h2, trivial⟩
theorem xi_enumT {k : Nat} {tpos : Pos} (hm : X.mg "enumerate" = none) (ha : XE X e G (rT rs)) (hg : Gl X "enumerate" := by rfl) (hK : X.K = KK.K := by rfl) (hs : starEach [e] X.env = [(false, eval e X.env)] := by rfl) :
    XI X (.Tuple es k tpos) (.Call (.Name "enumerate" ps) [e] [] pos) G (enumP rs) :=
  XI.of (pi_enumT hg hm pa_sem hs) fun σ H M R kn hR => (xa_cons ha xa_nil hs).to σ H M _ kn fun vs H1 e1 h1 => by
    obtain ⟨v, rfl, t, ws, rfl, hS, hA⟩ := h1.one
    refine ⟨t, ws, rfl, by rw [hK]; exact sqT_mono (hide_le M H1) hS, hR _ H1 e1 ⟨fun H e => ⟨ws, by rw [hK]; exact sqT_mono e hS, by rw [enumP_len, hA.len]⟩, fun i H e hi => ?_, fun i H x H' e ⟨T, y, h1, h2, h3, h4⟩ hi => ?_⟩⟩
    · rw [enumP_len, ← hA.len] at hi
      exact ⟨ws, ws[i], by rw [hK]; exact sqT_mono e hS, by simp⟩
    · subst h3
      refine ⟨Ex.new h2, fun M' hM eM => ?_⟩
      obtain ⟨r, h5, h6⟩ := hA.get' (h4 ws (by rw [hK]; exact sqT_mono e hS))
      exact ⟨_, enumP_get h5, h1 ▸ new_pair hM h2 rfl (r.mono eM h6)⟩
theorem xi_enumL {k : Nat} {tpos : Pos} (hm : X.mg "enumerate" = none) (ha : XE X e G (rL rs)) (hg : Gl X "enumerate" := by rfl) (hK : X.K = KK.K := by rfl) (hs : starEach [e] X.env = [(false, eval e X.env)] := by rfl) :
    XI X (.Tuple es k tpos) (.Call (.Name "enumerate" ps) [e] [] pos) G (enumP rs) :=
  XI.of (pi_enum hg hm pa_sem hs) fun σ H M R kn hR => (xa_cons ha xa_nil hs).to σ H M _ kn fun vs H1 e1 h1 => by
    obtain ⟨v, rfl, t, ws, rfl, hS, hA⟩ := h1.one
    refine ⟨t, ws, rfl, SqL.of (hide_le M H1 _ _ hS), hR _ H1 e1 ⟨fun H e => ⟨ws, SqL.of (e _ _ hS), by rw [enumP_len, hA.len]; exact Nat.le_refl _⟩, fun i H e hi => ?_, fun i H x H' e ⟨T, y, h1, h2, h3, h4⟩ hi => ?_⟩⟩
    · rw [enumP_len, ← hA.len] at hi
      exact ⟨ws, ws[i], SqL.of (e _ _ hS), by simp⟩
    · subst h3
      refine ⟨Ex.new h2, fun M' hM eM => ?_⟩
      obtain ⟨r, h5, h6⟩ := hA.get' (h4 ws (SqL.of (e _ _ hS)))
      exact ⟨_, enumP_get h5, h1 ▸ new_pair hM h2 rfl (r.mono eM h6)⟩
def zipP (rs qs : List Vp) : List Vp := List.zipWith (fun r q => rT [r, q]) rs qs
theorem zipP_len : (zipP rs qs).length = min rs.length qs.length := by unfold zipP; simp
theorem zipP_get {i : Nat} {q : Vp} (h : rs[i]? = some r) (h' : qs[i]? = some q) : (zipP rs qs)[i]? = some (rT [r, q]) := by
  unfold zipP
  rw [List.getElem?_zipWith, h, h']
theorem xi_zipT {k : Nat} {tpos : Pos} (hm : X.mg "zip" = none) (ha : XE X e G (rT rs)) (hb : XE X e2 G (rT qs)) (hg : Gl X "zip" := by rfl) (hK : X.K = KK.K := by rfl)
    (hs : starEach [e, e2] X.env = (false, eval e X.env) :: starEach [e2] X.env := by rfl) (hs2 : starEach [e2] X.env = [(false, eval e2 X.env)] := by rfl) :
    XI X (.Tuple es k tpos) (.Call (.Name "zip" ps) [e, e2] [] pos) G (zipP rs qs) :=
  XI.of (RZ.pi_zipA hg hm pa_sem hs (by rw [hs2]; rfl)) fun σ H M R kn hR => (xa_cons ha (xa_cons hb xa_nil hs2) hs).to σ H M _ kn fun vs H1 e1 h1 => by
    obtain ⟨v, u, rfl, ⟨t, ws, rfl, hS, hA⟩, ⟨t', ws', rfl, hS', hA'⟩⟩ := h1.two
    refine ⟨t, t', ws, ws', rfl, .inr ⟨by rw [hK]; exact sqT_mono (hide_le M H1) hS, by rw [hK]; exact sqT_mono (hide_le M H1) hS', hR _ H1 e1 ⟨fun H e => ⟨ws, ws', by rw [hK]; exact sqT_mono e hS, by rw [hK]; exact sqT_mono e hS', ?_⟩, fun i H e hi => ?_, fun i H x H' e ⟨T, y, y', h1, h2, h3, h4, h4'⟩ hi => ?_⟩⟩⟩
    · rw [zipP_len, hA.len, hA'.len]; omega
    · rw [zipP_len, ← hA.len, ← hA'.len] at hi
      exact ⟨ws, ws', ws[i]'(by omega), ws'[i]'(by omega), by rw [hK]; exact sqT_mono e hS, by rw [hK]; exact sqT_mono e hS', by simp, by simp⟩
    · subst h3
      refine ⟨Ex.new h2, fun M' hM eM => ?_⟩
      obtain ⟨r, h5, h6⟩ := hA.get' (h4 ws (by rw [hK]; exact sqT_mono e hS))
      obtain ⟨r', h5', h6'⟩ := hA'.get' (h4' ws' (by rw [hK]; exact sqT_mono e hS'))
      exact ⟨_, zipP_get h5 h5', h1 ▸ new_pair hM h2 (r.mono eM h6) (r'.mono eM h6')⟩
theorem xi_zipM {k : Nat} {tpos : Pos} (hm : X.mg "zip" = none) (ha : XE X e G (rL rs)) (hb : XE X e2 G (rT qs)) (hg : Gl X "zip" := by rfl) (hK : X.K = KK.K := by rfl)
    (hs : starEach [e, e2] X.env = (false, eval e X.env) :: starEach [e2] X.env := by rfl) (hs2 : starEach [e2] X.env = [(false, eval e2 X.env)] := by rfl) :
    XI X (.Tuple es k tpos) (.Call (.Name "zip" ps) [e, e2] [] pos) G (zipP rs qs) :=
  XI.of (pi_zipM hg hm pa_sem hs (by rw [hs2]; rfl)) fun σ H M R kn hR => (xa_cons ha (xa_cons hb xa_nil hs2) hs).to σ H M _ kn fun vs H1 e1 h1 => by
    obtain ⟨v, u, rfl, ⟨t, ws, rfl, hS, hA⟩, ⟨t', ws', rfl, hS', hA'⟩⟩ := h1.two
    refine ⟨t, t', ws, ws', rfl, SqL.of (hide_le M H1 _ _ hS), by rw [hK]; exact sqT_mono (hide_le M H1) hS', hR _ H1 e1 ⟨fun H e => ⟨ws, ws', SqL.of (e _ _ hS), by rw [hK]; exact sqT_mono e hS', ?_, ?_, ?_⟩, fun i H e hi => ?_, fun i H x H' e ⟨T, y, y', h1, h2, h3, h4, h4'⟩ hi => ?_⟩⟩
    · rw [zipP_len, hA.len]; omega
    · rw [zipP_len, hA'.len]; omega
    · rw [zipP_len, hA.len, hA'.len]; omega
    · rw [zipP_len, ← hA.len, ← hA'.len] at hi
      exact ⟨ws, ws', ws[i]'(by omega), ws'[i]'(by omega), SqL.of (e _ _ hS), by rw [hK]; exact sqT_mono e hS', by simp, by simp⟩
    · subst h3
      refine ⟨Ex.new h2, fun M' hM eM => ?_⟩
      obtain ⟨r, h5, h6⟩ := hA.get' (h4 ws (SqL.of (e _ _ hS)))
      obtain ⟨r', h5', h6'⟩ := hA'.get' (h4' ws' (by rw [hK]; exact sqT_mono e hS'))
      exact ⟨_, zipP_get h5 h5', h1 ▸ new_pair hM h2 (r.mono eM h6) (r'.mono eM h6')⟩
end
/-! ### comprehensions -/
def wipeG (G : En) : List Nat → En
  | [] => G
  | v :: vs => (wipeG G vs).set v none
theorem wipeG_len (G : En) : ∀ vs, (wipeG G vs).length = G.length
  | [] => rfl
  | v :: vs => by unfold wipeG; rw [List.length_set]; exact wipeG_len G vs
theorem wipeG_get {G : En} {i : Nat} {r : Vp} : ∀ {vs : List Nat}, (wipeG G vs)[i]? = some (some r) → G[i]? = some (some r) ∧ i ∉ vs
  | [], h => ⟨h, by simp⟩
  | v :: vs, h => by
    unfold wipeG at h
    by_cases hv : v = i
    · subst hv
      by_cases hl : v < (wipeG G vs).length
      · rw [List.getElem?_set_self hl] at h; cases h
      · rw [List.getElem?_eq_none (by rw [List.length_set]; omega)] at h; cases h
    · rw [List.getElem?_set_ne hv] at h
      obtain ⟨h1, h2⟩ := wipeG_get h
      exact ⟨h1, by simp [h2, Ne.symm hv]⟩
theorem wipe_eq {σ σ' : L2.St} {vs : List Nat} (hl : σ'.length = σ.length) (h : ∀ j, j ∉ vs → σ'[j]? = σ[j]?) : wipe σ' vs = wipe σ vs := by
  apply List.ext_getElem?
  intro i
  by_cases hi : i ∈ vs
  · have w : ∀ (τ : L2.St) (ws : List Nat), i ∈ ws → (wipe τ ws)[i]? = if i < τ.length then some none else none := by
      intro τ ws
      induction ws with
      | nil => intro h; simp at h
      | cons v ws ih =>
        intro h
        unfold wipe
        by_cases hv : v = i
        · subst hv
          by_cases hl : v < τ.length
          · rw [if_pos hl, List.getElem?_set_self (by rw [wipe_length]; exact hl)]
          · rw [if_neg hl, List.getElem?_eq_none (by rw [List.length_set, wipe_length]; omega)]
        · rw [List.getElem?_set_ne hv]
          exact ih (by simpa [Ne.symm hv] using h)
    rw [w _ _ hi, w _ _ hi, hl]
  · rw [wipe_out hi, wipe_out hi, h i hi]
theorem Kn.wipe {G : En} {M : List Addr} {σ : L2.St} {H : Hp} (k : Kn G M σ H) (vs : List Nat) : Kn (wipeG G vs) M (wipe σ vs) H :=
  ⟨fun i r e => by
    obtain ⟨h1, h2⟩ := wipeG_get e
    obtain ⟨v, h3, h4⟩ := k.get i r h1
    exact ⟨v, by rw [wipe_out h2]; exact h3, h4⟩, k.mu, by rw [wipeG_len, wipe_length]; exact k.len⟩
theorem hide_add {H H' : Hp} {M : List Addr} {D : Addr} (e : Ex H H') (hD : H D = none) : Ex (hide M H) (hide (D :: M) H') := fun a o h => by
  by_cases q : a ∈ M
  · rw [hide_in q] at h; cases h
  · rw [hide_out q] at h
    rw [hide_out]
    · exact e a o h
    · intro z
      rcases List.mem_cons.mp z with rfl | z
      · rw [hD] at h; cases h
      · exact q z
theorem Kn.add {G : En} {M : List Addr} {σ : L2.St} {H H' : Hp} {D : Addr} {vs : List V} (k : Kn G M σ H) (e : Ex H H') (hD : H D = none) (hD' : H' D = some (.lst vs)) : Kn G (D :: M) σ H' :=
  ⟨fun i r h => let ⟨v, h1, h2⟩ := k.get i r h; ⟨v, h1, r.mono (hide_add e hD) h2⟩, fun a h => by
    rcases List.mem_cons.mp h with rfl | h
    · exact ⟨_, hD', rfl⟩
    · obtain ⟨o, h1, h2⟩ := k.mu a h
      exact ⟨o, e _ _ h1, h2⟩, k.len⟩
structure XTs (X : Cx) (ifs : List Expr) (G : En) (b : Bool) : Prop where
  to : ∃ f : TT, PTs X ifs f ∧ ∀ (σ : L2.St) (H : Hp) (M : List Addr) (Q : Bool → Hp → Prop), Kn G M σ H → (∀ H', Ex H H' → Q b H') → f σ H Q
def semTs (X : Cx) (ifs : List Expr) : TT := fun σ H Q => ∀ (pins : List (Addr × Obj)) (s : Shared), Inv X pins σ H s →
  wpAny (model X.prog X.w) X.A (forIn ifs true fun c r => if r = true then do let ok ← isTrue c X.env (eval c X.env); pure (ForInStep.yield ok) else pure (ForInStep.yield r)) (TP X pins σ Q) X.xe s
theorem XTs.sem {X : Cx} {ifs : List Expr} {G : En} {b : Bool} (h : XTs X ifs G b) (σ : L2.St) (H : Hp) (M : List Addr) (Q : Bool → Hp → Prop) (k : Kn G M σ H) (hQ : ∀ H', Ex H H' → Q b H') : semTs X ifs σ H Q := fun pins s I => by
  obtain ⟨f, h1, h2⟩ := h.to
  exact h1.run pins s σ H Q I (h2 σ H M Q k hQ)
theorem xts_nil {X : Cx} {G : En} : XTs X [] G true := ⟨tYes, pts_nil, fun σ H M Q k hQ => hQ H (Ex.refl _)⟩
theorem xts_one {X : Cx} {c : Expr} {G : En} {b : Bool} (h : XT X c G b) : XTs X [c] G b := ⟨semT X c, pts_one pt_sem, h.to⟩
section
variable (X : Cx) (scope : Scope)
def bG (tg : Expr) : TG := fun v σ H Q => ∀ (s : Shared) (H0 : Hp) (C : Addr) (cl : List (Str × Addr)) (fp : List Addr), semG (X.blk s H0 scope (compEnvC scope cl C X.env) fp) tg v σ H Q
def bT (ifs : List Expr) : TT := fun σ H Q => ∀ (s : Shared) (H0 : Hp) (C : Addr) (cl : List (Str × Addr)) (fp : List Addr), semTs (X.blk s H0 scope (compEnvC scope cl C X.env) fp) ifs σ H Q
def bE (e : Expr) : TE := fun σ H Q => ∀ (s : Shared) (H0 : Hp) (C : Addr) (cl : List (Str × Addr)) (fp : List Addr), semE (X.blk s H0 scope (compEnvC scope cl C X.env) fp) e σ H Q
end
theorem bG_ok {X : Cx} {scope : Scope} {tg : Expr} (s : Shared) (H0 : Hp) (C : Addr) (cl : List (Str × Addr)) (fp : List Addr) : PG (X.blk s H0 scope (compEnvC scope cl C X.env) fp) tg (bG X scope tg) :=
  ⟨fun pins s' σ H v u Q I r h => h s H0 C cl fp pins s' u I r⟩
theorem bT_ok {X : Cx} {scope : Scope} {ifs : List Expr} (s : Shared) (H0 : Hp) (C : Addr) (cl : List (Str × Addr)) (fp : List Addr) : PTs (X.blk s H0 scope (compEnvC scope cl C X.env) fp) ifs (bT X scope ifs) :=
  ⟨fun pins s' σ H Q I h => h s H0 C cl fp pins s' I⟩
theorem bE_ok {X : Cx} {scope : Scope} {e : Expr} (s : Shared) (H0 : Hp) (C : Addr) (cl : List (Str × Addr)) (fp : List Addr) : PE (X.blk s H0 scope (compEnvC scope cl C X.env) fp) e (bE X scope e) :=
  ⟨fun pins s' σ H Q I h => h s H0 C cl fp pins s' I⟩
/-- a block's turn at the item x: the target, the tests, the element -/
structure XBl (X : Cx) (scope : Scope) (tg : Expr) (ifs : List Expr) (elt : Expr) (own : List (Str × Nat)) (G : En) (q : Vp) (b : Bool) (f : Vp) : Prop where
  to : ∃ (G1 : En) (ts : List Nat), (∀ j ∈ ts, j ∈ own.map (·.2)) ∧ ∀ (s : Shared) (H0 : Hp) (C : Addr) (cl : List (Str × Addr)) (fp : List Addr),
    XG (X.blk s H0 scope (compEnvC scope cl C X.env) fp) tg q (wipeG G (own.map (·.2))) G1 ts ∧ XTs (X.blk s H0 scope (compEnvC scope cl C X.env) fp) ifs G1 b ∧ (b = true → XE (X.blk s H0 scope (compEnvC scope cl C X.env) fp) elt G1 f)
section
variable [KK] {X : Cx} {elt tg iter : Expr} {ifs : List Expr} {scope : Scope} {own : List (Str × Nat)} {G : En} {pos : Pos} {α : Type} {xs : List α} {qf f : α → Vp} {b : α → Bool}
theorem lc_read (hi : XI X tg iter G (xs.map qf)) (hb : ∀ x ∈ xs, XBl X scope tg ifs elt own G (qf x) (b x) (f x)) (hz : xs.length < sizeLine)
    (σ : L2.St) (H : Hp) (M : List Addr) (Q : VK) (k : Kn G M σ H) (hQ : ∀ v H', Ex H H' → (rL ((xs.filter b).map f)).p (hide M H') v → Q v H') :
    tLc (semI X tg iter) (bG X scope tg) (bT X scope ifs) (bE X scope elt) (own.map (·.2)) σ H Q := by
  refine hi.to σ H M _ k fun J H1 e1 WV D hD => ?_
  have hM1 := (k.ex e1).mu
  have hDM : D ∉ M := fun z => by obtain ⟨o, h, _⟩ := hM1 D z; rw [hD] at h; cases h
  have hlen : (xs.map qf).length = xs.length := List.length_map ..
  have inv : ∀ (H2 : Hp), Ex H1 H2 → Ex (hide M H1) H2 := fun H2 e => (hide_le M H1).trans e
  refine ⟨fun i m H2 => i + m = xs.length ∧ Ex H1 H2 ∧ ∃ vs, H2 D = some (.lst vs) ∧ AllP (hide (D :: M) H2) vs (((xs.take i).filter b).map f), ⟨xs.length, by omega, Ex.new hD, [], upd_same, by simp [AllP]⟩, fun i m H2 ⟨hm, e2, vs, hv, hA⟩ => ?_⟩
  by_cases hn : i = xs.length
  · refine .inl ⟨by rw [hn, ← hlen]; exact WV.stop H2 (inv H2 e2), hQ _ H2 (e1.trans e2) ⟨D, vs, rfl, by rw [hide_out hDM]; exact hv, ?_⟩⟩
    rw [hn, List.take_length] at hA
    exact hA.mono (hide_sub (fun a h => List.mem_cons_of_mem _ h) H2)
  · have hlt : i < xs.length := by omega
    refine .inr ⟨WV.go i H2 (inv H2 e2) (by rw [hlen]; exact hlt), fun H' => i + 1 + (m - 1) = xs.length ∧ Ex H1 H' ∧ ∃ vs, H' D = some (.lst vs) ∧ AllP (hide (D :: M) H') vs (((xs.take (i + 1)).filter b).map f), fun H' h => ⟨m - 1, by omega, h⟩, fun x H3 hy => ?_⟩
    have hMD : ∀ a ∈ D :: M, ∃ o, H2 a = some o ∧ isM o = true := fun a h => by
      rcases List.mem_cons.mp h with rfl | h
      · exact ⟨_, hv, rfl⟩
      · obtain ⟨o, h1, h2⟩ := hM1 a h
        exact ⟨o, e2 _ _ h1, h2⟩
    have eB : Ex (hide M H1) (hide (D :: M) H2) := hide_add e2 hD
    obtain ⟨e3, hr⟩ := WV.yld i H2 x H3 (inv H2 e2) hy (by rw [hlen]; exact hlt)
    obtain ⟨r, hr1, hr2⟩ := hr (D :: M) hMD eB
    have hxi : xs[i]? = some xs[i] := by simp
    rw [List.getElem?_map, hxi] at hr1
    have hr1 : qf xs[i] = r := Option.some.inj hr1
    subst hr1
    obtain ⟨G1, ts, hts, hX⟩ := (hb xs[i] (List.getElem_mem hlt)).to
    have kD : Kn G (D :: M) σ H3 := k.add ((e1.trans e2).trans e3) (e1.none hD) (e3 _ _ hv)
    intro s H0 C cl fp
    obtain ⟨hg, ht, he⟩ := hX s H0 C cl fp
    refine hg.to _ H3 (D :: M) x _ (kD.wipe _) hr2 fun σ2 k2 f2 => ⟨?_, fun s' H0' C' cl' fp' => ?_⟩
    · have hl : σ2.length = (wipe σ (own.map (·.2))).length := by
        rw [← k2.len, hg.len]
        exact (kD.wipe (own.map (·.2))).len
      rw [wipe_eq hl fun j hj => f2 j fun z => hj (hts j z)]
      exact wipe_eq (wipe_length _ _) fun j hj => wipe_out hj
    · refine (hX s' H0' C' cl' fp').2.1.sem σ2 H3 (D :: M) _ k2 fun H4 e4 => ?_
      have e34 : Ex H1 H4 := (e2.trans e3).trans e4
      have hv4 : H4 D = some (.lst vs) := e4 _ _ (e3 _ _ hv)
      have hA4 := hA.mono ((e3.trans e4).hide (D :: M))
      have htk : xs.take (i + 1) = xs.take i ++ [xs[i]] := by
        rw [List.take_succ, hxi]; rfl
      cases hbx : b xs[i] with
      | false =>
        rw [if_neg (by decide)]
        refine ⟨by omega, e34, vs, hv4, ?_⟩
        rw [htk, List.filter_append, List.filter_cons_of_neg (by rw [hbx]; decide), List.filter_nil, List.append_nil]
        exact hA4
      | true =>
        rw [if_pos rfl]
        intro s'' H0'' C'' cl'' fp''
        refine ((hX s'' H0'' C'' cl'' fp'').2.2 hbx).to σ2 H4 (D :: M) _ (k2.ex e4) fun y H5 e5 h5 => ⟨vs, e5 _ _ hv4, ?_, by omega, ?_, vs ++ [y], upd_same, ?_⟩
        · have := hA.len
          rw [this, List.length_map]
          have h1 := List.length_filter_le b (xs.take i)
          have h2 := List.length_take_le i xs
          omega
        · intro a o h
          rw [upd_ne (fun z => by rw [z, hD] at h; cases h)]
          exact e5 _ _ (e34 _ _ h)
        · have eu : Ex (hide (D :: M) H5) (hide (D :: M) (upd H5 D (.lst (vs ++ [y])))) := fun a o h => by
            by_cases q : a ∈ D :: M
            · rw [hide_in q] at h; cases h
            · rw [hide_out q] at h ⊢
              rw [upd_ne (fun z => q (by rw [z]; exact List.mem_cons_self))]
              exact h
          rw [htk, List.filter_append, List.filter_cons_of_pos (by exact hbx), List.filter_nil, List.map_append]
          exact (hA4.mono ((e5.hide (D :: M)).trans eu)).append ⟨(f xs[i]).mono eu h5, trivial⟩
theorem xe_lc (hN : X.N.Nodup) (ok : BlkOk X.N X.env.scope scope own) (hi : XI X tg iter G (xs.map qf)) (hb : ∀ x ∈ xs, XBl X scope tg ifs elt own G (qf x) (b x) (f x)) (hz : xs.length < sizeLine) (hc : X.calm = true := by rfl)
    (hs : ∀ x, foldedSetIterable iter X.env x = pure x := by intro _; rfl) : XE X (.ListComp elt [⟨tg, iter, ifs, 0⟩] scope pos) G (rL ((xs.filter b).map f)) :=
  XE.of (pe_lc hc hN pi_sem ok bG_ok bT_ok bE_ok hs) (lc_read hi hb hz)
/-- without a test -/
theorem xe_lc1 (hN : X.N.Nodup) (ok : BlkOk X.N X.env.scope scope own) (hi : XI X tg iter G (xs.map qf)) (hb : ∀ x ∈ xs, XBl X scope tg [] elt own G (qf x) true (f x)) (hz : xs.length < sizeLine) (hc : X.calm = true := by rfl)
    (hs : ∀ x, foldedSetIterable iter X.env x = pure x := by intro _; rfl) : XE X (.ListComp elt [⟨tg, iter, [], 0⟩] scope pos) G (rL (xs.map f)) :=
  (xe_lc (b := fun _ => true) hN ok hi hb hz hc hs).cast (by rw [List.filter_eq_self.mpr (fun _ _ => rfl)])
end
end TL
/-! Statements. -/
namespace TL
open PySem PySem.Spec PyProof.Rows L2
def Dice (H : Hp) (d : Addr) : Prop := ∃ x y z : Int, H d = some (.lst [.int x, .int y, .int z])
abbrev MS := List (Addr × List Vp)
def hid (N W : List Addr) (Ms : MS) : List Addr := N ++ (W ++ Ms.map (·.1))
/-- B: what is known for good. N: lists of the callers, untouched. W: the dice. G: the slots. Ms: this frame's own lists, with what they hold now -/
structure Env (B : Hp) (N W : List Addr) (G : En) (Ms : MS) (σ : L2.St) (H : Hp) : Prop where
  kn : Kn G (hid N W Ms) σ H
  cont : ∀ m ∈ Ms, ∃ vs, H m.1 = some (.lst vs) ∧ AllP (hide (hid N W Ms) H) vs m.2
  nd : (W ++ Ms.map (·.1)).Nodup
  base : Ex B H
  new : ∀ a ∈ W ++ Ms.map (·.1), B a = none
  old : ∀ a ∈ N, ∃ o, B a = some o ∧ isM o = true
  dice : ∀ a ∈ W, Dice H a
section
variable {B : Hp} {N W : List Addr} {G G' : En} {Ms : MS} {σ σ' : L2.St} {H H' : Hp} {r : Vp} {rs : List Vp}
theorem Env.ex (E : Env B N W G Ms σ H) (e : Ex H H') : Env B N W G Ms σ H' :=
  ⟨E.kn.ex e, fun m hm => let ⟨vs, h1, h2⟩ := E.cont m hm; ⟨vs, e _ _ h1, h2.mono (e.hide _)⟩, E.nd, E.base.trans e, E.new, E.old, fun a ha => let ⟨x, y, z, h⟩ := E.dice a ha; ⟨x, y, z, e _ _ h⟩⟩
theorem Env.re (E : Env B N W G Ms σ H) (k : Kn G' (hid N W Ms) σ' H) : Env B N W G' Ms σ' H := ⟨k, E.cont, E.nd, E.base, E.new, E.old, E.dice⟩
theorem Env.set (E : Env B N W G Ms σ H) {i : Nat} {v : V} (h : r.p (hide (hid N W Ms) H) v) : Env B N W (G.set i (some r)) Ms (σ.set i (some v)) H := E.re (E.kn.set h)
theorem hide_snoc {N W : List Addr} {Ms : MS} {H : Hp} {p : Addr} {o : HO} (hp : H p = none) : Ex (hide (hid N W Ms) H) (hide (hid N W (Ms ++ [(p, rs)])) (upd H p o)) := fun a u h => by
  by_cases q : a ∈ hid N W Ms
  · rw [hide_in q] at h; cases h
  · rw [hide_out q] at h
    have hap : a ≠ p := fun z => by rw [z, hp] at h; cases h
    rw [hide_out, upd_ne hap]
    · exact h
    · unfold hid at q ⊢
      simp only [List.map_append, List.mem_append, List.map_cons, List.map_nil, List.mem_singleton] at q ⊢
      intro z
      rcases z with z | z | z | z
      · exact q (.inl z)
      · exact q (.inr (.inl z))
      · exact q (.inr (.inr z))
      · exact hap z
/-- a new list of this frame's -/
theorem Env.newM (E : Env B N W G Ms σ H) {p : Addr} {vs : List V} (hp : H p = none) (hA : AllP (hide (hid N W Ms) H) vs rs) : Env B N W G (Ms ++ [(p, rs)]) σ (upd H p (.lst vs)) := by
  have hB : B p = none := E.base.none hp
  refine ⟨⟨fun i r h => ?_, fun a ha => ?_, E.kn.len⟩, fun m hm => ?_, ?_, E.base.trans (Ex.new hp), fun a ha => ?_, E.old, fun a ha => ?_⟩
  · obtain ⟨v, h1, h2⟩ := E.kn.get i r h
    exact ⟨v, h1, r.mono (hide_snoc hp) h2⟩
  · by_cases hap : a = p
    · subst hap; exact ⟨_, upd_same, rfl⟩
    · have : a ∈ hid N W Ms := by
        unfold hid at ha ⊢
        simp only [List.map_append, List.mem_append, List.map_cons, List.map_nil, List.mem_singleton] at ha ⊢
        rcases ha with z | z | z | z
        · exact .inl z
        · exact .inr (.inl z)
        · exact .inr (.inr z)
        · exact absurd z hap
      obtain ⟨o, h1, h2⟩ := E.kn.mu a this
      exact ⟨o, by rw [upd_ne hap]; exact h1, h2⟩
  · rcases List.mem_append.mp hm with hm | hm
    · obtain ⟨ws, h1, h2⟩ := E.cont m hm
      refine ⟨ws, ?_, h2.mono (hide_snoc hp)⟩
      rw [upd_ne (fun z => by rw [z, hp] at h1; cases h1)]
      exact h1
    · have : m = (p, rs) := by simpa using hm
      subst this
      exact ⟨vs, upd_same, hA.mono (hide_snoc hp)⟩
  · rw [List.map_append, ← List.append_assoc]
    refine List.nodup_append.mpr ⟨E.nd, by simp, fun a ha b hb => ?_⟩
    have : b = p := by simpa using hb
    subst this
    intro z
    subst z
    rcases List.mem_append.mp ha with h | h
    · obtain ⟨x, y, z, h⟩ := E.dice a h
      rw [hp] at h; cases h
    · obtain ⟨m, hm, rfl⟩ := List.mem_map.mp h
      obtain ⟨ws, h1, _⟩ := E.cont m hm
      rw [hp] at h1; cases h1
  · rw [List.map_append, ← List.append_assoc] at ha
    rcases List.mem_append.mp ha with h | h
    · exact E.new a h
    · have : a = p := by simpa using h
      subst this; exact hB
  · obtain ⟨x, y, z, h⟩ := E.dice a ha
    exact ⟨x, y, z, by rw [upd_ne (fun q => by rw [q, hp] at h; cases h)]; exact h⟩
theorem Env.notin (E : Env B N W G Ms σ H) {a : Addr} (h : a ∈ W ++ Ms.map (·.1)) : a ∉ N := fun z => by
  obtain ⟨o, h1, _⟩ := E.old a z
  rw [E.new a h] at h1; cases h1
/-- one of this frame's lists is written -/
theorem Env.wr (E : Env B N W G Ms σ H) {k : Nat} {p : Addr} {qs : List Vp} {vs : List V} (hk : Ms[k]? = some (p, qs)) (hA : AllP (hide (hid N W Ms) H) vs rs) : Env B N W G (Ms.set k (p, rs)) σ (upd H p (.lst vs)) := by
  have hlt : k < Ms.length := (List.getElem?_eq_some_iff.mp hk).1
  have hm : (p, qs) ∈ Ms := List.mem_of_getElem? hk
  have hmap : (Ms.set k (p, rs)).map (·.1) = Ms.map (·.1) := by
    rw [List.map_set]
    apply List.ext_getElem?
    intro j
    by_cases hj : k = j
    · subst hj
      rw [List.getElem?_set_self (by rw [List.length_map]; exact hlt), List.getElem?_map, hk]; rfl
    · rw [List.getElem?_set_ne hj]
  have hhid : hid N W (Ms.set k (p, rs)) = hid N W Ms := by unfold hid; rw [hmap]
  have hpin : p ∈ Ms.map (·.1) := List.mem_map.mpr ⟨_, hm, rfl⟩
  have hin : p ∈ hid N W Ms := by
    unfold hid
    exact List.mem_append_right _ (List.mem_append_right _ hpin)
  have eu : Ex (hide (hid N W Ms) H) (hide (hid N W Ms) (upd H p (.lst vs))) := fun a o h => by
    by_cases q : a ∈ hid N W Ms
    · rw [hide_in q] at h; cases h
    · rw [hide_out q] at h ⊢
      rw [upd_ne (fun z => q (by rw [z]; exact hin))]
      exact h
  have hB : B p = none := E.new p (List.mem_append_right _ hpin)
  refine ⟨?_, ?_, by rw [hmap]; exact E.nd, fun a o h => ?_, by rw [hmap]; exact E.new, E.old, fun a ha => ?_⟩
  · rw [hhid]
    refine ⟨fun i r h => ?_, fun a ha => ?_, E.kn.len⟩
    · obtain ⟨v, h1, h2⟩ := E.kn.get i r h
      exact ⟨v, h1, r.mono eu h2⟩
    · by_cases hap : a = p
      · subst hap; exact ⟨_, upd_same, rfl⟩
      · obtain ⟨o, h1, h2⟩ := E.kn.mu a ha
        exact ⟨o, by rw [upd_ne hap]; exact h1, h2⟩
  · rw [hhid]
    intro m hm'
    obtain ⟨j, hj⟩ := List.mem_iff_getElem?.mp hm'
    by_cases hjk : k = j
    · subst hjk
      rw [List.getElem?_set_self hlt] at hj
      cases hj
      exact ⟨vs, upd_same, hA.mono eu⟩
    · rw [List.getElem?_set_ne hjk] at hj
      obtain ⟨ws, h1, h2⟩ := E.cont m (List.mem_of_getElem? hj)
      refine ⟨ws, ?_, h2.mono eu⟩
      have hne : m.1 ≠ p := fun z => by
        have nd2 : (Ms.map (·.1)).Nodup := (List.nodup_append.mp E.nd).2.1
        have a1 : (Ms.map (·.1))[k]? = some p := by rw [List.getElem?_map, hk]; rfl
        have a2 : (Ms.map (·.1))[j]? = some p := by rw [List.getElem?_map, hj]; simp [z]
        obtain ⟨l1, e1⟩ := List.getElem?_eq_some_iff.mp a1
        obtain ⟨l2, e2⟩ := List.getElem?_eq_some_iff.mp a2
        exact hjk ((List.getElem_inj nd2).mp (e1.trans e2.symm))
      rw [upd_ne hne]; exact h1
  · rw [upd_ne (fun z => by rw [z, hB] at h; cases h)]
    exact E.base a o h
  · obtain ⟨x, y, z, h⟩ := E.dice a ha
    refine ⟨x, y, z, ?_⟩
    rw [upd_ne]
    · exact h
    · intro q
      have := (List.nodup_append.mp E.nd).2.2 a ha p hpin
      exact this q
theorem Env.low {B' : Hp} (E : Env B' N W G Ms σ H) (e : Ex B B') (ho : ∀ a ∈ N, ∃ o, B a = some o ∧ isM o = true) : Env B N W G Ms σ H :=
  ⟨E.kn, E.cont, E.nd, e.trans E.base, fun a ha => e.none (E.new a ha), ho, E.dice⟩
/-- this frame's last list is no more written: it is known from here on -/
theorem Env.frz [KK] {i : Nat} {p : Addr} (E : Env B N W G (Ms ++ [(p, rs)]) σ H) (hG : G[i]? = some (some (rA p))) : Env B N W (G.set i (some (rL rs))) Ms σ H := by
  have hsub : ∀ a ∈ hid N W Ms, a ∈ hid N W (Ms ++ [(p, rs)]) := fun a h => by
    unfold hid at h ⊢
    simp only [List.map_append, List.mem_append] at h ⊢
    rcases h with h | h | h
    · exact .inl h
    · exact .inr (.inl h)
    · exact .inr (.inr (.inl h))
  have ehid := hide_sub hsub H
  have hnd := E.nd
  rw [List.map_append, ← List.append_assoc] at hnd
  obtain ⟨n1, _, n3⟩ := List.nodup_append.mp hnd
  have hp1 : p ∉ hid N W Ms := fun z => by
    unfold hid at z
    rcases List.mem_append.mp z with z | z
    · exact E.notin (a := p) (by simp) z
    · exact n3 p z p (by simp) rfl
  obtain ⟨vs, hv, hA⟩ := E.cont (p, rs) (by simp)
  obtain ⟨v, hσ, hv2⟩ := E.kn.get i _ hG
  have hv2 : v = .ref p := hv2
  subst hv2
  have hset : σ.set i (some (.ref p)) = σ := by
    apply List.ext_getElem?
    intro j
    by_cases hj : i = j
    · subst hj
      rw [List.getElem?_set_self (List.getElem?_eq_some_iff.mp hσ).1, hσ]
    · rw [List.getElem?_set_ne hj]
  have k0 : Kn G (hid N W Ms) σ H := ⟨fun i r h => let ⟨v, h1, h2⟩ := E.kn.get i r h; ⟨v, h1, r.mono ehid h2⟩, fun a h => E.kn.mu a (hsub a h), E.kn.len⟩
  refine ⟨?_, fun m hm => ?_, n1, E.base, fun a ha => E.new a (by rw [List.map_append, ← List.append_assoc]; exact List.mem_append_left _ ha), E.old, E.dice⟩
  · have := k0.set (i := i) (r := rL rs) (v := .ref p) ⟨p, vs, rfl, by rw [hide_out hp1]; exact hv, hA.mono ehid⟩
    rw [hset] at this
    exact this
  · obtain ⟨ws, h1, h2⟩ := E.cont m (List.mem_append_left _ hm)
    exact ⟨ws, h1, h2.mono ehid⟩
/-- this frame's last list is forgotten -/
theorem Env.drop {p : Addr} (E : Env B N W G (Ms ++ [(p, rs)]) σ H) : Env B N W G Ms σ H := by
  have hsub : ∀ a ∈ hid N W Ms, a ∈ hid N W (Ms ++ [(p, rs)]) := fun a h => by
    unfold hid at h ⊢
    simp only [List.map_append, List.mem_append] at h ⊢
    rcases h with h | h | h
    · exact .inl h
    · exact .inr (.inl h)
    · exact .inr (.inr (.inl h))
  have ehid := hide_sub hsub H
  have hnd := E.nd
  rw [List.map_append, ← List.append_assoc] at hnd
  obtain ⟨n1, _, n3⟩ := List.nodup_append.mp hnd
  refine ⟨⟨fun i r h => let ⟨v, h1, h2⟩ := E.kn.get i r h; ⟨v, h1, r.mono ehid h2⟩, fun a h => E.kn.mu a (hsub a h), E.kn.len⟩, fun m hm => ?_, n1, E.base, fun a ha => E.new a (by rw [List.map_append, ← List.append_assoc]; exact List.mem_append_left _ ha), E.old, E.dice⟩
  obtain ⟨ws, h1, h2⟩ := E.cont m (List.mem_append_left _ hm)
  exact ⟨ws, h1, h2.mono ehid⟩
/-! ### less is known -/
def GSub : En → En → Prop
  | [], [] => True
  | none :: a, _ :: b => GSub a b
  | some r :: a, some q :: b => r = q ∧ GSub a b
  | _, _ => False
theorem GSub.len : ∀ {a b : En}, GSub a b → a.length = b.length
  | [], [], _ => rfl
  | none :: a, _ :: b, h => by simp [GSub.len (a := a) (b := b) h]
  | some _ :: a, some _ :: b, ⟨_, h⟩ => by simp [GSub.len h]
  | [], _ :: _, h => h.elim
  | none :: _, [], h => h.elim
  | some _ :: _, [], h => h.elim
  | some _ :: _, none :: _, h => h.elim
theorem GSub.get : ∀ {a b : En} {i : Nat} {r : Vp}, GSub a b → a[i]? = some (some r) → b[i]? = some (some r)
  | [], [], _, _, _, e => e
  | none :: a, _ :: b, 0, _, h, e => by simp at e
  | none :: a, _ :: b, i + 1, _, h, e => by simpa using GSub.get (a := a) (b := b) (i := i) h (by simpa using e)
  | some _ :: a, some _ :: b, 0, _, ⟨h, _⟩, e => by simpa [h] using e
  | some _ :: a, some _ :: b, i + 1, _, ⟨_, h⟩, e => by simpa using GSub.get (i := i) h (by simpa using e)
  | [], _ :: _, _, _, h, _ => h.elim
  | none :: _, [], _, _, h, _ => h.elim
  | some _ :: _, [], _, _, h, _ => h.elim
  | some _ :: _, none :: _, _, _, h, _ => h.elim
theorem Env.sub (E : Env B N W G Ms σ H) (h : GSub G' G) : Env B N W G' Ms σ H := E.re (E.kn.weak h.len fun i r e => h.get e)
end
/-! ### statements -/
structure XS (X : Cx) (st : Stmt) (P : L2.St → Hp → Prop) (D : Ends) : Prop where
  to : ∀ σ H, P σ H → semS X st D σ H
structure XB (X : Cx) (sts : List Stmt) (P : L2.St → Hp → Prop) (D : Ends) : Prop where
  to : ∀ σ H, P σ H → semB X sts D σ H
structure EndsLe (D D' : Ends) : Prop where
  nx : ∀ σ H, D.nx σ H → D'.nx σ H
  rt : ∀ v H, D.rt v H → D'.rt v H
  bk : ∀ σ H, D.bk σ H → D'.bk σ H
  ct : ∀ σ H, D.ct σ H → D'.ct σ H
theorem SP.le {X : Cx} {pins : List (Addr × Obj)} {D D' : Ends} {f : Flow} {s : Shared} (h : SP X pins D f s) (l : EndsLe D D') : SP X pins D' f s := by
  cases f with
  | next => obtain ⟨σ, H, I, h⟩ := h; exact ⟨σ, H, I, l.nx _ _ h⟩
  | brk => obtain ⟨σ, H, I, h⟩ := h; exact ⟨σ, H, I, l.bk _ _ h⟩
  | cont => obtain ⟨σ, H, I, h⟩ := h; exact ⟨σ, H, I, l.ct _ _ h⟩
  | ret u => obtain ⟨v, σ, H, I, r, h⟩ := h; exact ⟨v, σ, H, I, r, l.rt _ _ h⟩
section
variable {X : Cx} {st : Stmt} {rest : List Stmt} {P P' Mid : L2.St → Hp → Prop} {D D' : Ends}
theorem semS_le {σ : L2.St} {H : Hp} (h : semS X st D σ H) (l : EndsLe D D') : semS X st D' σ H := fun pins s I => thn (h pins s I) fun f s' q => SP.le q l
theorem semB_le {sts : List Stmt} {σ : L2.St} {H : Hp} (h : semB X sts D σ H) (l : EndsLe D D') : semB X sts D' σ H := fun pins s I => thn (h pins s I) fun f s' q => SP.le q l
theorem XS.le (h : XS X st P D) (l : EndsLe D D') : XS X st P D' := ⟨fun σ H p => semS_le (h.to σ H p) l⟩
theorem XB.le {sts : List Stmt} (h : XB X sts P D) (l : EndsLe D D') : XB X sts P D' := ⟨fun σ H p => semB_le (h.to σ H p) l⟩
theorem XS.pre (h : XS X st P D) (l : ∀ σ H, P' σ H → P σ H) : XS X st P' D := ⟨fun σ H p => h.to σ H (l σ H p)⟩
theorem XB.pre {sts : List Stmt} (h : XB X sts P D) (l : ∀ σ H, P' σ H → P σ H) : XB X sts P' D := ⟨fun σ H p => h.to σ H (l σ H p)⟩
theorem XS.of {t : TS} (hp : PS X st t) (h : ∀ σ H, P σ H → t D σ H) : XS X st P D := ⟨fun σ H p pins s I => hp.run pins s σ H D I (h σ H p)⟩
theorem xb_nil (h : ∀ σ H, P σ H → D.nx σ H) : XB X [] P D := ⟨fun σ H p pins s I => pss_nil.run pins s σ H D I (h σ H p)⟩
theorem xb_cons (h1 : XS X st P ⟨Mid, D.rt, D.bk, D.ct⟩) (h2 : XB X rest Mid D) : XB X (st :: rest) P D :=
  ⟨fun σ H p pins s I => (pss_cons ps_sem pss_sem).run pins s σ H D I (semS_le (h1.to σ H p) ⟨fun σ' H' m => h2.to σ' H' m, fun _ _ h => h, fun _ _ h => h, fun _ _ h => h⟩)⟩
/-- never come to -/
theorem xb_dead {sts : List Stmt} : XB X sts (fun _ _ => False) D := ⟨fun σ H p => p.elim⟩
theorem xs_dead : XS X st (fun _ _ => False) D := ⟨fun σ H p => p.elim⟩
theorem xb_ex {sts : List Stmt} {α : Sort _} {Q : α → L2.St → Hp → Prop} (h : ∀ a, XB X sts (Q a) D) : XB X sts (fun σ H => ∃ a, Q a σ H) D := ⟨fun σ H ⟨a, p⟩ => (h a).to σ H p⟩
theorem xb_and {sts : List Stmt} {A : Prop} (h : A → XB X sts P D) : XB X sts (fun σ H => A ∧ P σ H) D := ⟨fun σ H ⟨a, p⟩ => (h a).to σ H p⟩
theorem xs_ex {α : Sort _} {Q : α → L2.St → Hp → Prop} (h : ∀ a, XS X st (Q a) D) : XS X st (fun σ H => ∃ a, Q a σ H) D := ⟨fun σ H ⟨a, p⟩ => (h a).to σ H p⟩
end
section
variable {X : Cx} {B : Hp} {N W : List Addr} {G G' : En} {Ms : MS} {D : Ends} {rt : VK} {bk ct : L2.St → Hp → Prop} {e a b c : Expr} {es : List Expr} {r : Vp} {rs : List Vp} {pos pos' : Pos} {x y z : Str} {ts : List Nat}
theorem xs_set (i : Nat) (hN : X.N.Nodup) (he : XE X e G r) (hi : X.N[i]? = some x := by rfl) (hx : Loc X.env.scope x := by first | exact Or.inl rfl | exact Or.inr rfl)
    (hs : swapsWith e (some (.Name x pos')) pos.line X.env = pure false := by rfl) (hf : X.fn x = true ∨ X.env.scope.names.lookup x = some .local := by first | exact .inl rfl | exact .inr rfl) :
    XS X (.Assign [.Name x pos'] e pos) (Env B N W G Ms) ⟨Env B N W (G.set i (some r)) Ms, rt, bk, ct⟩ :=
  XS.of (ps_set hN hi hx pe_sem hs hf) fun σ H E => he.to σ H _ _ E.kn fun v H1 e1 h1 => (E.ex e1).set h1
theorem xs_asg {tg : Expr} (he : XE X e G r) (hg : XG X tg r G G' ts) (hs : swapsWithSole [tg] e pos.line X.env = pure false := by rfl) (hw : swappedStores [tg] e X.env = pure none := by rfl) (h1 : (assignEach [tg] X.env).map (·.2) = [assign tg X.env] := by rfl) :
    XS X (.Assign [tg] e pos) (Env B N W G Ms) ⟨Env B N W G' Ms, rt, bk, ct⟩ :=
  XS.of (ps_asg pe_sem pg_sem hs hw h1) fun σ H E => he.to σ H _ _ E.kn fun v H1 e1 h1 => hg.to σ H1 _ v _ (E.ex e1).kn h1 fun σ' k' _ => (E.ex e1).re k'
theorem xs_par (i j : Nat) {p q : Vp} {px py pt : Pos} {kt k2 pt2} (hN : X.N.Nodup) (ha : XA X [a, b] G [p, q]) (hij : i ≠ j := by decide) (hi : X.N[i]? = some x := by rfl) (hj : X.N[j]? = some y := by rfl)
    (hx : X.env.scope.names.lookup x = some .local := by rfl) (hy : X.env.scope.names.lookup y = some .local := by rfl) (hc : X.calm = true := by rfl)
    (hw : swappedStores [.Tuple [.Name x px, .Name y py] kt pt] (.Tuple [a, b] k2 pt2) X.env = pure (some [x, y]) := by rfl)
    (hs : swapsWithSole [.Tuple [.Name x px, .Name y py] kt pt] (.Tuple [a, b] k2 pt2) pos.line X.env = pure false := by rfl) :
    XS X (.Assign [.Tuple [.Name x px, .Name y py] kt pt] (.Tuple [a, b] k2 pt2) pos) (Env B N W G Ms) ⟨Env B N W ((G.set i (some p)).set j (some q)) Ms, rt, bk, ct⟩ :=
  XS.of (ps_par hc hN hi hj hij hx hy pa_sem hw hs) fun σ H E => ha.to σ H _ _ E.kn fun vs H1 e1 h1 => by
    obtain ⟨v, u, rfl, hv, hu⟩ := h1.two
    exact ⟨v, u, rfl, ((E.ex e1).set hv).set hu⟩
theorem AllP.three {H : Hp} : ∀ {vs : List V} {r q p : Vp}, AllP H vs [r, q, p] → ∃ v u w, vs = [v, u, w] ∧ r.p H v ∧ q.p H u ∧ p.p H w
  | [v, u, w], _, _, _, ⟨h, k, l, _⟩ => ⟨v, u, w, rfl, h, k, l⟩
  | [], _, _, _, h => h.elim
  | [_], _, _, _, ⟨_, h⟩ => h.elim
  | [_, _], _, _, _, ⟨_, _, h⟩ => h.elim
  | _ :: _ :: _ :: _ :: _, _, _, _, ⟨_, _, _, h⟩ => h.elim
theorem xs_par3 (i j l : Nat) {p q o : Vp} {px py pz pt : Pos} {kt k2 pt2} (hN : X.N.Nodup) (ha : XA X [a, b, c] G [p, q, o]) (hij : i ≠ j := by decide) (hil : i ≠ l := by decide) (hjl : j ≠ l := by decide) (hi : X.N[i]? = some x := by rfl) (hj : X.N[j]? = some y := by rfl) (hl : X.N[l]? = some z := by rfl)
    (hx : X.env.scope.names.lookup x = some .local := by rfl) (hy : X.env.scope.names.lookup y = some .local := by rfl) (hz : X.env.scope.names.lookup z = some .local := by rfl) (hc : X.calm = true := by rfl)
    (hw : swappedStores [.Tuple [.Name x px, .Name y py, .Name z pz] kt pt] (.Tuple [a, b, c] k2 pt2) X.env = pure (some [x, y, z]) := by rfl)
    (hs : swapsWithSole [.Tuple [.Name x px, .Name y py, .Name z pz] kt pt] (.Tuple [a, b, c] k2 pt2) pos.line X.env = pure false := by rfl) :
    XS X (.Assign [.Tuple [.Name x px, .Name y py, .Name z pz] kt pt] (.Tuple [a, b, c] k2 pt2) pos) (Env B N W G Ms) ⟨Env B N W (((G.set i (some p)).set j (some q)).set l (some o)) Ms, rt, bk, ct⟩ :=
  XS.of (ps_par3 hc hN hi hj hl hij hil hjl hx hy hz pa_sem hw hs) fun σ H E => ha.to σ H _ _ E.kn fun vs H1 e1 h1 => by
    obtain ⟨v, u, w, rfl, hv, hu, hw⟩ := h1.three
    exact ⟨v, u, w, rfl, (((E.ex e1).set hv).set hu).set hw⟩
/-- x = [e, ..], a list that this frame writes -/
theorem xs_setM (i : Nat) (hN : X.N.Nodup) (he : XA X es G rs) (hl : rs.length ≤ sizeLine := by exact Nat.le_of_ble_eq_true rfl) (hi : X.N[i]? = some x := by rfl) (hx : Loc X.env.scope x := by first | exact Or.inl rfl | exact Or.inr rfl)
    (hs : swapsWith (.List es pos) (some (.Name x pos')) pos.line X.env = pure false := by rfl) (hf : X.fn x = true ∨ X.env.scope.names.lookup x = some .local := by first | exact .inl rfl | exact .inr rfl) {pos2 : Pos} :
    XS X (.Assign [.Name x pos'] (.List es pos) pos2) (Env B N W G Ms) ⟨fun σ H => ∃ a, Env B N W (G.set i (some (rA a))) (Ms ++ [(a, rs)]) σ H, rt, bk, ct⟩ :=
  XS.of (ps_set hN hi hx (pe_lst pa_sem) hs hf) fun σ H E => he.to σ H _ _ E.kn fun vs H1 e1 h1 => ⟨by rw [h1.len]; exact hl, fun p hp => ⟨p, ((E.ex e1).newM hp h1).set rfl⟩⟩
theorem xs_expr (he : XE X e G r) (hs : swapsWith e none pos.line X.env = pure false := by rfl) : XS X (.Expr e pos) (Env B N W G Ms) ⟨Env B N W G Ms, rt, bk, ct⟩ :=
  XS.of (ps_expr pe_sem hs) fun σ H E => he.to σ H _ _ E.kn fun v H1 e1 h1 => E.ex e1
theorem xs_ret (he : XE X e G r) (hD : ∀ σ H v, Env B N W G Ms σ H → r.p (hide (hid N W Ms) H) v → rt v H) : XS X (.Return (some e) pos) (Env B N W G Ms) ⟨fun _ _ => False, rt, bk, ct⟩ :=
  XS.of (ps_ret pe_sem) fun σ H E => he.to σ H _ _ E.kn fun v H1 e1 h1 => hD σ H1 v (E.ex e1) h1
theorem xs_if {k : Bool} {s1 s2 : List Stmt} (hc : XT X c G k) (h1 : k = true → XB X s1 (Env B N W G Ms) D) (h2 : k = false → XB X s2 (Env B N W G Ms) D) : XS X (.If c s1 s2 pos) (Env B N W G Ms) D :=
  XS.of (ps_if pt_sem pss_sem pss_sem) fun σ H E => hc.to σ H _ _ E.kn fun H1 e1 => by
    cases k with
    | true => rw [if_pos rfl]; exact (h1 rfl).to σ H1 (E.ex e1)
    | false => rw [if_neg (by decide)]; exact (h2 rfl).to σ H1 (E.ex e1)
/-- xs.append(e) -/
theorem xs_app [KK] {o : Expr} {p : Addr} {qs : List Vp} {apos : Pos} (k : Nat) (ho : XE X o G (rA p)) (he : XE X e G r) (hk : Ms[k]? = some (p, qs) := by rfl) (hl : qs.length < sizeLine)
    (hbase : attributeBase o "append" X.env (eval o X.env) = eval o X.env := by rfl)
    (hfew : ((backTo pos (starEach [e] X.env)).all (fun x => !x.1) && (backToKw pos (keywordEach [] X.env)).all (fun x => x.1.isSome) && decide ([e].length + ([] : List Keyword).length + (if ([] : List Keyword).isEmpty then 0 else 1) < 30)) = true := by rfl)
    (hline : (apos.endLine == pos.line) = true := by rfl) (hs : starEach [e] X.env = (false, eval e X.env) :: starEach [] X.env := by rfl) (hpl : (backTo pos (starEach [] X.env)).any (·.1) = false := by rfl)
    (hs2 : swapsWith (.Call (.Attribute o "append" apos) [e] [] pos) none pos'.line X.env = pure false := by rfl) :
    XS X (.Expr (.Call (.Attribute o "append" apos) [e] [] pos) pos') (Env B N W G Ms) ⟨Env B N W G (Ms.set k (p, qs ++ [r])), rt, bk, ct⟩ :=
  XS.of (ps_expr (pe_bm PySem.F.plainAttrs_list PySem.F.slot_list_append PySem.F.type_list_append mt_append pe_sem pa_sem hbase hfew hline hs hpl) hs2) fun σ H E => ho.to σ H _ _ E.kn fun v H1 e1 h1 => by
    have E1 := E.ex e1
    obtain rfl : v = .ref p := h1
    obtain ⟨vs, hv, hA⟩ := E1.cont (p, qs) (List.mem_of_getElem? hk)
    refine ⟨.inl ⟨rfl, _, SqL.of hv⟩, (xa_cons he xa_nil hs).to σ H1 _ _ E1.kn fun us H2 e2 h2 => ?_⟩
    obtain ⟨u, rfl, hu⟩ := h2.one
    refine ⟨p, vs, u, rfl, rfl, e2 _ _ hv, by rw [hA.len]; exact hl, ?_⟩
    exact (E1.ex e2).wr hk ((hA.mono (e2.hide _)).append ⟨hu, trivial⟩)
/-- xs.extend(e), e a list made -/
theorem xs_ext [KK] {o : Expr} {p : Addr} {qs : List Vp} {apos : Pos} (k : Nat) (ho : XE X o G (rA p)) (he : XE X e G (rL rs)) (hl : qs.length + rs.length ≤ sizeLine) (hk : Ms[k]? = some (p, qs) := by rfl)
    (hbase : attributeBase o "extend" X.env (eval o X.env) = eval o X.env := by rfl)
    (hfew : ((backTo pos (starEach [e] X.env)).all (fun x => !x.1) && (backToKw pos (keywordEach [] X.env)).all (fun x => x.1.isSome) && decide ([e].length + ([] : List Keyword).length + (if ([] : List Keyword).isEmpty then 0 else 1) < 30)) = true := by rfl)
    (hline : (apos.endLine == pos.line) = true := by rfl) (hs : starEach [e] X.env = (false, eval e X.env) :: starEach [] X.env := by rfl) (hpl : (backTo pos (starEach [] X.env)).any (·.1) = false := by rfl)
    (hs2 : swapsWith (.Call (.Attribute o "extend" apos) [e] [] pos) none pos'.line X.env = pure false := by rfl) :
    XS X (.Expr (.Call (.Attribute o "extend" apos) [e] [] pos) pos') (Env B N W G Ms) ⟨Env B N W G (Ms.set k (p, qs ++ rs)), rt, bk, ct⟩ :=
  XS.of (ps_expr (pe_bm PySem.F.plainAttrs_list PySem.F.slot_list_extend PySem.F.type_list_extend mt_extend pe_sem pa_sem hbase hfew hline hs hpl) hs2) fun σ H E => ho.to σ H _ _ E.kn fun v H1 e1 h1 => by
    have E1 := E.ex e1
    obtain rfl : v = .ref p := h1
    obtain ⟨vs, hv, hA⟩ := E1.cont (p, qs) (List.mem_of_getElem? hk)
    refine ⟨.inl ⟨rfl, _, SqL.of hv⟩, (xa_cons he xa_nil hs).to σ H1 _ _ E1.kn fun us H2 e2 h2 => ?_⟩
    obtain ⟨u, rfl, t, zs, rfl, hS, hA2⟩ := h2.one
    have l1 := hA.len
    have l2 := hA2.len
    refine ⟨p, t, vs, zs, rfl, rfl, e2 _ _ hv, hide_le _ _ _ _ hS, by simp only at l1; omega, ?_⟩
    exact (E1.ex e2).wr hk ((hA.mono (e2.hide _)).append hA2)
/-- what a def of ours that only reads is to reach: H0 the heap at the entry -/
def EndsR (H0 : Hp) (N : List Addr) (r : Vp) : Ends := { nx := fun _ H' => Ex H0 H' ∧ r.p (hide N H') .non, rt := fun v H' => Ex H0 H' ∧ r.p (hide N H') v }
theorem xs_retR {H0 : Hp} (he : XE X e G r) (hB : Ex H0 B) : XS X (.Return (some e) pos) (Env B N [] G Ms) ⟨fun _ _ => False, (EndsR H0 N r).rt, bk, ct⟩ :=
  xs_ret he fun σ H v E h => ⟨hB.trans E.base, r.mono (hide_sub (fun a h => List.mem_append_left _ h) H) h⟩
theorem xb_endN {H0 : Hp} (hB : Ex H0 B) : XB X [] (Env B N [] G Ms) (EndsR H0 N rN) := xb_nil fun σ H E => ⟨hB.trans E.base, rfl⟩
/-! ### loops -/
def Nx (B : Hp) (N W : List Addr) {A : Type} (I : Nat → A → Prop) (Gf : Nat → A → En) (Mf : Nat → A → MS) (i : Nat) : L2.St → Hp → Prop := fun σ H => ∃ a, I i a ∧ Env B N W (Gf i a) (Mf i a) σ H
theorem xs_for [KK] {A : Type} {tg iter : Expr} {body : List Stmt} (I : Nat → A → Prop) (Gf : Nat → A → En) (Mf : Nat → A → MS) (hi : XI X tg iter G rs) (a0 : A) (h0 : I 0 a0) (hG : GSub (Gf 0 a0) G) (hM : Mf 0 a0 = Ms)
    (hs : ∀ B' i p a, Ex B B' → rs[i]? = some p → I i a → ∃ G1 ts, XG X tg p (Gf i a) G1 ts ∧ XB X body (Env B' N W G1 (Mf i a)) { D with nx := Nx B' N W I Gf Mf (i + 1), ct := Nx B' N W I Gf Mf (i + 1), bk := D.nx })
    (hd : ∀ a, I rs.length a → ∀ σ H, Env B N W (Gf rs.length a) (Mf rs.length a) σ H → D.nx σ H)
    (hp : PassesOwn (model X.prog X.w) X.A X.env X.xe := by exact PassesOwn.never) (hc : X.calm = true := by rfl) (hf : ∀ x, foldedSetIterable iter X.env x = pure x := by intro _; rfl) :
    XS X (.For tg iter body [] pos) (Env B N W G Ms) D :=
  XS.of (ps_for hp hc pi_sem pg_sem pss_sem hf) fun σ H E => hi.to σ H _ _ E.kn fun J H1 e1 WV => by
    have E1 := E.ex e1
    have eB : Ex B (hide (W ++ Ms.map (·.1)) H1) := fun a o h => by
      rw [hide_out fun z => by rw [E.new a z] at h; cases h]
      exact E1.base a o h
    have old1 : ∀ a ∈ N, ∃ o, (hide (W ++ Ms.map (·.1)) H1) a = some o ∧ isM o = true := fun a ha => by
      obtain ⟨o, h1, h2⟩ := E.old a ha
      exact ⟨o, eB _ _ h1, h2⟩
    have start : Env (hide (W ++ Ms.map (·.1)) H1) N W G Ms σ H1 := ⟨E1.kn, E1.cont, E1.nd, hide_le _ _, fun a ha => hide_in ha, old1, E1.dice⟩
    have eB0 : Ex (hide (hid N W Ms) H1) (hide (W ++ Ms.map (·.1)) H1) := hide_sub (fun a h => List.mem_append_right _ h) H1
    have hN0 : ∀ a ∈ N, hide (hid N W Ms) H1 a = none := fun a ha => hide_in (List.mem_append_left _ ha)
    refine ⟨fun i m σ H => i + m = rs.length ∧ Nx (hide (W ++ Ms.map (·.1)) H1) N W I Gf Mf i σ H, ⟨rs.length, by omega, a0, h0, by rw [hM]; exact start.sub hG⟩, fun i m σ2 H2 ⟨hm, a, hI, E2⟩ => ?_⟩
    have e2 : Ex (hide (hid N W Ms) H1) H2 := eB0.trans E2.base
    by_cases hn : i = rs.length
    · subst hn
      exact .inl ⟨WV.stop H2 e2, hd a hI σ2 H2 (E2.low eB E.old)⟩
    · have hlt : i < rs.length := by omega
      refine .inr ⟨WV.go i H2 e2 hlt, Nx (hide (W ++ Ms.map (·.1)) H1) N W I Gf Mf (i + 1), fun σ' H' h => ⟨m - 1, by omega, by omega, h⟩, fun v H3 hy => ?_⟩
      obtain ⟨e3, hr⟩ := WV.yld i H2 v H3 e2 hy hlt
      have hM2 : Ex (hide (hid N W Ms) H1) (hide (hid N W (Mf i a)) H2) := fun b o h => by
        have hb : b ∉ hid N W (Mf i a) := fun z => by
          unfold hid at z
          rcases List.mem_append.mp z with z | z
          · rw [hN0 b z] at h; cases h
          · have := E2.new b z
            rw [eB0 b o h] at this; cases this
        rw [hide_out hb]
        exact e2 b o h
      obtain ⟨p, hp1, hp2⟩ := hr _ E2.kn.mu hM2
      obtain ⟨G1, ts, hg, hb⟩ := hs _ i p a eB hp1 hI
      exact hg.to σ2 H3 _ v _ (E2.ex e3).kn hp2 fun σ3 k3 _ => hb.to σ3 H3 ((E2.ex e3).re k3)
theorem xs_while {A : Type} {body : List Stmt} (I : A → Prop) (Gf : A → En) (μ : A → Nat) (k : A → Bool) (a0 : A) (h0 : I a0) (hG : GSub (Gf a0) G) (hc : ∀ a, I a → XT X c (Gf a) (k a))
    (hs : ∀ a, I a → k a = true → XB X body (Env B N W (Gf a) Ms) { D with nx := fun σ H => ∃ a', I a' ∧ μ a' < μ a ∧ Env B N W (Gf a') Ms σ H, ct := fun σ H => ∃ a', I a' ∧ μ a' < μ a ∧ Env B N W (Gf a') Ms σ H, bk := D.nx })
    (hd : ∀ a, I a → k a = false → ∀ σ H, Env B N W (Gf a) Ms σ H → D.nx σ H) (hp : PassesOwn (model X.prog X.w) X.A X.env X.xe := by exact PassesOwn.never) : XS X (.While c body [] pos) (Env B N W G Ms) D :=
  XS.of (ps_while hp pt_sem pss_sem) fun σ H E => by
    refine ⟨fun m σ H => ∃ a, I a ∧ μ a = m ∧ Env B N W (Gf a) Ms σ H, ⟨μ a0, a0, h0, rfl, E.sub hG⟩, fun m σ2 H2 ⟨a, hI, hm, E2⟩ => ?_⟩
    refine (hc a hI).to σ2 H2 _ _ E2.kn fun H3 e3 => ?_
    cases hk : k a with
    | true =>
      rw [if_pos rfl]
      exact ⟨_, fun σ' H' ⟨a', h1, h2, h3⟩ => ⟨μ a', by omega, a', h1, rfl, h3⟩, (hs a hI hk).to σ2 H3 (E2.ex e3)⟩
    | false =>
      rw [if_neg (by decide)]
      exact hd a hI hk σ2 H3 (E2.ex e3)
end
end TL
/-! Defs. -/
namespace TL
open PySem PySem.Spec PyProof.Rows L2
section
variable [KK] {P : Program} {w : World} {mg : Str → Option Value} {base : Heap}
theorem kn_start {N ps : List Str} {M : List Addr} {H : Hp} {vs : List V} {rs : List Vp} (hl : rs.length = ps.length) (hle : ps.length ≤ N.length) (hA : AllP (hide M H) vs rs) (hM : ∀ a ∈ M, ∃ o, H a = some o ∧ isM o = true) :
    Kn (rs.map some ++ List.replicate (N.length - ps.length) none) M (L2.start N vs) H := by
  have hlv := hA.len
  refine ⟨fun i r h => ?_, hM, ?_⟩
  · have hi : i < rs.length := by
      by_cases q : i < rs.length
      · exact q
      · rw [List.getElem?_append_right (by rw [List.length_map]; omega)] at h
        rw [List.getElem?_replicate] at h
        split at h <;> cases h
    rw [List.getElem?_append_left (by rw [List.length_map]; exact hi), List.getElem?_map] at h
    cases q : rs[i]? with
    | none => rw [q] at h; cases h
    | some r' =>
      rw [q] at h
      have : r' = r := by simpa using h
      subst this
      obtain ⟨v, h1, h2⟩ := hA.get q
      refine ⟨v, ?_, h2⟩
      unfold L2.start
      rw [List.getElem?_append_left (by rw [List.length_map]; omega), List.getElem?_map, h1]; rfl
  · unfold L2.start
    rw [List.length_append, List.length_append, List.length_map, List.length_map, List.length_replicate, List.length_replicate]
    omega
/-- THE RULE for a def that only reads -/
theorem fn_ok {S : List Vp → Vp → Prop} {x qual : Str} {st : Stmt} {f : Addr} {fd : FuncData} {N ps : List Str} {k : Nat} (F : FunD KK.K x qual (defArgs st) (defBody st) (defScope st) [] [] f fd) (hm : mg x = some (.ref f))
    (hb : ∀ (kV doc pm : Value) (an : Option Addr) (cdv ct : Value) (us : List Value), us.length = ps.length → bindArgs (PySem.W.fnOf x qual (defArgs st) (defBody st) (defScope st) .none kV doc pm an cdv ct) ⟨us, []⟩ = pure (ps.zip us))
    (sc : FnScope N ps (defScope st)) (hle : ps.length ≤ N.length) (hlen : ∀ rs r, S rs r → rs.length = ps.length)
    (body : ∀ (cdv : Value) (A : Around) (outer : List PySem.Env) (s : Shared) (H : Hp) (E : XK) (M : List Addr) (rs : List Vp) (r : Vp), Room k (A.deeper (envOfC qual (defScope st) s.heap.objs.size f cdv)) → S rs r →
      XB (Cx.nox (cxOf CX0 P w KK.K mg base N qual (defScope st) f cdv A outer s H E)) (defBody st) (Env H M [] (rs.map some ++ List.replicate (N.length - ps.length) none) []) (EndsR H M r)) :
    Fn P w mg base x (k + 1) (spF S) := by
  refine ⟨f, fd, ps, F.ok sc (fun vs H Q E h => ?_) (fun cdv A outer s H vs Q E hr h => ?_), hm, F.kp, F.bindsN hb⟩
  · obtain ⟨M, rs, r, hM, hS, hA, hQ⟩ := h
    rw [hA.len, hlen rs r hS]
  · obtain ⟨M, rs, r, hM, hS, hA, hQ⟩ := h
    refine ⟨_, PSs.nox pss_sem, ?_⟩
    have E0 : Env H M [] (rs.map some ++ List.replicate (N.length - ps.length) none) [] (L2.start N vs) H := by
      have hh : hid M [] [] = M := by unfold hid; simp
      refine ⟨?_, fun m hm => (nomatch hm), by simp, Ex.refl _, fun a ha => by simp at ha, hM, fun a ha => (nomatch ha)⟩
      rw [hh]
      exact kn_start (hlen rs r hS) hle hA hM
    exact semB_le ((body cdv A outer s H E M rs r hr hS).to _ H E0) ⟨fun σ H' ⟨h1, h2⟩ => hQ _ H' h1 h2, fun v H' ⟨h1, h2⟩ => hQ v H' h1 h2, fun _ _ h => h, fun _ _ h => h⟩
end
end TL
set_option maxHeartbeats 0
namespace M33
open PySem PySem.Spec PyProof.Rows L2
def top (i : Nat) : Stmt := PySem.Challenge.pw_anymargin_k33_whole_stays_split.main.body.getD i (.Pass ⟨0, 0, 0, 0⟩)
abbrev R : PySem.W.OpenRow := PySem.W.OpenLaw.row PySem.Challenge.rw_anymargin_k33_whole_stays_split
abbrev s_is_whole : Stmt := top 10
abbrev s_is_short : Stmt := top 11
abbrev s_is_from : Stmt := top 12
abbrev s_shared_in : Stmt := top 17
abbrev s_lowest : Stmt := top 18
abbrev s_sum_in : Stmt := top 19
abbrev s_less_in : Stmt := top 20
abbrev s_is_below : Stmt := top 21
abbrev s_greatest_in : Stmt := top 22
abbrev s_total_in : Stmt := top 23
abbrev s_is_fraction : Stmt := top 24
abbrev s_is_margin : Stmt := top 25
abbrev s_are_limits : Stmt := top 33
abbrev s_is_guard : Stmt := top 34
abbrev s_are_guards : Stmt := top 35
abbrev s_is_ascending : Stmt := top 36
abbrev s_is_door_in : Stmt := top 37
abbrev s_rooms_fault : Stmt := top 38
abbrev s_doors_fault : Stmt := top 39
abbrev s_fault_of : Stmt := top 40
abbrev s_require_machine : Stmt := top 42
abbrev s_is_step : Stmt := top 51
abbrev s_are_steps : Stmt := top 52
abbrev s_do_follow : Stmt := top 53
abbrev s_is_run_of : Stmt := top 54
abbrev s_grown : Stmt := top 55
abbrev s_put_back_in : Stmt := top 56
abbrev s_standings_of : Stmt := top 57
abbrev s_above : Stmt := top 58
abbrev s_below : Stmt := top 59
abbrev s_misses_at : Stmt := top 60
abbrev s_misses_of : Stmt := top 61
abbrev s_needed_of : Stmt := top 62
abbrev s_are_shared : Stmt := top 66
abbrev s_shifted : Stmt := top 67
abbrev s_first_doors : Stmt := top 68
abbrev s_last_doors : Stmt := top 69
abbrev s_both_door : Stmt := top 70
abbrev s_doors_and_sides : Stmt := top 71
abbrev s_require_sizes : Stmt := top 72
abbrev s_is_stay_of : Stmt := top 74
abbrev s_length_of : Stmt := top 75
abbrev s_stay_needed_of : Stmt := top 76
abbrev s_side_stay : Stmt := top 77
abbrev s_require_net : Stmt := top 78
abbrev s_require_stay : Stmt := top 79
abbrev s_is_stay : Stmt := top 80
abbrev s_stay_length : Stmt := top 81
abbrev s_stay_needed : Stmt := top 82
abbrev s_split : Stmt := top 83
abbrev s_L_dice : Stmt := top 85
abbrev s_L_roll : Stmt := top 86
abbrev s_L_pick : Stmt := top 87
abbrev s_L_ma_guard : Stmt := top 88
abbrev s_L_ma_lot : Stmt := top 89
abbrev s_L_ma_door : Stmt := top 90
abbrev s_L_fr_low : Stmt := top 91
abbrev s_L_fr_plus : Stmt := top 92
abbrev s_L_fr_less : Stmt := top 93
abbrev s_L_fr_below : Stmt := top 94
abbrev s_L_fr_most : Stmt := top 95
abbrev s_L_fr_wait : Stmt := top 96
abbrev s_L_ru_waited : Stmt := top 97
abbrev s_L_ru_put : Stmt := top 98
abbrev s_L_ru_over : Stmt := top 99
abbrev s_L_ru_walked : Stmt := top 100
abbrev s_L_ru_drawn : Stmt := top 101
abbrev s_L_ru_long : Stmt := top 102
abbrev s_L_ru_length : Stmt := top 103
abbrev s_L_ne_machine : Stmt := top 104
abbrev s_L_ne_drawn : Stmt := top 105
abbrev s_L_ne_net : Stmt := top 106
abbrev s_L_ne_split : Stmt := top 107
abbrev s_L_near : Stmt := top 108
abbrev s_L_is_due : Stmt := top 109
abbrev s_L_is_wait : Stmt := top 110
abbrev s_L_right : Stmt := top 111
abbrev s_law : Stmt := top 112
abbrev s_Machine_init : Stmt := inClass (top 41) 1
abbrev s_Net_init : Stmt := inClass (top 73) 1
abbrev s_Net_one : Stmt := inClass (top 73) 2
abbrev s_Net_other : Stmt := inClass (top 73) 3
abbrev s_Net_machine : Stmt := inClass (top 73) 5
def d_is_whole : He.DefD := ⟨("is_whole", none), "is_whole", "is_whole", defArgs s_is_whole, defBody s_is_whole, defScope s_is_whole, [], []⟩
def d_is_short : He.DefD := ⟨("is_short", none), "is_short", "is_short", defArgs s_is_short, defBody s_is_short, defScope s_is_short, [], []⟩
def d_is_from : He.DefD := ⟨("is_from", none), "is_from", "is_from", defArgs s_is_from, defBody s_is_from, defScope s_is_from, [], []⟩
def d_shared_in : He.DefD := ⟨("shared_in", none), "shared_in", "shared_in", defArgs s_shared_in, defBody s_shared_in, defScope s_shared_in, [], []⟩
def d_lowest : He.DefD := ⟨("lowest", none), "lowest", "lowest", defArgs s_lowest, defBody s_lowest, defScope s_lowest, [], []⟩
def d_sum_in : He.DefD := ⟨("sum_in", none), "sum_in", "sum_in", defArgs s_sum_in, defBody s_sum_in, defScope s_sum_in, [], []⟩
def d_less_in : He.DefD := ⟨("less_in", none), "less_in", "less_in", defArgs s_less_in, defBody s_less_in, defScope s_less_in, [], []⟩
def d_is_below : He.DefD := ⟨("is_below", none), "is_below", "is_below", defArgs s_is_below, defBody s_is_below, defScope s_is_below, [], []⟩
def d_greatest_in : He.DefD := ⟨("greatest_in", none), "greatest_in", "greatest_in", defArgs s_greatest_in, defBody s_greatest_in, defScope s_greatest_in, [], []⟩
def d_total_in : He.DefD := ⟨("total_in", none), "total_in", "total_in", defArgs s_total_in, defBody s_total_in, defScope s_total_in, [], []⟩
def d_is_fraction : He.DefD := ⟨("is_fraction", none), "is_fraction", "is_fraction", defArgs s_is_fraction, defBody s_is_fraction, defScope s_is_fraction, [], []⟩
def d_is_margin : He.DefD := ⟨("is_margin", none), "is_margin", "is_margin", defArgs s_is_margin, defBody s_is_margin, defScope s_is_margin, [], []⟩
def d_are_limits : He.DefD := ⟨("are_limits", none), "are_limits", "are_limits", defArgs s_are_limits, defBody s_are_limits, defScope s_are_limits, [], []⟩
def d_is_guard : He.DefD := ⟨("is_guard", none), "is_guard", "is_guard", defArgs s_is_guard, defBody s_is_guard, defScope s_is_guard, [], []⟩
def d_are_guards : He.DefD := ⟨("are_guards", none), "are_guards", "are_guards", defArgs s_are_guards, defBody s_are_guards, defScope s_are_guards, [], []⟩
def d_is_ascending : He.DefD := ⟨("is_ascending", none), "is_ascending", "is_ascending", defArgs s_is_ascending, defBody s_is_ascending, defScope s_is_ascending, [], []⟩
def d_is_door_in : He.DefD := ⟨("is_door_in", none), "is_door_in", "is_door_in", defArgs s_is_door_in, defBody s_is_door_in, defScope s_is_door_in, [], []⟩
def d_rooms_fault : He.DefD := ⟨("rooms_fault", none), "rooms_fault", "rooms_fault", defArgs s_rooms_fault, defBody s_rooms_fault, defScope s_rooms_fault, [], []⟩
def d_doors_fault : He.DefD := ⟨("doors_fault", none), "doors_fault", "doors_fault", defArgs s_doors_fault, defBody s_doors_fault, defScope s_doors_fault, [], []⟩
def d_fault_of : He.DefD := ⟨("fault_of", none), "fault_of", "fault_of", defArgs s_fault_of, defBody s_fault_of, defScope s_fault_of, [], []⟩
def d_require_machine : He.DefD := ⟨("require_machine", none), "require_machine", "require_machine", defArgs s_require_machine, defBody s_require_machine, defScope s_require_machine, [], []⟩
def d_is_step : He.DefD := ⟨("is_step", none), "is_step", "is_step", defArgs s_is_step, defBody s_is_step, defScope s_is_step, [], []⟩
def d_are_steps : He.DefD := ⟨("are_steps", none), "are_steps", "are_steps", defArgs s_are_steps, defBody s_are_steps, defScope s_are_steps, [], []⟩
def d_do_follow : He.DefD := ⟨("do_follow", none), "do_follow", "do_follow", defArgs s_do_follow, defBody s_do_follow, defScope s_do_follow, [], []⟩
def d_is_run_of : He.DefD := ⟨("is_run_of", none), "is_run_of", "is_run_of", defArgs s_is_run_of, defBody s_is_run_of, defScope s_is_run_of, [], []⟩
def d_grown : He.DefD := ⟨("grown", none), "grown", "grown", defArgs s_grown, defBody s_grown, defScope s_grown, [], []⟩
def d_put_back_in : He.DefD := ⟨("put_back_in", none), "put_back_in", "put_back_in", defArgs s_put_back_in, defBody s_put_back_in, defScope s_put_back_in, [], []⟩
def d_standings_of : He.DefD := ⟨("standings_of", none), "standings_of", "standings_of", defArgs s_standings_of, defBody s_standings_of, defScope s_standings_of, [], []⟩
def d_above : He.DefD := ⟨("above", none), "above", "above", defArgs s_above, defBody s_above, defScope s_above, [], []⟩
def d_below : He.DefD := ⟨("below", none), "below", "below", defArgs s_below, defBody s_below, defScope s_below, [], []⟩
def d_misses_at : He.DefD := ⟨("misses_at", none), "misses_at", "misses_at", defArgs s_misses_at, defBody s_misses_at, defScope s_misses_at, [], []⟩
def d_misses_of : He.DefD := ⟨("misses_of", none), "misses_of", "misses_of", defArgs s_misses_of, defBody s_misses_of, defScope s_misses_of, [], []⟩
def d_needed_of : He.DefD := ⟨("needed_of", none), "needed_of", "needed_of", defArgs s_needed_of, defBody s_needed_of, defScope s_needed_of, [], []⟩
def d_are_shared : He.DefD := ⟨("are_shared", none), "are_shared", "are_shared", defArgs s_are_shared, defBody s_are_shared, defScope s_are_shared, [], []⟩
def d_shifted : He.DefD := ⟨("shifted", none), "shifted", "shifted", defArgs s_shifted, defBody s_shifted, defScope s_shifted, [], []⟩
def d_first_doors : He.DefD := ⟨("first_doors", none), "first_doors", "first_doors", defArgs s_first_doors, defBody s_first_doors, defScope s_first_doors, [], []⟩
def d_last_doors : He.DefD := ⟨("last_doors", none), "last_doors", "last_doors", defArgs s_last_doors, defBody s_last_doors, defScope s_last_doors, [], []⟩
def d_both_door : He.DefD := ⟨("both_door", none), "both_door", "both_door", defArgs s_both_door, defBody s_both_door, defScope s_both_door, [], []⟩
def d_doors_and_sides : He.DefD := ⟨("doors_and_sides", none), "doors_and_sides", "doors_and_sides", defArgs s_doors_and_sides, defBody s_doors_and_sides, defScope s_doors_and_sides, [], []⟩
def d_require_sizes : He.DefD := ⟨("require_sizes", none), "require_sizes", "require_sizes", defArgs s_require_sizes, defBody s_require_sizes, defScope s_require_sizes, [], []⟩
def d_is_stay_of : He.DefD := ⟨("is_stay_of", none), "is_stay_of", "is_stay_of", defArgs s_is_stay_of, defBody s_is_stay_of, defScope s_is_stay_of, [], []⟩
def d_length_of : He.DefD := ⟨("length_of", none), "length_of", "length_of", defArgs s_length_of, defBody s_length_of, defScope s_length_of, [], []⟩
def d_stay_needed_of : He.DefD := ⟨("stay_needed_of", none), "stay_needed_of", "stay_needed_of", defArgs s_stay_needed_of, defBody s_stay_needed_of, defScope s_stay_needed_of, [], []⟩
def d_side_stay : He.DefD := ⟨("side_stay", none), "side_stay", "side_stay", defArgs s_side_stay, defBody s_side_stay, defScope s_side_stay, [], []⟩
def d_require_net : He.DefD := ⟨("require_net", none), "require_net", "require_net", defArgs s_require_net, defBody s_require_net, defScope s_require_net, [], []⟩
def d_require_stay : He.DefD := ⟨("require_stay", none), "require_stay", "require_stay", defArgs s_require_stay, defBody s_require_stay, defScope s_require_stay, [], []⟩
def d_is_stay : He.DefD := ⟨("is_stay", none), "is_stay", "is_stay", defArgs s_is_stay, defBody s_is_stay, defScope s_is_stay, [], []⟩
def d_stay_length : He.DefD := ⟨("stay_length", none), "stay_length", "stay_length", defArgs s_stay_length, defBody s_stay_length, defScope s_stay_length, [], []⟩
def d_stay_needed : He.DefD := ⟨("stay_needed", none), "stay_needed", "stay_needed", defArgs s_stay_needed, defBody s_stay_needed, defScope s_stay_needed, [], []⟩
def d_split : He.DefD := ⟨("split", none), "split", "split", defArgs s_split, defBody s_split, defScope s_split, [], []⟩
def d_L_dice : He.DefD := ⟨("_law_dice", none), "_law_dice", "_law_dice", defArgs s_L_dice, defBody s_L_dice, defScope s_L_dice, [], []⟩
def d_L_roll : He.DefD := ⟨("_law_roll", none), "_law_roll", "_law_roll", defArgs s_L_roll, defBody s_L_roll, defScope s_L_roll, [], []⟩
def d_L_pick : He.DefD := ⟨("_law_pick", none), "_law_pick", "_law_pick", defArgs s_L_pick, defBody s_L_pick, defScope s_L_pick, [], []⟩
def d_L_ma_guard : He.DefD := ⟨("_law_ma_guard", none), "_law_ma_guard", "_law_ma_guard", defArgs s_L_ma_guard, defBody s_L_ma_guard, defScope s_L_ma_guard, [], []⟩
def d_L_ma_lot : He.DefD := ⟨("_law_ma_lot", none), "_law_ma_lot", "_law_ma_lot", defArgs s_L_ma_lot, defBody s_L_ma_lot, defScope s_L_ma_lot, [], []⟩
def d_L_ma_door : He.DefD := ⟨("_law_ma_door", none), "_law_ma_door", "_law_ma_door", defArgs s_L_ma_door, defBody s_L_ma_door, defScope s_L_ma_door, [], []⟩
def d_L_fr_low : He.DefD := ⟨("_law_fr_low", none), "_law_fr_low", "_law_fr_low", defArgs s_L_fr_low, defBody s_L_fr_low, defScope s_L_fr_low, [], []⟩
def d_L_fr_plus : He.DefD := ⟨("_law_fr_plus", none), "_law_fr_plus", "_law_fr_plus", defArgs s_L_fr_plus, defBody s_L_fr_plus, defScope s_L_fr_plus, [], []⟩
def d_L_fr_less : He.DefD := ⟨("_law_fr_less", none), "_law_fr_less", "_law_fr_less", defArgs s_L_fr_less, defBody s_L_fr_less, defScope s_L_fr_less, [], []⟩
def d_L_fr_below : He.DefD := ⟨("_law_fr_below", none), "_law_fr_below", "_law_fr_below", defArgs s_L_fr_below, defBody s_L_fr_below, defScope s_L_fr_below, [], []⟩
def d_L_fr_most : He.DefD := ⟨("_law_fr_most", none), "_law_fr_most", "_law_fr_most", defArgs s_L_fr_most, defBody s_L_fr_most, defScope s_L_fr_most, [], []⟩
def d_L_fr_wait : He.DefD := ⟨("_law_fr_wait", none), "_law_fr_wait", "_law_fr_wait", defArgs s_L_fr_wait, defBody s_L_fr_wait, defScope s_L_fr_wait, [], []⟩
def d_L_ru_waited : He.DefD := ⟨("_law_ru_waited", none), "_law_ru_waited", "_law_ru_waited", defArgs s_L_ru_waited, defBody s_L_ru_waited, defScope s_L_ru_waited, [], []⟩
def d_L_ru_put : He.DefD := ⟨("_law_ru_put", none), "_law_ru_put", "_law_ru_put", defArgs s_L_ru_put, defBody s_L_ru_put, defScope s_L_ru_put, [], []⟩
def d_L_ru_over : He.DefD := ⟨("_law_ru_over", none), "_law_ru_over", "_law_ru_over", defArgs s_L_ru_over, defBody s_L_ru_over, defScope s_L_ru_over, [], []⟩
def d_L_ru_walked : He.DefD := ⟨("_law_ru_walked", none), "_law_ru_walked", "_law_ru_walked", defArgs s_L_ru_walked, defBody s_L_ru_walked, defScope s_L_ru_walked, [], []⟩
def d_L_ru_drawn : He.DefD := ⟨("_law_ru_drawn", none), "_law_ru_drawn", "_law_ru_drawn", defArgs s_L_ru_drawn, defBody s_L_ru_drawn, defScope s_L_ru_drawn, [], []⟩
def d_L_ru_long : He.DefD := ⟨("_law_ru_long", none), "_law_ru_long", "_law_ru_long", defArgs s_L_ru_long, defBody s_L_ru_long, defScope s_L_ru_long, [], []⟩
def d_L_ru_length : He.DefD := ⟨("_law_ru_length", none), "_law_ru_length", "_law_ru_length", defArgs s_L_ru_length, defBody s_L_ru_length, defScope s_L_ru_length, [], []⟩
def d_L_ne_machine : He.DefD := ⟨("_law_ne_machine", none), "_law_ne_machine", "_law_ne_machine", defArgs s_L_ne_machine, defBody s_L_ne_machine, defScope s_L_ne_machine, [], []⟩
def d_L_ne_drawn : He.DefD := ⟨("_law_ne_drawn", none), "_law_ne_drawn", "_law_ne_drawn", defArgs s_L_ne_drawn, defBody s_L_ne_drawn, defScope s_L_ne_drawn, [], []⟩
def d_L_ne_net : He.DefD := ⟨("_law_ne_net", none), "_law_ne_net", "_law_ne_net", defArgs s_L_ne_net, defBody s_L_ne_net, defScope s_L_ne_net, [], []⟩
def d_L_ne_split : He.DefD := ⟨("_law_ne_split", none), "_law_ne_split", "_law_ne_split", defArgs s_L_ne_split, defBody s_L_ne_split, defScope s_L_ne_split, [], []⟩
def d_L_near : He.DefD := ⟨("_law_near", none), "_law_near", "_law_near", defArgs s_L_near, defBody s_L_near, defScope s_L_near, [], []⟩
def d_L_is_due : He.DefD := ⟨("_law_is_due", none), "_law_is_due", "_law_is_due", defArgs s_L_is_due, defBody s_L_is_due, defScope s_L_is_due, [], []⟩
def d_L_is_wait : He.DefD := ⟨("_law_is_wait", none), "_law_is_wait", "_law_is_wait", defArgs s_L_is_wait, defBody s_L_is_wait, defScope s_L_is_wait, [], []⟩
def d_L_right : He.DefD := ⟨("_law_right", none), "_law_right", "_law_right", defArgs s_L_right, defBody s_L_right, defScope s_L_right, [], []⟩
def d_law : He.DefD := ⟨("law", none), "law", "law", defArgs s_law, defBody s_law, defScope s_law, [], []⟩
def d_Machine_init : He.DefD := ⟨("Machine", some "__init__"), "__init__", "Machine.__init__", defArgs s_Machine_init, defBody s_Machine_init, defScope s_Machine_init, [], []⟩
def d_Net_init : He.DefD := ⟨("Net", some "__init__"), "__init__", "Net.__init__", defArgs s_Net_init, defBody s_Net_init, defScope s_Net_init, [], []⟩
def fn0 : List He.DefD := [d_is_whole, d_is_short, d_is_from, d_shared_in, d_lowest, d_sum_in, d_less_in, d_is_below, d_greatest_in, d_total_in, d_is_fraction, d_is_margin]
def fn1 : List He.DefD := [d_are_limits, d_is_guard, d_are_guards, d_is_ascending, d_is_door_in, d_rooms_fault, d_doors_fault, d_fault_of, d_require_machine, d_is_step, d_are_steps, d_do_follow]
def fn2 : List He.DefD := [d_is_run_of, d_grown, d_put_back_in, d_standings_of, d_above, d_below, d_misses_at, d_misses_of, d_needed_of, d_are_shared, d_shifted, d_first_doors]
def fn3 : List He.DefD := [d_last_doors, d_both_door, d_doors_and_sides, d_require_sizes, d_is_stay_of, d_length_of, d_stay_needed_of, d_side_stay, d_require_net, d_require_stay, d_is_stay, d_stay_length]
def fn4 : List He.DefD := [d_stay_needed, d_split, d_L_dice, d_L_roll, d_L_pick, d_L_ma_guard, d_L_ma_lot, d_L_ma_door, d_L_fr_low, d_L_fr_plus, d_L_fr_less, d_L_fr_below]
def fn5 : List He.DefD := [d_L_fr_most, d_L_fr_wait, d_L_ru_waited, d_L_ru_put, d_L_ru_over, d_L_ru_walked, d_L_ru_drawn, d_L_ru_long, d_L_ru_length, d_L_ne_machine, d_L_ne_drawn, d_L_ne_net]
def fn6 : List He.DefD := [d_L_ne_split, d_L_near, d_L_is_due, d_L_is_wait, d_L_right, d_law, d_Machine_init, d_Net_init]
def fn : List He.DefD := fn0 ++ fn1 ++ fn2 ++ fn3 ++ fn4 ++ fn5 ++ fn6
def fa0 : List He.Fa := [.glo "is_whole", .glo "is_short", .glo "is_from", .glo "shared_in", .glo "lowest", .glo "sum_in", .glo "less_in", .glo "is_below", .glo "greatest_in", .glo "total_in", .glo "is_fraction", .glo "is_margin"]
def fa1 : List He.Fa := [.glo "are_limits", .glo "is_guard", .glo "are_guards", .glo "is_ascending", .glo "is_door_in", .glo "rooms_fault", .glo "doors_fault", .glo "fault_of", .glo "require_machine", .glo "is_step", .glo "are_steps", .glo "do_follow"]
def fa2 : List He.Fa := [.glo "is_run_of", .glo "grown", .glo "put_back_in", .glo "standings_of", .glo "above", .glo "below", .glo "misses_at", .glo "misses_of", .glo "needed_of", .glo "are_shared", .glo "shifted", .glo "first_doors"]
def fa3 : List He.Fa := [.glo "last_doors", .glo "both_door", .glo "doors_and_sides", .glo "require_sizes", .glo "is_stay_of", .glo "length_of", .glo "stay_needed_of", .glo "side_stay", .glo "require_net", .glo "require_stay", .glo "is_stay", .glo "stay_length"]
def fa4 : List He.Fa := [.glo "stay_needed", .glo "split", .glo "_law_dice", .glo "_law_roll", .glo "_law_pick", .glo "_law_ma_guard", .glo "_law_ma_lot", .glo "_law_ma_door", .glo "_law_fr_low", .glo "_law_fr_plus", .glo "_law_fr_less", .glo "_law_fr_below"]
def fa5 : List He.Fa := [.glo "_law_fr_most", .glo "_law_fr_wait", .glo "_law_ru_waited", .glo "_law_ru_put", .glo "_law_ru_over", .glo "_law_ru_walked", .glo "_law_ru_drawn", .glo "_law_ru_long", .glo "_law_ru_length", .glo "_law_ne_machine", .glo "_law_ne_drawn", .glo "_law_ne_net"]
def fa6 : List He.Fa := [.glo "_law_ne_split", .glo "_law_near", .glo "_law_is_due", .glo "_law_is_wait", .glo "_law_right", .glo "law", .glo "Machine", .glo "Net", .glo "ZERO", .glo "ALL", .glo "WORDS", .free "isinstance"]
def fa7 : List He.Fa := [.free "len", .free "all", .free "tuple", .free "list", .free "range", .free "zip", .free "enumerate", .free "int", .free "bool", .free "abs", .free "max", .free "min"]
def fa8 : List He.Fa := [.free "repr", .int "GREATEST" 1000000000000000000000000000000000000000000000000000000000000, .int "PAIR_fractions" 2, .int "MOST_CLOCKS" 3, .int "MOST_ROOMS" 6, .int "MOST_DOORS" 12, .int "MOST_NUMBER" 4, .int "PAIR_machines" 2, .int "DOOR_SIZE" 4, .int "MOST_STEPS" 20000, .int "PAIR_runs" 2, .int "PAIR_nets" 2]
def fa9 : List He.Fa := [.str "STAY" "stay", .str "LOW" "low", .str "HIGH" "high", .str "ENTER" "enter", .mkr "Machine", .mkr "Net"]
def fa : List He.Fa := fa0 ++ fa1 ++ fa2 ++ fa3 ++ fa4 ++ fa5 ++ fa6 ++ fa7 ++ fa8 ++ fa9
def nms0 : List PySem.Str := ["_wall", "MarginError", "InvalidMachine", "InvalidRun", "InvalidOperation", "InvalidNumber", "TooMany", "GREATEST", "is_whole", "is_short", "is_from", "require_from"]
def nms1 : List PySem.Str := ["PAIR_fractions", "ZERO", "shared_in", "lowest", "sum_in", "less_in", "is_below", "greatest_in", "total_in", "is_fraction", "is_margin", "MOST_CLOCKS"]
def nms2 : List PySem.Str := ["MOST_ROOMS", "MOST_DOORS", "MOST_NUMBER", "PAIR_machines", "DOOR_SIZE", "are_limits", "is_guard", "are_guards", "is_ascending", "is_door_in", "rooms_fault", "doors_fault"]
def nms3 : List PySem.Str := ["fault_of", "Machine", "require_machine", "MOST_STEPS", "PAIR_runs", "STAY", "LOW", "HIGH", "ENTER", "WORDS", "is_step", "are_steps"]
def nms4 : List PySem.Str := ["do_follow", "is_run_of", "grown", "put_back_in", "standings_of", "above", "below", "misses_at", "misses_of", "needed_of", "PAIR_nets", "ALL"]
def nms5 : List PySem.Str := ["are_shared", "shifted", "first_doors", "last_doors", "both_door", "doors_and_sides", "require_sizes", "Net", "is_stay_of", "length_of", "stay_needed_of", "side_stay"]
def nms6 : List PySem.Str := ["require_net", "require_stay", "is_stay", "stay_length", "stay_needed", "split", "_law_dice", "_law_roll", "_law_pick", "_law_ma_guard", "_law_ma_lot", "_law_ma_door"]
def nms7 : List PySem.Str := ["_law_fr_low", "_law_fr_plus", "_law_fr_less", "_law_fr_below", "_law_fr_most", "_law_fr_wait", "_law_ru_waited", "_law_ru_put", "_law_ru_over", "_law_ru_walked", "_law_ru_drawn", "_law_ru_long"]
def nms8 : List PySem.Str := ["_law_ru_length", "_law_ne_machine", "_law_ne_drawn", "_law_ne_net", "_law_ne_split", "_law_near", "_law_is_due", "_law_is_wait", "_law_right"]
def nms : List PySem.Str := nms0 ++ nms1 ++ nms2 ++ nms3 ++ nms4 ++ nms5 ++ nms6 ++ nms7 ++ nms8
def gn0 : List PySem.Str := ["is_whole", "is_short", "is_from", "shared_in", "lowest", "sum_in", "less_in", "is_below", "greatest_in", "total_in", "is_fraction", "is_margin"]
def gn1 : List PySem.Str := ["are_limits", "is_guard", "are_guards", "is_ascending", "is_door_in", "rooms_fault", "doors_fault", "fault_of", "require_machine", "is_step", "are_steps", "do_follow"]
def gn2 : List PySem.Str := ["is_run_of", "grown", "put_back_in", "standings_of", "above", "below", "misses_at", "misses_of", "needed_of", "are_shared", "shifted", "first_doors"]
def gn3 : List PySem.Str := ["last_doors", "both_door", "doors_and_sides", "require_sizes", "is_stay_of", "length_of", "stay_needed_of", "side_stay", "require_net", "require_stay", "is_stay", "stay_length"]
def gn4 : List PySem.Str := ["stay_needed", "split", "_law_dice", "_law_roll", "_law_pick", "_law_ma_guard", "_law_ma_lot", "_law_ma_door", "_law_fr_low", "_law_fr_plus", "_law_fr_less", "_law_fr_below"]
def gn5 : List PySem.Str := ["_law_fr_most", "_law_fr_wait", "_law_ru_waited", "_law_ru_put", "_law_ru_over", "_law_ru_walked", "_law_ru_drawn", "_law_ru_long", "_law_ru_length", "_law_ne_machine", "_law_ne_drawn", "_law_ne_net"]
def gn6 : List PySem.Str := ["_law_ne_split", "_law_near", "_law_is_due", "_law_is_wait", "_law_right", "law", "Machine", "Net", "ZERO", "ALL", "WORDS"]
def gn : List PySem.Str := gn0 ++ gn1 ++ gn2 ++ gn3 ++ gn4 ++ gn5 ++ gn6
/-- the part of the heap that is looked at: what the names stand for, the defs' code, the two classes' dicts and what they hold -/
def ref1 (g : Addr → Option Obj) (a : Addr) : List Addr := match g a with
  | some ⟨_, _, .func fd, _⟩ => He.refV fd.code
  | some ⟨_, _, .cls cd, _⟩ => [cd.ns]
  | _ => []
def ref2 (g : Addr → Option Obj) (a : Addr) : List Addr := match g a with
  | some ⟨_, _, .dict es _, _⟩ => es.toList.flatMap fun e => He.refV e.val
  | _ => []
def ref3 (g : Addr → Option Obj) (a : Addr) : List Addr := match g a with
  | some ⟨_, _, .func fd, _⟩ => He.refV fd.code
  | some ⟨_, _, .fields vs, _⟩ => vs.toList.flatMap He.refV
  | _ => []
def frA {α : Type} : List Addr → (List Addr → α) → α
  | [], k => k []
  | a :: r, k => HandSHeadRun.frNat a fun a => frA r fun r => k (a :: r)
theorem frA_eq {α : Type} (l : List Addr) (k : List Addr → α) : frA l k = k l := by
  induction l generalizing k with
  | nil => rfl
  | cons a r ih =>
    show HandSHeadRun.frNat a (fun a => frA r fun r => k (a :: r)) = _
    rw [HandSHeadRun.frNat_eq, ih]
def mk (g : Addr → Option Obj) : List Addr :=
  frA (gn.map (He.ga (He.frG g [mainGlobals]))) fun a1 => frA (a1.flatMap (ref1 g)) fun a2 => frA (a2.flatMap (ref2 g)) fun a3 => frA (a3.flatMap (ref3 g)) fun a4 => frA (a4.flatMap (ref3 g)) fun a5 => mainGlobals :: (a1 ++ (a2 ++ (a3 ++ (a4 ++ a5))))
/-! facts of the classes -/
def tupEx (K : PySem.W.Frag) : Bool := He.tupB K "ZERO" [.int 0, .int 1] && (He.tupB K "ALL" [.int 0, .int 4] && He.tupB K "WORDS" [.str "stay", .str "low", .str "high", .str "enter"])
def sclB (K : PySem.W.Frag) (x : Str) : Bool := PySem.W.plainGet K (He.ga K x) Str.empty && (PySem.W.isClsIn K (He.ga K x) && (PySem.W.plainOver K (He.ga K x) && (He.eqO (PySem.W.findIn K (.ref (He.ga K x)) "__setattr__") (some (some (.builtin "object.__setattr__"))) &&
  (He.eqO (PySem.W.findIn K (.ref (He.ga K x)) "__class__") (some (some (.builtin "object.__class__"))) && (He.eqO (PySem.W.specialIn K (.builtin "object.__class__") "__get__") (some (some (.builtin "getset_descriptor.__get__"))) &&
  (decide (PySem.W.takesIn K (.builtin "object.__class__") = some true) && decide (PySem.W.mroIn K (He.ga K x) (.type "object") = some true)))))))
def sltB (K : PySem.W.Frag) (x f : Str) (i : Nat) : Bool := He.eqO (PySem.W.findIn K (.ref (He.ga K x)) f) (some (some (.ref (He.ma K (He.ga K x) f)))) && (He.eqO (PySem.W.specialIn K (.ref (He.ma K (He.ga K x) f)) "__get__") (some (some (.builtin "member_descriptor.__get__"))) &&
  (decide (PySem.W.takesIn K (.ref (He.ma K (He.ga K x) f)) = some true) && (decide (PySem.W.typeIn K (.ref (He.ma K (He.ga K x) f)) = some (.type "member_descriptor")) && decide (PySem.W.slotIn K (He.ma K (He.ga K x) f) (He.ga K x) = some i))))
def kitB (K : PySem.W.Frag) (x : Str) (c : Value) (b : Bool) : Bool := decide (PySem.W.kitOne K (.ref (He.ga K x)) c = some b)
/-- a property's getter -/
def gtr (K : PySem.W.Frag) (x f : Str) : Addr := match PySem.W.recIn K (He.ma K (He.ga K x) f) "property" with
  | some (.ref a :: _) => a
  | _ => 0
def proB (K : PySem.W.Frag) (x f : Str) : Bool := He.eqO (PySem.W.findIn K (.ref (He.ga K x)) f) (some (some (.ref (He.ma K (He.ga K x) f)))) && (He.eqO (PySem.W.specialIn K (.ref (He.ma K (He.ga K x) f)) "__get__") (some (some (.builtin "property.__get__"))) &&
  (decide (PySem.W.takesIn K (.ref (He.ma K (He.ga K x) f)) = some true) && (match PySem.W.recIn K (He.ma K (He.ga K x) f) "property" with | some (.ref _ :: _) => true | _ => false)))
def exB (K : PySem.W.Frag) : Bool := tupEx K && (sclB K "Machine" && (sclB K "Net" &&
  (sltB K "Machine" "own_clocks" 0 && (sltB K "Machine" "own_doors" 1 && (sltB K "Machine" "own_limits" 2 &&
  (sltB K "Net" "own_machine" 0 && (sltB K "Net" "own_one" 1 && (sltB K "Net" "own_other" 2 && (sltB K "Net" "own_shared" 3 && (sltB K "Net" "own_sides" 4 &&
  (proB K "Net" "one" && (proB K "Net" "other" && proB K "Net" "machine"))))))))))))
/-! the getters of the net's properties -/
def gts : List (Str × Stmt) := [("one", s_Net_one), ("other", s_Net_other), ("machine", s_Net_machine)]
def fnAt (K : PySem.W.Frag) (a : Addr) : He.FnW := match K.lookup a with
  | some ⟨_, _, .func fd, _⟩ => some (fd.name, fd.qualname, fd.params, fd.body, fd.scope, fd.globals, fd.closure, fd.builtins)
  | _ => none
def gtOk (K : PySem.W.Frag) (a : Addr) (q : Str) : Bool := PySem.W.keepIn K (.ref a) && (match K.lookup a with
  | some ⟨_, _, .func fd, _⟩ => PySem.W.codeIn K fd.code q && (He.dflB K fd.defaults [] && He.kwdB K fd.kwdefaults [])
  | _ => false)
theorem getter_of {K : PySem.W.Frag} {a : Addr} {x q : Str} {st : Stmt} (e : fnAt K a = some (x, q, defArgs st, .stmts (defBody st), defScope st, mainGlobals, [], builtinsNs)) (c : gtOk K a q = true) :
    ∃ fd, FunD K x q (defArgs st) (defBody st) (defScope st) [] [] a fd := by
  obtain ⟨kp, c2⟩ := He.ba c
  unfold fnAt at e
  cases z : K.lookup a with
  | none =>
    rw [z] at c2
    cases c2
  | some o =>
    obtain ⟨oc, od, dt, osl⟩ := o
    rw [z] at c2 e
    cases dt with
    | func fd =>
      obtain ⟨n1, n2, n3, n4, n5, n6, n7, n8, n9, n10, n11, n12, n13, n14, n15⟩ := fd
      simp only [Option.some.injEq, Prod.mk.injEq] at e
      obtain ⟨h1, h2, h3, h4, h5, h6, h7, h8⟩ := e
      subst h1 h2 h3 h4 h5 h6 h7 h8
      obtain ⟨k1, k2⟩ := He.ba c2
      obtain ⟨k3, k4⟩ := He.ba k2
      exact ⟨_, ⟨oc, od, n8, n9, n10, n11, n12, n13, n14, osl, rfl, z, k1, He.dflB_ok k3, He.kwdB_ok k4⟩, kp⟩
    | _ => cases c2
def gtQ (p : Str × Stmt) : Str := "Net." ++ p.1
def kitX (K : PySem.W.Frag) : Bool := kitB K "Machine" (.ref (He.ga K "Machine")) true && kitB K "Net" (.ref (He.ga K "Net")) true
def obsM (g : Addr → Option Obj) : He.AlD × Bool × List He.FnW := (fun K => (He.obsD fa fn K, exB K && (kitX K && gts.all fun p => gtOk K (gtr K "Net" p.1) (gtQ p)), gts.map fun p => fnAt K (gtr K "Net" p.1))) (He.frG g (mk g))
def valM : He.AlD × Bool × List He.FnW := (He.valD fn, true, gts.map fun p => some (p.1, gtQ p, defArgs p.2, .stmts (defBody p.2), defScope p.2, mainGlobals, [], builtinsNs))
structure Says (K : PySem.W.Frag) : Prop where
  c : He.SaysD fa fn K
  ex : (exB K && (kitX K && gts.all fun p => gtOk K (gtr K "Net" p.1) (gtQ p))) = true
  gt : (gts.map fun p => fnAt K (gtr K "Net" p.1)) = gts.map fun p => some (p.1, gtQ p, defArgs p.2, .stmts (defBody p.2), defScope p.2, mainGlobals, [], builtinsNs)
def hookM : PySem.W.Hook where
  α := He.AlD × Bool × List He.FnW
  obs := fun s => obsM s.heap.get?
  val := fun _ => valM
  says := fun _ h => ∃ K : PySem.W.Frag, K.In h ∧ Says K
  of := fun _ _ e => ⟨_, He.frG_in, congrArg (fun z : He.AlD × Bool × List He.FnW => z.1) e, congrArg (fun z : He.AlD × Bool × List He.FnW => z.2.1) e, congrArg (fun z : He.AlD × Bool × List He.FnW => z.2.2) e⟩
  keeps := fun _ _ _ ⟨K, hK, c⟩ k => ⟨K, PySem.W.Frag.In.keeps hK k, c⟩
theorem obsM_eq {g : Addr → Option Obj} {s : Shared} (h : ∀ a, g a = s.heap.get? a) : obsM g = hookM.obs s := by
  have e : g = s.heap.get? := funext h
  rw [e] <;> rfl
/-! ### what the defs lean on -/
open TL
structure Txt [KK] (mg : Str → Option Value) : Prop where
  c : Says KK.K
  h : ∃ h : Heap, KK.K.In h ∧ h.Ns mainGlobals mg
section
variable [KK] {mg : Str → Option Value}
theorem Txt.g_is_whole (T : Txt mg) : mg "is_whole" = some (.ref (He.ga KK.K "is_whole")) := by obtain ⟨h, X, G⟩ := T.h; exact He.glo_ok X G (T.c.c.fact 0 (f := .glo "is_whole") rfl)
theorem Txt.g_is_short (T : Txt mg) : mg "is_short" = some (.ref (He.ga KK.K "is_short")) := by obtain ⟨h, X, G⟩ := T.h; exact He.glo_ok X G (T.c.c.fact 1 (f := .glo "is_short") rfl)
theorem Txt.g_is_from (T : Txt mg) : mg "is_from" = some (.ref (He.ga KK.K "is_from")) := by obtain ⟨h, X, G⟩ := T.h; exact He.glo_ok X G (T.c.c.fact 2 (f := .glo "is_from") rfl)
theorem Txt.g_shared_in (T : Txt mg) : mg "shared_in" = some (.ref (He.ga KK.K "shared_in")) := by obtain ⟨h, X, G⟩ := T.h; exact He.glo_ok X G (T.c.c.fact 3 (f := .glo "shared_in") rfl)
theorem Txt.g_lowest (T : Txt mg) : mg "lowest" = some (.ref (He.ga KK.K "lowest")) := by obtain ⟨h, X, G⟩ := T.h; exact He.glo_ok X G (T.c.c.fact 4 (f := .glo "lowest") rfl)
theorem Txt.g_sum_in (T : Txt mg) : mg "sum_in" = some (.ref (He.ga KK.K "sum_in")) := by obtain ⟨h, X, G⟩ := T.h; exact He.glo_ok X G (T.c.c.fact 5 (f := .glo "sum_in") rfl)
theorem Txt.g_less_in (T : Txt mg) : mg "less_in" = some (.ref (He.ga KK.K "less_in")) := by obtain ⟨h, X, G⟩ := T.h; exact He.glo_ok X G (T.c.c.fact 6 (f := .glo "less_in") rfl)
theorem Txt.g_is_below (T : Txt mg) : mg "is_below" = some (.ref (He.ga KK.K "is_below")) := by obtain ⟨h, X, G⟩ := T.h; exact He.glo_ok X G (T.c.c.fact 7 (f := .glo "is_below") rfl)
theorem Txt.g_greatest_in (T : Txt mg) : mg "greatest_in" = some (.ref (He.ga KK.K "greatest_in")) := by obtain ⟨h, X, G⟩ := T.h; exact He.glo_ok X G (T.c.c.fact 8 (f := .glo "greatest_in") rfl)
theorem Txt.g_total_in (T : Txt mg) : mg "total_in" = some (.ref (He.ga KK.K "total_in")) := by obtain ⟨h, X, G⟩ := T.h; exact He.glo_ok X G (T.c.c.fact 9 (f := .glo "total_in") rfl)
theorem Txt.g_is_fraction (T : Txt mg) : mg "is_fraction" = some (.ref (He.ga KK.K "is_fraction")) := by obtain ⟨h, X, G⟩ := T.h; exact He.glo_ok X G (T.c.c.fact 10 (f := .glo "is_fraction") rfl)
theorem Txt.g_is_margin (T : Txt mg) : mg "is_margin" = some (.ref (He.ga KK.K "is_margin")) := by obtain ⟨h, X, G⟩ := T.h; exact He.glo_ok X G (T.c.c.fact 11 (f := .glo "is_margin") rfl)
theorem Txt.g_are_limits (T : Txt mg) : mg "are_limits" = some (.ref (He.ga KK.K "are_limits")) := by obtain ⟨h, X, G⟩ := T.h; exact He.glo_ok X G (T.c.c.fact 12 (f := .glo "are_limits") rfl)
theorem Txt.g_is_guard (T : Txt mg) : mg "is_guard" = some (.ref (He.ga KK.K "is_guard")) := by obtain ⟨h, X, G⟩ := T.h; exact He.glo_ok X G (T.c.c.fact 13 (f := .glo "is_guard") rfl)
theorem Txt.g_are_guards (T : Txt mg) : mg "are_guards" = some (.ref (He.ga KK.K "are_guards")) := by obtain ⟨h, X, G⟩ := T.h; exact He.glo_ok X G (T.c.c.fact 14 (f := .glo "are_guards") rfl)
theorem Txt.g_is_ascending (T : Txt mg) : mg "is_ascending" = some (.ref (He.ga KK.K "is_ascending")) := by obtain ⟨h, X, G⟩ := T.h; exact He.glo_ok X G (T.c.c.fact 15 (f := .glo "is_ascending") rfl)
theorem Txt.g_is_door_in (T : Txt mg) : mg "is_door_in" = some (.ref (He.ga KK.K "is_door_in")) := by obtain ⟨h, X, G⟩ := T.h; exact He.glo_ok X G (T.c.c.fact 16 (f := .glo "is_door_in") rfl)
theorem Txt.g_rooms_fault (T : Txt mg) : mg "rooms_fault" = some (.ref (He.ga KK.K "rooms_fault")) := by obtain ⟨h, X, G⟩ := T.h; exact He.glo_ok X G (T.c.c.fact 17 (f := .glo "rooms_fault") rfl)
theorem Txt.g_doors_fault (T : Txt mg) : mg "doors_fault" = some (.ref (He.ga KK.K "doors_fault")) := by obtain ⟨h, X, G⟩ := T.h; exact He.glo_ok X G (T.c.c.fact 18 (f := .glo "doors_fault") rfl)
theorem Txt.g_fault_of (T : Txt mg) : mg "fault_of" = some (.ref (He.ga KK.K "fault_of")) := by obtain ⟨h, X, G⟩ := T.h; exact He.glo_ok X G (T.c.c.fact 19 (f := .glo "fault_of") rfl)
theorem Txt.g_require_machine (T : Txt mg) : mg "require_machine" = some (.ref (He.ga KK.K "require_machine")) := by obtain ⟨h, X, G⟩ := T.h; exact He.glo_ok X G (T.c.c.fact 20 (f := .glo "require_machine") rfl)
theorem Txt.g_is_step (T : Txt mg) : mg "is_step" = some (.ref (He.ga KK.K "is_step")) := by obtain ⟨h, X, G⟩ := T.h; exact He.glo_ok X G (T.c.c.fact 21 (f := .glo "is_step") rfl)
theorem Txt.g_are_steps (T : Txt mg) : mg "are_steps" = some (.ref (He.ga KK.K "are_steps")) := by obtain ⟨h, X, G⟩ := T.h; exact He.glo_ok X G (T.c.c.fact 22 (f := .glo "are_steps") rfl)
theorem Txt.g_do_follow (T : Txt mg) : mg "do_follow" = some (.ref (He.ga KK.K "do_follow")) := by obtain ⟨h, X, G⟩ := T.h; exact He.glo_ok X G (T.c.c.fact 23 (f := .glo "do_follow") rfl)
theorem Txt.g_is_run_of (T : Txt mg) : mg "is_run_of" = some (.ref (He.ga KK.K "is_run_of")) := by obtain ⟨h, X, G⟩ := T.h; exact He.glo_ok X G (T.c.c.fact 24 (f := .glo "is_run_of") rfl)
theorem Txt.g_grown (T : Txt mg) : mg "grown" = some (.ref (He.ga KK.K "grown")) := by obtain ⟨h, X, G⟩ := T.h; exact He.glo_ok X G (T.c.c.fact 25 (f := .glo "grown") rfl)
theorem Txt.g_put_back_in (T : Txt mg) : mg "put_back_in" = some (.ref (He.ga KK.K "put_back_in")) := by obtain ⟨h, X, G⟩ := T.h; exact He.glo_ok X G (T.c.c.fact 26 (f := .glo "put_back_in") rfl)
theorem Txt.g_standings_of (T : Txt mg) : mg "standings_of" = some (.ref (He.ga KK.K "standings_of")) := by obtain ⟨h, X, G⟩ := T.h; exact He.glo_ok X G (T.c.c.fact 27 (f := .glo "standings_of") rfl)
theorem Txt.g_above (T : Txt mg) : mg "above" = some (.ref (He.ga KK.K "above")) := by obtain ⟨h, X, G⟩ := T.h; exact He.glo_ok X G (T.c.c.fact 28 (f := .glo "above") rfl)
theorem Txt.g_below (T : Txt mg) : mg "below" = some (.ref (He.ga KK.K "below")) := by obtain ⟨h, X, G⟩ := T.h; exact He.glo_ok X G (T.c.c.fact 29 (f := .glo "below") rfl)
theorem Txt.g_misses_at (T : Txt mg) : mg "misses_at" = some (.ref (He.ga KK.K "misses_at")) := by obtain ⟨h, X, G⟩ := T.h; exact He.glo_ok X G (T.c.c.fact 30 (f := .glo "misses_at") rfl)
theorem Txt.g_misses_of (T : Txt mg) : mg "misses_of" = some (.ref (He.ga KK.K "misses_of")) := by obtain ⟨h, X, G⟩ := T.h; exact He.glo_ok X G (T.c.c.fact 31 (f := .glo "misses_of") rfl)
theorem Txt.g_needed_of (T : Txt mg) : mg "needed_of" = some (.ref (He.ga KK.K "needed_of")) := by obtain ⟨h, X, G⟩ := T.h; exact He.glo_ok X G (T.c.c.fact 32 (f := .glo "needed_of") rfl)
theorem Txt.g_are_shared (T : Txt mg) : mg "are_shared" = some (.ref (He.ga KK.K "are_shared")) := by obtain ⟨h, X, G⟩ := T.h; exact He.glo_ok X G (T.c.c.fact 33 (f := .glo "are_shared") rfl)
theorem Txt.g_shifted (T : Txt mg) : mg "shifted" = some (.ref (He.ga KK.K "shifted")) := by obtain ⟨h, X, G⟩ := T.h; exact He.glo_ok X G (T.c.c.fact 34 (f := .glo "shifted") rfl)
theorem Txt.g_first_doors (T : Txt mg) : mg "first_doors" = some (.ref (He.ga KK.K "first_doors")) := by obtain ⟨h, X, G⟩ := T.h; exact He.glo_ok X G (T.c.c.fact 35 (f := .glo "first_doors") rfl)
theorem Txt.g_last_doors (T : Txt mg) : mg "last_doors" = some (.ref (He.ga KK.K "last_doors")) := by obtain ⟨h, X, G⟩ := T.h; exact He.glo_ok X G (T.c.c.fact 36 (f := .glo "last_doors") rfl)
theorem Txt.g_both_door (T : Txt mg) : mg "both_door" = some (.ref (He.ga KK.K "both_door")) := by obtain ⟨h, X, G⟩ := T.h; exact He.glo_ok X G (T.c.c.fact 37 (f := .glo "both_door") rfl)
theorem Txt.g_doors_and_sides (T : Txt mg) : mg "doors_and_sides" = some (.ref (He.ga KK.K "doors_and_sides")) := by obtain ⟨h, X, G⟩ := T.h; exact He.glo_ok X G (T.c.c.fact 38 (f := .glo "doors_and_sides") rfl)
theorem Txt.g_require_sizes (T : Txt mg) : mg "require_sizes" = some (.ref (He.ga KK.K "require_sizes")) := by obtain ⟨h, X, G⟩ := T.h; exact He.glo_ok X G (T.c.c.fact 39 (f := .glo "require_sizes") rfl)
theorem Txt.g_is_stay_of (T : Txt mg) : mg "is_stay_of" = some (.ref (He.ga KK.K "is_stay_of")) := by obtain ⟨h, X, G⟩ := T.h; exact He.glo_ok X G (T.c.c.fact 40 (f := .glo "is_stay_of") rfl)
theorem Txt.g_length_of (T : Txt mg) : mg "length_of" = some (.ref (He.ga KK.K "length_of")) := by obtain ⟨h, X, G⟩ := T.h; exact He.glo_ok X G (T.c.c.fact 41 (f := .glo "length_of") rfl)
theorem Txt.g_stay_needed_of (T : Txt mg) : mg "stay_needed_of" = some (.ref (He.ga KK.K "stay_needed_of")) := by obtain ⟨h, X, G⟩ := T.h; exact He.glo_ok X G (T.c.c.fact 42 (f := .glo "stay_needed_of") rfl)
theorem Txt.g_side_stay (T : Txt mg) : mg "side_stay" = some (.ref (He.ga KK.K "side_stay")) := by obtain ⟨h, X, G⟩ := T.h; exact He.glo_ok X G (T.c.c.fact 43 (f := .glo "side_stay") rfl)
theorem Txt.g_require_net (T : Txt mg) : mg "require_net" = some (.ref (He.ga KK.K "require_net")) := by obtain ⟨h, X, G⟩ := T.h; exact He.glo_ok X G (T.c.c.fact 44 (f := .glo "require_net") rfl)
theorem Txt.g_require_stay (T : Txt mg) : mg "require_stay" = some (.ref (He.ga KK.K "require_stay")) := by obtain ⟨h, X, G⟩ := T.h; exact He.glo_ok X G (T.c.c.fact 45 (f := .glo "require_stay") rfl)
theorem Txt.g_is_stay (T : Txt mg) : mg "is_stay" = some (.ref (He.ga KK.K "is_stay")) := by obtain ⟨h, X, G⟩ := T.h; exact He.glo_ok X G (T.c.c.fact 46 (f := .glo "is_stay") rfl)
theorem Txt.g_stay_length (T : Txt mg) : mg "stay_length" = some (.ref (He.ga KK.K "stay_length")) := by obtain ⟨h, X, G⟩ := T.h; exact He.glo_ok X G (T.c.c.fact 47 (f := .glo "stay_length") rfl)
theorem Txt.g_stay_needed (T : Txt mg) : mg "stay_needed" = some (.ref (He.ga KK.K "stay_needed")) := by obtain ⟨h, X, G⟩ := T.h; exact He.glo_ok X G (T.c.c.fact 48 (f := .glo "stay_needed") rfl)
theorem Txt.g_split (T : Txt mg) : mg "split" = some (.ref (He.ga KK.K "split")) := by obtain ⟨h, X, G⟩ := T.h; exact He.glo_ok X G (T.c.c.fact 49 (f := .glo "split") rfl)
theorem Txt.g_L_dice (T : Txt mg) : mg "_law_dice" = some (.ref (He.ga KK.K "_law_dice")) := by obtain ⟨h, X, G⟩ := T.h; exact He.glo_ok X G (T.c.c.fact 50 (f := .glo "_law_dice") rfl)
theorem Txt.g_L_roll (T : Txt mg) : mg "_law_roll" = some (.ref (He.ga KK.K "_law_roll")) := by obtain ⟨h, X, G⟩ := T.h; exact He.glo_ok X G (T.c.c.fact 51 (f := .glo "_law_roll") rfl)
theorem Txt.g_L_pick (T : Txt mg) : mg "_law_pick" = some (.ref (He.ga KK.K "_law_pick")) := by obtain ⟨h, X, G⟩ := T.h; exact He.glo_ok X G (T.c.c.fact 52 (f := .glo "_law_pick") rfl)
theorem Txt.g_L_ma_guard (T : Txt mg) : mg "_law_ma_guard" = some (.ref (He.ga KK.K "_law_ma_guard")) := by obtain ⟨h, X, G⟩ := T.h; exact He.glo_ok X G (T.c.c.fact 53 (f := .glo "_law_ma_guard") rfl)
theorem Txt.g_L_ma_lot (T : Txt mg) : mg "_law_ma_lot" = some (.ref (He.ga KK.K "_law_ma_lot")) := by obtain ⟨h, X, G⟩ := T.h; exact He.glo_ok X G (T.c.c.fact 54 (f := .glo "_law_ma_lot") rfl)
theorem Txt.g_L_ma_door (T : Txt mg) : mg "_law_ma_door" = some (.ref (He.ga KK.K "_law_ma_door")) := by obtain ⟨h, X, G⟩ := T.h; exact He.glo_ok X G (T.c.c.fact 55 (f := .glo "_law_ma_door") rfl)
theorem Txt.g_L_fr_low (T : Txt mg) : mg "_law_fr_low" = some (.ref (He.ga KK.K "_law_fr_low")) := by obtain ⟨h, X, G⟩ := T.h; exact He.glo_ok X G (T.c.c.fact 56 (f := .glo "_law_fr_low") rfl)
theorem Txt.g_L_fr_plus (T : Txt mg) : mg "_law_fr_plus" = some (.ref (He.ga KK.K "_law_fr_plus")) := by obtain ⟨h, X, G⟩ := T.h; exact He.glo_ok X G (T.c.c.fact 57 (f := .glo "_law_fr_plus") rfl)
theorem Txt.g_L_fr_less (T : Txt mg) : mg "_law_fr_less" = some (.ref (He.ga KK.K "_law_fr_less")) := by obtain ⟨h, X, G⟩ := T.h; exact He.glo_ok X G (T.c.c.fact 58 (f := .glo "_law_fr_less") rfl)
theorem Txt.g_L_fr_below (T : Txt mg) : mg "_law_fr_below" = some (.ref (He.ga KK.K "_law_fr_below")) := by obtain ⟨h, X, G⟩ := T.h; exact He.glo_ok X G (T.c.c.fact 59 (f := .glo "_law_fr_below") rfl)
theorem Txt.g_L_fr_most (T : Txt mg) : mg "_law_fr_most" = some (.ref (He.ga KK.K "_law_fr_most")) := by obtain ⟨h, X, G⟩ := T.h; exact He.glo_ok X G (T.c.c.fact 60 (f := .glo "_law_fr_most") rfl)
theorem Txt.g_L_fr_wait (T : Txt mg) : mg "_law_fr_wait" = some (.ref (He.ga KK.K "_law_fr_wait")) := by obtain ⟨h, X, G⟩ := T.h; exact He.glo_ok X G (T.c.c.fact 61 (f := .glo "_law_fr_wait") rfl)
theorem Txt.g_L_ru_waited (T : Txt mg) : mg "_law_ru_waited" = some (.ref (He.ga KK.K "_law_ru_waited")) := by obtain ⟨h, X, G⟩ := T.h; exact He.glo_ok X G (T.c.c.fact 62 (f := .glo "_law_ru_waited") rfl)
theorem Txt.g_L_ru_put (T : Txt mg) : mg "_law_ru_put" = some (.ref (He.ga KK.K "_law_ru_put")) := by obtain ⟨h, X, G⟩ := T.h; exact He.glo_ok X G (T.c.c.fact 63 (f := .glo "_law_ru_put") rfl)
theorem Txt.g_L_ru_over (T : Txt mg) : mg "_law_ru_over" = some (.ref (He.ga KK.K "_law_ru_over")) := by obtain ⟨h, X, G⟩ := T.h; exact He.glo_ok X G (T.c.c.fact 64 (f := .glo "_law_ru_over") rfl)
theorem Txt.g_L_ru_walked (T : Txt mg) : mg "_law_ru_walked" = some (.ref (He.ga KK.K "_law_ru_walked")) := by obtain ⟨h, X, G⟩ := T.h; exact He.glo_ok X G (T.c.c.fact 65 (f := .glo "_law_ru_walked") rfl)
theorem Txt.g_L_ru_drawn (T : Txt mg) : mg "_law_ru_drawn" = some (.ref (He.ga KK.K "_law_ru_drawn")) := by obtain ⟨h, X, G⟩ := T.h; exact He.glo_ok X G (T.c.c.fact 66 (f := .glo "_law_ru_drawn") rfl)
theorem Txt.g_L_ru_long (T : Txt mg) : mg "_law_ru_long" = some (.ref (He.ga KK.K "_law_ru_long")) := by obtain ⟨h, X, G⟩ := T.h; exact He.glo_ok X G (T.c.c.fact 67 (f := .glo "_law_ru_long") rfl)
theorem Txt.g_L_ru_length (T : Txt mg) : mg "_law_ru_length" = some (.ref (He.ga KK.K "_law_ru_length")) := by obtain ⟨h, X, G⟩ := T.h; exact He.glo_ok X G (T.c.c.fact 68 (f := .glo "_law_ru_length") rfl)
theorem Txt.g_L_ne_machine (T : Txt mg) : mg "_law_ne_machine" = some (.ref (He.ga KK.K "_law_ne_machine")) := by obtain ⟨h, X, G⟩ := T.h; exact He.glo_ok X G (T.c.c.fact 69 (f := .glo "_law_ne_machine") rfl)
theorem Txt.g_L_ne_drawn (T : Txt mg) : mg "_law_ne_drawn" = some (.ref (He.ga KK.K "_law_ne_drawn")) := by obtain ⟨h, X, G⟩ := T.h; exact He.glo_ok X G (T.c.c.fact 70 (f := .glo "_law_ne_drawn") rfl)
theorem Txt.g_L_ne_net (T : Txt mg) : mg "_law_ne_net" = some (.ref (He.ga KK.K "_law_ne_net")) := by obtain ⟨h, X, G⟩ := T.h; exact He.glo_ok X G (T.c.c.fact 71 (f := .glo "_law_ne_net") rfl)
theorem Txt.g_L_ne_split (T : Txt mg) : mg "_law_ne_split" = some (.ref (He.ga KK.K "_law_ne_split")) := by obtain ⟨h, X, G⟩ := T.h; exact He.glo_ok X G (T.c.c.fact 72 (f := .glo "_law_ne_split") rfl)
theorem Txt.g_L_near (T : Txt mg) : mg "_law_near" = some (.ref (He.ga KK.K "_law_near")) := by obtain ⟨h, X, G⟩ := T.h; exact He.glo_ok X G (T.c.c.fact 73 (f := .glo "_law_near") rfl)
theorem Txt.g_L_is_due (T : Txt mg) : mg "_law_is_due" = some (.ref (He.ga KK.K "_law_is_due")) := by obtain ⟨h, X, G⟩ := T.h; exact He.glo_ok X G (T.c.c.fact 74 (f := .glo "_law_is_due") rfl)
theorem Txt.g_L_is_wait (T : Txt mg) : mg "_law_is_wait" = some (.ref (He.ga KK.K "_law_is_wait")) := by obtain ⟨h, X, G⟩ := T.h; exact He.glo_ok X G (T.c.c.fact 75 (f := .glo "_law_is_wait") rfl)
theorem Txt.g_L_right (T : Txt mg) : mg "_law_right" = some (.ref (He.ga KK.K "_law_right")) := by obtain ⟨h, X, G⟩ := T.h; exact He.glo_ok X G (T.c.c.fact 76 (f := .glo "_law_right") rfl)
theorem Txt.g_law (T : Txt mg) : mg "law" = some (.ref (He.ga KK.K "law")) := by obtain ⟨h, X, G⟩ := T.h; exact He.glo_ok X G (T.c.c.fact 77 (f := .glo "law") rfl)
theorem Txt.g_Machine (T : Txt mg) : mg "Machine" = some (.ref (He.ga KK.K "Machine")) := by obtain ⟨h, X, G⟩ := T.h; exact He.glo_ok X G (T.c.c.fact 78 (f := .glo "Machine") rfl)
theorem Txt.g_Net (T : Txt mg) : mg "Net" = some (.ref (He.ga KK.K "Net")) := by obtain ⟨h, X, G⟩ := T.h; exact He.glo_ok X G (T.c.c.fact 79 (f := .glo "Net") rfl)
theorem Txt.g_ZERO (T : Txt mg) : mg "ZERO" = some (.ref (He.ga KK.K "ZERO")) := by obtain ⟨h, X, G⟩ := T.h; exact He.glo_ok X G (T.c.c.fact 80 (f := .glo "ZERO") rfl)
theorem Txt.g_ALL (T : Txt mg) : mg "ALL" = some (.ref (He.ga KK.K "ALL")) := by obtain ⟨h, X, G⟩ := T.h; exact He.glo_ok X G (T.c.c.fact 81 (f := .glo "ALL") rfl)
theorem Txt.g_WORDS (T : Txt mg) : mg "WORDS" = some (.ref (He.ga KK.K "WORDS")) := by obtain ⟨h, X, G⟩ := T.h; exact He.glo_ok X G (T.c.c.fact 82 (f := .glo "WORDS") rfl)
theorem Txt.f_isinstance (T : Txt mg) : mg "isinstance" = none := by obtain ⟨h, X, G⟩ := T.h; exact He.free_ok X G (T.c.c.fact 83 (f := .free "isinstance") rfl)
theorem Txt.f_len (T : Txt mg) : mg "len" = none := by obtain ⟨h, X, G⟩ := T.h; exact He.free_ok X G (T.c.c.fact 84 (f := .free "len") rfl)
theorem Txt.f_all (T : Txt mg) : mg "all" = none := by obtain ⟨h, X, G⟩ := T.h; exact He.free_ok X G (T.c.c.fact 85 (f := .free "all") rfl)
theorem Txt.f_tuple (T : Txt mg) : mg "tuple" = none := by obtain ⟨h, X, G⟩ := T.h; exact He.free_ok X G (T.c.c.fact 86 (f := .free "tuple") rfl)
theorem Txt.f_list (T : Txt mg) : mg "list" = none := by obtain ⟨h, X, G⟩ := T.h; exact He.free_ok X G (T.c.c.fact 87 (f := .free "list") rfl)
theorem Txt.f_range (T : Txt mg) : mg "range" = none := by obtain ⟨h, X, G⟩ := T.h; exact He.free_ok X G (T.c.c.fact 88 (f := .free "range") rfl)
theorem Txt.f_zip (T : Txt mg) : mg "zip" = none := by obtain ⟨h, X, G⟩ := T.h; exact He.free_ok X G (T.c.c.fact 89 (f := .free "zip") rfl)
theorem Txt.f_enumerate (T : Txt mg) : mg "enumerate" = none := by obtain ⟨h, X, G⟩ := T.h; exact He.free_ok X G (T.c.c.fact 90 (f := .free "enumerate") rfl)
theorem Txt.f_int (T : Txt mg) : mg "int" = none := by obtain ⟨h, X, G⟩ := T.h; exact He.free_ok X G (T.c.c.fact 91 (f := .free "int") rfl)
theorem Txt.f_bool (T : Txt mg) : mg "bool" = none := by obtain ⟨h, X, G⟩ := T.h; exact He.free_ok X G (T.c.c.fact 92 (f := .free "bool") rfl)
theorem Txt.f_abs (T : Txt mg) : mg "abs" = none := by obtain ⟨h, X, G⟩ := T.h; exact He.free_ok X G (T.c.c.fact 93 (f := .free "abs") rfl)
theorem Txt.f_max (T : Txt mg) : mg "max" = none := by obtain ⟨h, X, G⟩ := T.h; exact He.free_ok X G (T.c.c.fact 94 (f := .free "max") rfl)
theorem Txt.f_min (T : Txt mg) : mg "min" = none := by obtain ⟨h, X, G⟩ := T.h; exact He.free_ok X G (T.c.c.fact 95 (f := .free "min") rfl)
theorem Txt.f_repr (T : Txt mg) : mg "repr" = none := by obtain ⟨h, X, G⟩ := T.h; exact He.free_ok X G (T.c.c.fact 96 (f := .free "repr") rfl)
theorem Txt.i_GREATEST (T : Txt mg) : ∃ t, mg "GREATEST" = some (.int 1000000000000000000000000000000000000000000000000000000000000 t) := by obtain ⟨h, X, G⟩ := T.h; exact He.int_ok X G (T.c.c.fact 97 (f := .int "GREATEST" 1000000000000000000000000000000000000000000000000000000000000) rfl)
theorem Txt.i_PAIR_fractions (T : Txt mg) : ∃ t, mg "PAIR_fractions" = some (.int 2 t) := by obtain ⟨h, X, G⟩ := T.h; exact He.int_ok X G (T.c.c.fact 98 (f := .int "PAIR_fractions" 2) rfl)
theorem Txt.i_MOST_CLOCKS (T : Txt mg) : ∃ t, mg "MOST_CLOCKS" = some (.int 3 t) := by obtain ⟨h, X, G⟩ := T.h; exact He.int_ok X G (T.c.c.fact 99 (f := .int "MOST_CLOCKS" 3) rfl)
theorem Txt.i_MOST_ROOMS (T : Txt mg) : ∃ t, mg "MOST_ROOMS" = some (.int 6 t) := by obtain ⟨h, X, G⟩ := T.h; exact He.int_ok X G (T.c.c.fact 100 (f := .int "MOST_ROOMS" 6) rfl)
theorem Txt.i_MOST_DOORS (T : Txt mg) : ∃ t, mg "MOST_DOORS" = some (.int 12 t) := by obtain ⟨h, X, G⟩ := T.h; exact He.int_ok X G (T.c.c.fact 101 (f := .int "MOST_DOORS" 12) rfl)
theorem Txt.i_MOST_NUMBER (T : Txt mg) : ∃ t, mg "MOST_NUMBER" = some (.int 4 t) := by obtain ⟨h, X, G⟩ := T.h; exact He.int_ok X G (T.c.c.fact 102 (f := .int "MOST_NUMBER" 4) rfl)
theorem Txt.i_PAIR_machines (T : Txt mg) : ∃ t, mg "PAIR_machines" = some (.int 2 t) := by obtain ⟨h, X, G⟩ := T.h; exact He.int_ok X G (T.c.c.fact 103 (f := .int "PAIR_machines" 2) rfl)
theorem Txt.i_DOOR_SIZE (T : Txt mg) : ∃ t, mg "DOOR_SIZE" = some (.int 4 t) := by obtain ⟨h, X, G⟩ := T.h; exact He.int_ok X G (T.c.c.fact 104 (f := .int "DOOR_SIZE" 4) rfl)
theorem Txt.i_MOST_STEPS (T : Txt mg) : ∃ t, mg "MOST_STEPS" = some (.int 20000 t) := by obtain ⟨h, X, G⟩ := T.h; exact He.int_ok X G (T.c.c.fact 105 (f := .int "MOST_STEPS" 20000) rfl)
theorem Txt.i_PAIR_runs (T : Txt mg) : ∃ t, mg "PAIR_runs" = some (.int 2 t) := by obtain ⟨h, X, G⟩ := T.h; exact He.int_ok X G (T.c.c.fact 106 (f := .int "PAIR_runs" 2) rfl)
theorem Txt.i_PAIR_nets (T : Txt mg) : ∃ t, mg "PAIR_nets" = some (.int 2 t) := by obtain ⟨h, X, G⟩ := T.h; exact He.int_ok X G (T.c.c.fact 107 (f := .int "PAIR_nets" 2) rfl)
theorem Txt.s_STAY (T : Txt mg) : ∃ t, mg "STAY" = some (.str "stay" t) := by obtain ⟨h, X, G⟩ := T.h; exact He.str_ok X G (T.c.c.fact 108 (f := .str "STAY" "stay") rfl)
theorem Txt.s_LOW (T : Txt mg) : ∃ t, mg "LOW" = some (.str "low" t) := by obtain ⟨h, X, G⟩ := T.h; exact He.str_ok X G (T.c.c.fact 109 (f := .str "LOW" "low") rfl)
theorem Txt.s_HIGH (T : Txt mg) : ∃ t, mg "HIGH" = some (.str "high" t) := by obtain ⟨h, X, G⟩ := T.h; exact He.str_ok X G (T.c.c.fact 110 (f := .str "HIGH" "high") rfl)
theorem Txt.s_ENTER (T : Txt mg) : ∃ t, mg "ENTER" = some (.str "enter" t) := by obtain ⟨h, X, G⟩ := T.h; exact He.str_ok X G (T.c.c.fact 111 (f := .str "ENTER" "enter") rfl)
theorem Txt.m_Machine (T : Txt mg) : Mk KK.K (He.ga KK.K "Machine") (He.ma KK.K (He.ga KK.K "Machine") "__init__") := He.mkr_ok (T.c.c.fact 112 (f := .mkr "Machine") rfl)
theorem Txt.m_Net (T : Txt mg) : Mk KK.K (He.ga KK.K "Net") (He.ma KK.K (He.ga KK.K "Net") "__init__") := He.mkr_ok (T.c.c.fact 113 (f := .mkr "Net") rfl)
theorem Txt.fd_is_whole (T : Txt mg) : ∃ fd, FunD KK.K "is_whole" "is_whole" (defArgs s_is_whole) (defBody s_is_whole) (defScope s_is_whole) [] [] (He.ga KK.K "is_whole") fd := T.c.c.def_ 0 (d := d_is_whole) rfl
theorem Txt.fd_is_short (T : Txt mg) : ∃ fd, FunD KK.K "is_short" "is_short" (defArgs s_is_short) (defBody s_is_short) (defScope s_is_short) [] [] (He.ga KK.K "is_short") fd := T.c.c.def_ 1 (d := d_is_short) rfl
theorem Txt.fd_is_from (T : Txt mg) : ∃ fd, FunD KK.K "is_from" "is_from" (defArgs s_is_from) (defBody s_is_from) (defScope s_is_from) [] [] (He.ga KK.K "is_from") fd := T.c.c.def_ 2 (d := d_is_from) rfl
theorem Txt.fd_shared_in (T : Txt mg) : ∃ fd, FunD KK.K "shared_in" "shared_in" (defArgs s_shared_in) (defBody s_shared_in) (defScope s_shared_in) [] [] (He.ga KK.K "shared_in") fd := T.c.c.def_ 3 (d := d_shared_in) rfl
theorem Txt.fd_lowest (T : Txt mg) : ∃ fd, FunD KK.K "lowest" "lowest" (defArgs s_lowest) (defBody s_lowest) (defScope s_lowest) [] [] (He.ga KK.K "lowest") fd := T.c.c.def_ 4 (d := d_lowest) rfl
theorem Txt.fd_sum_in (T : Txt mg) : ∃ fd, FunD KK.K "sum_in" "sum_in" (defArgs s_sum_in) (defBody s_sum_in) (defScope s_sum_in) [] [] (He.ga KK.K "sum_in") fd := T.c.c.def_ 5 (d := d_sum_in) rfl
theorem Txt.fd_less_in (T : Txt mg) : ∃ fd, FunD KK.K "less_in" "less_in" (defArgs s_less_in) (defBody s_less_in) (defScope s_less_in) [] [] (He.ga KK.K "less_in") fd := T.c.c.def_ 6 (d := d_less_in) rfl
theorem Txt.fd_is_below (T : Txt mg) : ∃ fd, FunD KK.K "is_below" "is_below" (defArgs s_is_below) (defBody s_is_below) (defScope s_is_below) [] [] (He.ga KK.K "is_below") fd := T.c.c.def_ 7 (d := d_is_below) rfl
theorem Txt.fd_greatest_in (T : Txt mg) : ∃ fd, FunD KK.K "greatest_in" "greatest_in" (defArgs s_greatest_in) (defBody s_greatest_in) (defScope s_greatest_in) [] [] (He.ga KK.K "greatest_in") fd := T.c.c.def_ 8 (d := d_greatest_in) rfl
theorem Txt.fd_total_in (T : Txt mg) : ∃ fd, FunD KK.K "total_in" "total_in" (defArgs s_total_in) (defBody s_total_in) (defScope s_total_in) [] [] (He.ga KK.K "total_in") fd := T.c.c.def_ 9 (d := d_total_in) rfl
theorem Txt.fd_is_fraction (T : Txt mg) : ∃ fd, FunD KK.K "is_fraction" "is_fraction" (defArgs s_is_fraction) (defBody s_is_fraction) (defScope s_is_fraction) [] [] (He.ga KK.K "is_fraction") fd := T.c.c.def_ 10 (d := d_is_fraction) rfl
theorem Txt.fd_is_margin (T : Txt mg) : ∃ fd, FunD KK.K "is_margin" "is_margin" (defArgs s_is_margin) (defBody s_is_margin) (defScope s_is_margin) [] [] (He.ga KK.K "is_margin") fd := T.c.c.def_ 11 (d := d_is_margin) rfl
theorem Txt.fd_are_limits (T : Txt mg) : ∃ fd, FunD KK.K "are_limits" "are_limits" (defArgs s_are_limits) (defBody s_are_limits) (defScope s_are_limits) [] [] (He.ga KK.K "are_limits") fd := T.c.c.def_ 12 (d := d_are_limits) rfl
theorem Txt.fd_is_guard (T : Txt mg) : ∃ fd, FunD KK.K "is_guard" "is_guard" (defArgs s_is_guard) (defBody s_is_guard) (defScope s_is_guard) [] [] (He.ga KK.K "is_guard") fd := T.c.c.def_ 13 (d := d_is_guard) rfl
theorem Txt.fd_are_guards (T : Txt mg) : ∃ fd, FunD KK.K "are_guards" "are_guards" (defArgs s_are_guards) (defBody s_are_guards) (defScope s_are_guards) [] [] (He.ga KK.K "are_guards") fd := T.c.c.def_ 14 (d := d_are_guards) rfl
theorem Txt.fd_is_ascending (T : Txt mg) : ∃ fd, FunD KK.K "is_ascending" "is_ascending" (defArgs s_is_ascending) (defBody s_is_ascending) (defScope s_is_ascending) [] [] (He.ga KK.K "is_ascending") fd := T.c.c.def_ 15 (d := d_is_ascending) rfl
theorem Txt.fd_is_door_in (T : Txt mg) : ∃ fd, FunD KK.K "is_door_in" "is_door_in" (defArgs s_is_door_in) (defBody s_is_door_in) (defScope s_is_door_in) [] [] (He.ga KK.K "is_door_in") fd := T.c.c.def_ 16 (d := d_is_door_in) rfl
theorem Txt.fd_rooms_fault (T : Txt mg) : ∃ fd, FunD KK.K "rooms_fault" "rooms_fault" (defArgs s_rooms_fault) (defBody s_rooms_fault) (defScope s_rooms_fault) [] [] (He.ga KK.K "rooms_fault") fd := T.c.c.def_ 17 (d := d_rooms_fault) rfl
theorem Txt.fd_doors_fault (T : Txt mg) : ∃ fd, FunD KK.K "doors_fault" "doors_fault" (defArgs s_doors_fault) (defBody s_doors_fault) (defScope s_doors_fault) [] [] (He.ga KK.K "doors_fault") fd := T.c.c.def_ 18 (d := d_doors_fault) rfl
theorem Txt.fd_fault_of (T : Txt mg) : ∃ fd, FunD KK.K "fault_of" "fault_of" (defArgs s_fault_of) (defBody s_fault_of) (defScope s_fault_of) [] [] (He.ga KK.K "fault_of") fd := T.c.c.def_ 19 (d := d_fault_of) rfl
theorem Txt.fd_require_machine (T : Txt mg) : ∃ fd, FunD KK.K "require_machine" "require_machine" (defArgs s_require_machine) (defBody s_require_machine) (defScope s_require_machine) [] [] (He.ga KK.K "require_machine") fd := T.c.c.def_ 20 (d := d_require_machine) rfl
theorem Txt.fd_is_step (T : Txt mg) : ∃ fd, FunD KK.K "is_step" "is_step" (defArgs s_is_step) (defBody s_is_step) (defScope s_is_step) [] [] (He.ga KK.K "is_step") fd := T.c.c.def_ 21 (d := d_is_step) rfl
theorem Txt.fd_are_steps (T : Txt mg) : ∃ fd, FunD KK.K "are_steps" "are_steps" (defArgs s_are_steps) (defBody s_are_steps) (defScope s_are_steps) [] [] (He.ga KK.K "are_steps") fd := T.c.c.def_ 22 (d := d_are_steps) rfl
theorem Txt.fd_do_follow (T : Txt mg) : ∃ fd, FunD KK.K "do_follow" "do_follow" (defArgs s_do_follow) (defBody s_do_follow) (defScope s_do_follow) [] [] (He.ga KK.K "do_follow") fd := T.c.c.def_ 23 (d := d_do_follow) rfl
theorem Txt.fd_is_run_of (T : Txt mg) : ∃ fd, FunD KK.K "is_run_of" "is_run_of" (defArgs s_is_run_of) (defBody s_is_run_of) (defScope s_is_run_of) [] [] (He.ga KK.K "is_run_of") fd := T.c.c.def_ 24 (d := d_is_run_of) rfl
theorem Txt.fd_grown (T : Txt mg) : ∃ fd, FunD KK.K "grown" "grown" (defArgs s_grown) (defBody s_grown) (defScope s_grown) [] [] (He.ga KK.K "grown") fd := T.c.c.def_ 25 (d := d_grown) rfl
theorem Txt.fd_put_back_in (T : Txt mg) : ∃ fd, FunD KK.K "put_back_in" "put_back_in" (defArgs s_put_back_in) (defBody s_put_back_in) (defScope s_put_back_in) [] [] (He.ga KK.K "put_back_in") fd := T.c.c.def_ 26 (d := d_put_back_in) rfl
theorem Txt.fd_standings_of (T : Txt mg) : ∃ fd, FunD KK.K "standings_of" "standings_of" (defArgs s_standings_of) (defBody s_standings_of) (defScope s_standings_of) [] [] (He.ga KK.K "standings_of") fd := T.c.c.def_ 27 (d := d_standings_of) rfl
theorem Txt.fd_above (T : Txt mg) : ∃ fd, FunD KK.K "above" "above" (defArgs s_above) (defBody s_above) (defScope s_above) [] [] (He.ga KK.K "above") fd := T.c.c.def_ 28 (d := d_above) rfl
theorem Txt.fd_below (T : Txt mg) : ∃ fd, FunD KK.K "below" "below" (defArgs s_below) (defBody s_below) (defScope s_below) [] [] (He.ga KK.K "below") fd := T.c.c.def_ 29 (d := d_below) rfl
theorem Txt.fd_misses_at (T : Txt mg) : ∃ fd, FunD KK.K "misses_at" "misses_at" (defArgs s_misses_at) (defBody s_misses_at) (defScope s_misses_at) [] [] (He.ga KK.K "misses_at") fd := T.c.c.def_ 30 (d := d_misses_at) rfl
theorem Txt.fd_misses_of (T : Txt mg) : ∃ fd, FunD KK.K "misses_of" "misses_of" (defArgs s_misses_of) (defBody s_misses_of) (defScope s_misses_of) [] [] (He.ga KK.K "misses_of") fd := T.c.c.def_ 31 (d := d_misses_of) rfl
theorem Txt.fd_needed_of (T : Txt mg) : ∃ fd, FunD KK.K "needed_of" "needed_of" (defArgs s_needed_of) (defBody s_needed_of) (defScope s_needed_of) [] [] (He.ga KK.K "needed_of") fd := T.c.c.def_ 32 (d := d_needed_of) rfl
theorem Txt.fd_are_shared (T : Txt mg) : ∃ fd, FunD KK.K "are_shared" "are_shared" (defArgs s_are_shared) (defBody s_are_shared) (defScope s_are_shared) [] [] (He.ga KK.K "are_shared") fd := T.c.c.def_ 33 (d := d_are_shared) rfl
theorem Txt.fd_shifted (T : Txt mg) : ∃ fd, FunD KK.K "shifted" "shifted" (defArgs s_shifted) (defBody s_shifted) (defScope s_shifted) [] [] (He.ga KK.K "shifted") fd := T.c.c.def_ 34 (d := d_shifted) rfl
theorem Txt.fd_first_doors (T : Txt mg) : ∃ fd, FunD KK.K "first_doors" "first_doors" (defArgs s_first_doors) (defBody s_first_doors) (defScope s_first_doors) [] [] (He.ga KK.K "first_doors") fd := T.c.c.def_ 35 (d := d_first_doors) rfl
theorem Txt.fd_last_doors (T : Txt mg) : ∃ fd, FunD KK.K "last_doors" "last_doors" (defArgs s_last_doors) (defBody s_last_doors) (defScope s_last_doors) [] [] (He.ga KK.K "last_doors") fd := T.c.c.def_ 36 (d := d_last_doors) rfl
theorem Txt.fd_both_door (T : Txt mg) : ∃ fd, FunD KK.K "both_door" "both_door" (defArgs s_both_door) (defBody s_both_door) (defScope s_both_door) [] [] (He.ga KK.K "both_door") fd := T.c.c.def_ 37 (d := d_both_door) rfl
theorem Txt.fd_doors_and_sides (T : Txt mg) : ∃ fd, FunD KK.K "doors_and_sides" "doors_and_sides" (defArgs s_doors_and_sides) (defBody s_doors_and_sides) (defScope s_doors_and_sides) [] [] (He.ga KK.K "doors_and_sides") fd := T.c.c.def_ 38 (d := d_doors_and_sides) rfl
theorem Txt.fd_require_sizes (T : Txt mg) : ∃ fd, FunD KK.K "require_sizes" "require_sizes" (defArgs s_require_sizes) (defBody s_require_sizes) (defScope s_require_sizes) [] [] (He.ga KK.K "require_sizes") fd := T.c.c.def_ 39 (d := d_require_sizes) rfl
theorem Txt.fd_is_stay_of (T : Txt mg) : ∃ fd, FunD KK.K "is_stay_of" "is_stay_of" (defArgs s_is_stay_of) (defBody s_is_stay_of) (defScope s_is_stay_of) [] [] (He.ga KK.K "is_stay_of") fd := T.c.c.def_ 40 (d := d_is_stay_of) rfl
theorem Txt.fd_length_of (T : Txt mg) : ∃ fd, FunD KK.K "length_of" "length_of" (defArgs s_length_of) (defBody s_length_of) (defScope s_length_of) [] [] (He.ga KK.K "length_of") fd := T.c.c.def_ 41 (d := d_length_of) rfl
theorem Txt.fd_stay_needed_of (T : Txt mg) : ∃ fd, FunD KK.K "stay_needed_of" "stay_needed_of" (defArgs s_stay_needed_of) (defBody s_stay_needed_of) (defScope s_stay_needed_of) [] [] (He.ga KK.K "stay_needed_of") fd := T.c.c.def_ 42 (d := d_stay_needed_of) rfl
theorem Txt.fd_side_stay (T : Txt mg) : ∃ fd, FunD KK.K "side_stay" "side_stay" (defArgs s_side_stay) (defBody s_side_stay) (defScope s_side_stay) [] [] (He.ga KK.K "side_stay") fd := T.c.c.def_ 43 (d := d_side_stay) rfl
theorem Txt.fd_require_net (T : Txt mg) : ∃ fd, FunD KK.K "require_net" "require_net" (defArgs s_require_net) (defBody s_require_net) (defScope s_require_net) [] [] (He.ga KK.K "require_net") fd := T.c.c.def_ 44 (d := d_require_net) rfl
theorem Txt.fd_require_stay (T : Txt mg) : ∃ fd, FunD KK.K "require_stay" "require_stay" (defArgs s_require_stay) (defBody s_require_stay) (defScope s_require_stay) [] [] (He.ga KK.K "require_stay") fd := T.c.c.def_ 45 (d := d_require_stay) rfl
theorem Txt.fd_is_stay (T : Txt mg) : ∃ fd, FunD KK.K "is_stay" "is_stay" (defArgs s_is_stay) (defBody s_is_stay) (defScope s_is_stay) [] [] (He.ga KK.K "is_stay") fd := T.c.c.def_ 46 (d := d_is_stay) rfl
theorem Txt.fd_stay_length (T : Txt mg) : ∃ fd, FunD KK.K "stay_length" "stay_length" (defArgs s_stay_length) (defBody s_stay_length) (defScope s_stay_length) [] [] (He.ga KK.K "stay_length") fd := T.c.c.def_ 47 (d := d_stay_length) rfl
theorem Txt.fd_stay_needed (T : Txt mg) : ∃ fd, FunD KK.K "stay_needed" "stay_needed" (defArgs s_stay_needed) (defBody s_stay_needed) (defScope s_stay_needed) [] [] (He.ga KK.K "stay_needed") fd := T.c.c.def_ 48 (d := d_stay_needed) rfl
theorem Txt.fd_split (T : Txt mg) : ∃ fd, FunD KK.K "split" "split" (defArgs s_split) (defBody s_split) (defScope s_split) [] [] (He.ga KK.K "split") fd := T.c.c.def_ 49 (d := d_split) rfl
theorem Txt.fd_L_dice (T : Txt mg) : ∃ fd, FunD KK.K "_law_dice" "_law_dice" (defArgs s_L_dice) (defBody s_L_dice) (defScope s_L_dice) [] [] (He.ga KK.K "_law_dice") fd := T.c.c.def_ 50 (d := d_L_dice) rfl
theorem Txt.fd_L_roll (T : Txt mg) : ∃ fd, FunD KK.K "_law_roll" "_law_roll" (defArgs s_L_roll) (defBody s_L_roll) (defScope s_L_roll) [] [] (He.ga KK.K "_law_roll") fd := T.c.c.def_ 51 (d := d_L_roll) rfl
theorem Txt.fd_L_pick (T : Txt mg) : ∃ fd, FunD KK.K "_law_pick" "_law_pick" (defArgs s_L_pick) (defBody s_L_pick) (defScope s_L_pick) [] [] (He.ga KK.K "_law_pick") fd := T.c.c.def_ 52 (d := d_L_pick) rfl
theorem Txt.fd_L_ma_guard (T : Txt mg) : ∃ fd, FunD KK.K "_law_ma_guard" "_law_ma_guard" (defArgs s_L_ma_guard) (defBody s_L_ma_guard) (defScope s_L_ma_guard) [] [] (He.ga KK.K "_law_ma_guard") fd := T.c.c.def_ 53 (d := d_L_ma_guard) rfl
theorem Txt.fd_L_ma_lot (T : Txt mg) : ∃ fd, FunD KK.K "_law_ma_lot" "_law_ma_lot" (defArgs s_L_ma_lot) (defBody s_L_ma_lot) (defScope s_L_ma_lot) [] [] (He.ga KK.K "_law_ma_lot") fd := T.c.c.def_ 54 (d := d_L_ma_lot) rfl
theorem Txt.fd_L_ma_door (T : Txt mg) : ∃ fd, FunD KK.K "_law_ma_door" "_law_ma_door" (defArgs s_L_ma_door) (defBody s_L_ma_door) (defScope s_L_ma_door) [] [] (He.ga KK.K "_law_ma_door") fd := T.c.c.def_ 55 (d := d_L_ma_door) rfl
theorem Txt.fd_L_fr_low (T : Txt mg) : ∃ fd, FunD KK.K "_law_fr_low" "_law_fr_low" (defArgs s_L_fr_low) (defBody s_L_fr_low) (defScope s_L_fr_low) [] [] (He.ga KK.K "_law_fr_low") fd := T.c.c.def_ 56 (d := d_L_fr_low) rfl
theorem Txt.fd_L_fr_plus (T : Txt mg) : ∃ fd, FunD KK.K "_law_fr_plus" "_law_fr_plus" (defArgs s_L_fr_plus) (defBody s_L_fr_plus) (defScope s_L_fr_plus) [] [] (He.ga KK.K "_law_fr_plus") fd := T.c.c.def_ 57 (d := d_L_fr_plus) rfl
theorem Txt.fd_L_fr_less (T : Txt mg) : ∃ fd, FunD KK.K "_law_fr_less" "_law_fr_less" (defArgs s_L_fr_less) (defBody s_L_fr_less) (defScope s_L_fr_less) [] [] (He.ga KK.K "_law_fr_less") fd := T.c.c.def_ 58 (d := d_L_fr_less) rfl
theorem Txt.fd_L_fr_below (T : Txt mg) : ∃ fd, FunD KK.K "_law_fr_below" "_law_fr_below" (defArgs s_L_fr_below) (defBody s_L_fr_below) (defScope s_L_fr_below) [] [] (He.ga KK.K "_law_fr_below") fd := T.c.c.def_ 59 (d := d_L_fr_below) rfl
theorem Txt.fd_L_fr_most (T : Txt mg) : ∃ fd, FunD KK.K "_law_fr_most" "_law_fr_most" (defArgs s_L_fr_most) (defBody s_L_fr_most) (defScope s_L_fr_most) [] [] (He.ga KK.K "_law_fr_most") fd := T.c.c.def_ 60 (d := d_L_fr_most) rfl
theorem Txt.fd_L_fr_wait (T : Txt mg) : ∃ fd, FunD KK.K "_law_fr_wait" "_law_fr_wait" (defArgs s_L_fr_wait) (defBody s_L_fr_wait) (defScope s_L_fr_wait) [] [] (He.ga KK.K "_law_fr_wait") fd := T.c.c.def_ 61 (d := d_L_fr_wait) rfl
theorem Txt.fd_L_ru_waited (T : Txt mg) : ∃ fd, FunD KK.K "_law_ru_waited" "_law_ru_waited" (defArgs s_L_ru_waited) (defBody s_L_ru_waited) (defScope s_L_ru_waited) [] [] (He.ga KK.K "_law_ru_waited") fd := T.c.c.def_ 62 (d := d_L_ru_waited) rfl
theorem Txt.fd_L_ru_put (T : Txt mg) : ∃ fd, FunD KK.K "_law_ru_put" "_law_ru_put" (defArgs s_L_ru_put) (defBody s_L_ru_put) (defScope s_L_ru_put) [] [] (He.ga KK.K "_law_ru_put") fd := T.c.c.def_ 63 (d := d_L_ru_put) rfl
theorem Txt.fd_L_ru_over (T : Txt mg) : ∃ fd, FunD KK.K "_law_ru_over" "_law_ru_over" (defArgs s_L_ru_over) (defBody s_L_ru_over) (defScope s_L_ru_over) [] [] (He.ga KK.K "_law_ru_over") fd := T.c.c.def_ 64 (d := d_L_ru_over) rfl
theorem Txt.fd_L_ru_walked (T : Txt mg) : ∃ fd, FunD KK.K "_law_ru_walked" "_law_ru_walked" (defArgs s_L_ru_walked) (defBody s_L_ru_walked) (defScope s_L_ru_walked) [] [] (He.ga KK.K "_law_ru_walked") fd := T.c.c.def_ 65 (d := d_L_ru_walked) rfl
theorem Txt.fd_L_ru_drawn (T : Txt mg) : ∃ fd, FunD KK.K "_law_ru_drawn" "_law_ru_drawn" (defArgs s_L_ru_drawn) (defBody s_L_ru_drawn) (defScope s_L_ru_drawn) [] [] (He.ga KK.K "_law_ru_drawn") fd := T.c.c.def_ 66 (d := d_L_ru_drawn) rfl
theorem Txt.fd_L_ru_long (T : Txt mg) : ∃ fd, FunD KK.K "_law_ru_long" "_law_ru_long" (defArgs s_L_ru_long) (defBody s_L_ru_long) (defScope s_L_ru_long) [] [] (He.ga KK.K "_law_ru_long") fd := T.c.c.def_ 67 (d := d_L_ru_long) rfl
theorem Txt.fd_L_ru_length (T : Txt mg) : ∃ fd, FunD KK.K "_law_ru_length" "_law_ru_length" (defArgs s_L_ru_length) (defBody s_L_ru_length) (defScope s_L_ru_length) [] [] (He.ga KK.K "_law_ru_length") fd := T.c.c.def_ 68 (d := d_L_ru_length) rfl
theorem Txt.fd_L_ne_machine (T : Txt mg) : ∃ fd, FunD KK.K "_law_ne_machine" "_law_ne_machine" (defArgs s_L_ne_machine) (defBody s_L_ne_machine) (defScope s_L_ne_machine) [] [] (He.ga KK.K "_law_ne_machine") fd := T.c.c.def_ 69 (d := d_L_ne_machine) rfl
theorem Txt.fd_L_ne_drawn (T : Txt mg) : ∃ fd, FunD KK.K "_law_ne_drawn" "_law_ne_drawn" (defArgs s_L_ne_drawn) (defBody s_L_ne_drawn) (defScope s_L_ne_drawn) [] [] (He.ga KK.K "_law_ne_drawn") fd := T.c.c.def_ 70 (d := d_L_ne_drawn) rfl
theorem Txt.fd_L_ne_net (T : Txt mg) : ∃ fd, FunD KK.K "_law_ne_net" "_law_ne_net" (defArgs s_L_ne_net) (defBody s_L_ne_net) (defScope s_L_ne_net) [] [] (He.ga KK.K "_law_ne_net") fd := T.c.c.def_ 71 (d := d_L_ne_net) rfl
theorem Txt.fd_L_ne_split (T : Txt mg) : ∃ fd, FunD KK.K "_law_ne_split" "_law_ne_split" (defArgs s_L_ne_split) (defBody s_L_ne_split) (defScope s_L_ne_split) [] [] (He.ga KK.K "_law_ne_split") fd := T.c.c.def_ 72 (d := d_L_ne_split) rfl
theorem Txt.fd_L_near (T : Txt mg) : ∃ fd, FunD KK.K "_law_near" "_law_near" (defArgs s_L_near) (defBody s_L_near) (defScope s_L_near) [] [] (He.ga KK.K "_law_near") fd := T.c.c.def_ 73 (d := d_L_near) rfl
theorem Txt.fd_L_is_due (T : Txt mg) : ∃ fd, FunD KK.K "_law_is_due" "_law_is_due" (defArgs s_L_is_due) (defBody s_L_is_due) (defScope s_L_is_due) [] [] (He.ga KK.K "_law_is_due") fd := T.c.c.def_ 74 (d := d_L_is_due) rfl
theorem Txt.fd_L_is_wait (T : Txt mg) : ∃ fd, FunD KK.K "_law_is_wait" "_law_is_wait" (defArgs s_L_is_wait) (defBody s_L_is_wait) (defScope s_L_is_wait) [] [] (He.ga KK.K "_law_is_wait") fd := T.c.c.def_ 75 (d := d_L_is_wait) rfl
theorem Txt.fd_L_right (T : Txt mg) : ∃ fd, FunD KK.K "_law_right" "_law_right" (defArgs s_L_right) (defBody s_L_right) (defScope s_L_right) [] [] (He.ga KK.K "_law_right") fd := T.c.c.def_ 76 (d := d_L_right) rfl
theorem Txt.fd_law (T : Txt mg) : ∃ fd, FunD KK.K "law" "law" (defArgs s_law) (defBody s_law) (defScope s_law) [] [] (He.ga KK.K "law") fd := T.c.c.def_ 77 (d := d_law) rfl
theorem Txt.fd_Machine_init (T : Txt mg) : ∃ fd, FunD KK.K "__init__" "Machine.__init__" (defArgs s_Machine_init) (defBody s_Machine_init) (defScope s_Machine_init) [] [] (He.ma KK.K (He.ga KK.K "Machine") "__init__") fd := T.c.c.def_ 78 (d := d_Machine_init) rfl
theorem Txt.fd_Net_init (T : Txt mg) : ∃ fd, FunD KK.K "__init__" "Net.__init__" (defArgs s_Net_init) (defBody s_Net_init) (defScope s_Net_init) [] [] (He.ma KK.K (He.ga KK.K "Net") "__init__") fd := T.c.c.def_ 79 (d := d_Net_init) rfl
end
end M33
namespace M33
open PySem PySem.Spec PyProof.Rows L2
abbrev hk : PySem.W.Hook := hookM
def ob (s : PySem.W.SharedT) : He.AlD × Bool × List He.FnW := obsM (HandSHeadRun.getT s)
theorem ob_eq (s : PySem.W.SharedT) : ob s = hk.obs s.abs := obsM_eq (HandSHeadRun.getT_eq s)
theorem run (w : World) : HandSHeadRun.RunEq R (PySem.W.view R.prog [112]) hk ob 20000 nms w := by
  intro os
  kernel_rfl
end M33
set_option maxHeartbeats 4000000
/-! The mirror: plain data, plain functions; what each value is. -/
namespace M33
open PySem PySem.Spec PyProof.Rows L2 TL
/-! ### fractions: k twelfths -/
def g12 (k : Int) : Int := (Int.gcd k 12 : Nat)
def fnum (k : Int) : Int := k / g12 k
def fden (k : Int) : Int := 12 / g12 k
abbrev Bk (k : Int) : Prop := -1000000 < k ∧ k < 1000000
theorem g12_pos (k : Int) : 0 < g12 k := by
  have : 0 < Int.gcd k 12 := Int.gcd_pos_of_ne_zero_right _ (by decide)
  unfold g12; omega
theorem g12_dvd (k : Int) : g12 k ∣ k := Int.gcd_dvd_left ..
theorem g12_dvd12 (k : Int) : g12 k ∣ 12 := Int.gcd_dvd_right ..
theorem g12_le (k : Int) : g12 k ≤ 12 := Int.le_of_dvd (by decide) (g12_dvd12 k)
theorem fnum_mul (k : Int) : fnum k * g12 k = k := Int.ediv_mul_cancel (g12_dvd k)
theorem fden_mul (k : Int) : fden k * g12 k = 12 := Int.ediv_mul_cancel (g12_dvd12 k)
theorem fden_pos (k : Int) : 0 < fden k := by
  have h1 := fden_mul k
  have h2 := g12_pos k
  by_cases h : 0 < fden k
  · exact h
  · have : fden k * g12 k ≤ 0 := Int.mul_nonpos_of_nonpos_of_nonneg (by omega) (by omega)
    omega
theorem fden_le (k : Int) : fden k ≤ 12 := by
  have h1 := fden_mul k
  have h2 := g12_pos k
  have h3 := fden_pos k
  have : fden k * 1 ≤ fden k * g12 k := Int.mul_le_mul_of_nonneg_left (by omega) (by omega)
  omega
theorem fr_eq (k : Int) : 12 * fnum k = k * fden k := by
  have h1 := fnum_mul k
  have h2 := fden_mul k
  calc 12 * fnum k = (fden k * g12 k) * fnum k := by rw [h2]
    _ = (fnum k * g12 k) * fden k := by rw [Int.mul_comm (fnum k) (g12 k), Int.mul_assoc, Int.mul_comm (fden k), Int.mul_assoc]
    _ = k * fden k := by rw [h1]
theorem fnum_bd {k : Int} (h : Bk k) : Bk (fnum k) := by
  have h1 := fr_eq k
  have h2 := fden_pos k
  have h3 := fden_le k
  obtain ⟨h4, h5⟩ := h
  have a1 : k * fden k ≤ 999999 * fden k := Int.mul_le_mul_of_nonneg_right (by omega) (by omega)
  have a2 : -999999 * fden k ≤ k * fden k := Int.mul_le_mul_of_nonneg_right (by omega) (by omega)
  constructor <;> omega
theorem fnum_nn {k : Int} : 0 ≤ fnum k ↔ 0 ≤ k := by
  have h1 := fnum_mul k
  have h2 := g12_pos k
  constructor
  · intro h
    have : 0 ≤ fnum k * g12 k := Int.mul_nonneg h (by omega)
    omega
  · intro h
    exact Int.ediv_nonneg h (by omega)
theorem dvd_cop {b c d : Int} (h : b ∣ c * d) (g : Int.gcd b c = 1) : b ∣ d := by
  have h1 : b.natAbs ∣ c.natAbs * d.natAbs := by rw [← Int.natAbs_mul]; exact Int.natAbs_dvd_natAbs.mpr h
  exact Int.natAbs_dvd_natAbs.mp (Nat.Coprime.dvd_of_dvd_mul_left (show Nat.gcd b.natAbs c.natAbs = 1 from g) h1)
theorem cop_of {a b c d : Int} (hb : 0 < b) (hd : 0 < d) (h1 : Int.gcd a b = 1) (h2 : Int.gcd c d = 1) (e : a * d = c * b) : a = c ∧ b = d := by
  have d1 : b ∣ d := by
    have : b ∣ a * d := ⟨c, by rw [e, Int.mul_comm]⟩
    have h1' : Int.gcd b a = 1 := by rw [Int.gcd_comm]; exact h1
    exact dvd_cop this h1'
  have d2 : d ∣ b := by
    have : d ∣ c * b := ⟨a, by rw [← e, Int.mul_comm]⟩
    have h2' : Int.gcd d c = 1 := by rw [Int.gcd_comm]; exact h2
    exact dvd_cop this h2'
  have l1 := Int.le_of_dvd hd d1
  have l2 := Int.le_of_dvd hb d2
  have hbd : b = d := by omega
  subst hbd
  exact ⟨Int.eq_of_mul_eq_mul_right (by omega) e, rfl⟩
theorem f_cop (k : Int) : Int.gcd (fnum k) (fden k) = 1 := by
  have h : Int.gcd (k / (Int.gcd k 12 : Nat)) (12 / (Int.gcd k 12 : Nat)) = 1 := Int.gcd_ediv_gcd_ediv_gcd (Int.gcd_pos_of_ne_zero_right _ (by decide))
  exact h
/-- any way to lowest terms -/
theorem low_eq {t b k : Int} (hb : 0 < b) (h : 12 * t = k * b) : t / (Int.gcd t b : Nat) = fnum k ∧ b / (Int.gcd t b : Nat) = fden k := by
  have hg : 0 < Int.gcd t b := Int.gcd_pos_of_ne_zero_right _ (by omega)
  have c1 : Int.gcd (t / (Int.gcd t b : Nat)) (b / (Int.gcd t b : Nat)) = 1 := Int.gcd_ediv_gcd_ediv_gcd hg
  have e1 : t / (Int.gcd t b : Nat) * (Int.gcd t b : Nat) = t := Int.ediv_mul_cancel (Int.gcd_dvd_left ..)
  have e2 : b / (Int.gcd t b : Nat) * (Int.gcd t b : Nat) = b := Int.ediv_mul_cancel (Int.gcd_dvd_right ..)
  have p2 : 0 < b / (Int.gcd t b : Nat) := Int.ediv_pos_of_pos_of_dvd hb (by omega) (Int.gcd_dvd_right ..)
  refine cop_of p2 (fden_pos k) c1 (f_cop k) ?_
  -- t' * fd = fn * b'
  have h3 := fr_eq k
  generalize t / (Int.gcd t b : Nat) = t' at *
  generalize b / (Int.gcd t b : Nat) = b' at *
  generalize (Int.gcd t b : Nat) = g at *
  have hgi : (0 : Int) < (g : Int) := by omega
  -- 12 t' = k b'
  have h4 : 12 * t' = k * b' := by
    have : (12 * t') * (g : Int) = (k * b') * (g : Int) := by rw [Int.mul_assoc, e1, Int.mul_assoc, e2, h]
    exact Int.eq_of_mul_eq_mul_right (by omega) this
  have : 12 * (t' * fden k) = 12 * (fnum k * b') := by
    calc 12 * (t' * fden k) = (12 * t') * fden k := by rw [Int.mul_assoc]
      _ = (k * b') * fden k := by rw [h4]
      _ = (k * fden k) * b' := by rw [Int.mul_assoc, Int.mul_comm b', Int.mul_assoc]
      _ = (12 * fnum k) * b' := by rw [h3]
      _ = 12 * (fnum k * b') := by rw [Int.mul_assoc]
  omega
theorem f_lt (j k : Int) : fnum j * fden k < fnum k * fden j ↔ j < k := by
  have h1 := fr_eq j
  have h2 := fr_eq k
  have p1 := fden_pos j
  have p2 := fden_pos k
  have e1 : 12 * (fnum j * fden k) = j * (fden j * fden k) := by rw [← Int.mul_assoc, h1, Int.mul_assoc]
  have e2 : 12 * (fnum k * fden j) = k * (fden j * fden k) := by rw [← Int.mul_assoc, h2, Int.mul_assoc, Int.mul_comm (fden k)]
  have pp : 0 < fden j * fden k := Int.mul_pos p1 p2
  constructor
  · intro h
    have : j * (fden j * fden k) < k * (fden j * fden k) := by omega
    exact Int.lt_of_mul_lt_mul_right this (by omega)
  · intro h
    have := Int.mul_lt_mul_of_pos_right h pp
    omega
theorem f_inj {j k : Int} (h1 : fnum j = fnum k) (h2 : fden j = fden k) : j = k := by
  have a := fr_eq j
  have b := fr_eq k
  rw [h1, h2] at a
  have : j * fden k = k * fden k := by omega
  exact Int.eq_of_mul_eq_mul_right (by have := fden_pos k; omega) this
/-! ### any value, one level after another -/
inductive D where
  | non
  | bl (b : Bool)
  | int (i : Int)
  | lst (ds : List D)
  | tup (ds : List D)
section
variable [KK]
mutual
def rD : D → Vp
  | .non => rN
  | .bl b => rB b
  | .int i => TL.rI i
  | .lst ds => rL (rDs ds)
  | .tup ds => rT (rDs ds)
def rDs : List D → List Vp
  | [] => []
  | d :: ds => rD d :: rDs ds
end
theorem rDs_eq : ∀ ds : List D, rDs ds = ds.map rD
  | [] => by rw [rDs]; rfl
  | d :: ds => by rw [rDs, rDs_eq ds]; rfl
theorem rD_tup (ds : List D) : rD (.tup ds) = rT (ds.map rD) := by rw [rD, rDs_eq]
theorem rD_lst (ds : List D) : rD (.lst ds) = rL (ds.map rD) := by rw [rD, rDs_eq]
theorem rD_int (i : Int) : rD (.int i) = TL.rI i := by rw [rD]
theorem rD_bl (i : Bool) : rD (.bl i) = rB i := by rw [rD]
theorem rD_non : rD .non = rN := by rw [rD]
def rF (k : Int) : Vp := rT [TL.rI (fnum k), TL.rI (fden k)]
def rG (g : Int × Int) : Vp := rT [TL.rI g.1, TL.rI g.2]
end
def tyD : D → String
  | .non => "NoneType"
  | .bl _ => "bool"
  | .int _ => "int"
  | .lst _ => "list"
  | .tup _ => "tuple"
instance [KK] {d : D} : HasTy (rD d) (tyD d) := by
  cases d with
  | non => rw [rD_non]; exact inferInstanceAs (HasTy rN "NoneType")
  | bl b => rw [rD_bl]; exact inferInstanceAs (HasTy (rB b) "bool")
  | int i => rw [rD_int]; exact inferInstanceAs (HasTy (TL.rI i) "int")
  | lst ds => rw [rD_lst]; exact inferInstanceAs (HasTy (rL _) "list")
  | tup ds => rw [rD_tup]; exact inferInstanceAs (HasTy (rT _) "tuple")
def G60 : Int := 10 ^ 60
def isShort : D → Bool
  | .int i => decide (-G60 < i) && decide (i < G60)
  | _ => false
def isFrom (l m : Int) : D → Bool
  | .int i => decide (l ≤ i) && decide (i ≤ m)
  | _ => false
def isFr : D → Bool
  | .tup [.int a, .int b] => isShort (.int a) && (isShort (.int b) && (decide (0 < b) && decide (Int.gcd a b = 1)))
  | _ => false
def isMar : D → Bool
  | .tup [.int a, .int b] => isFr (.tup [.int a, .int b]) && decide (0 ≤ a)
  | _ => false
def isStep : D → Bool
  | .tup [w, i] => isMar w && isFrom 0 11 i
  | _ => false
def areSteps : D → Bool
  | .tup ds => decide (ds.length ≤ 20000) && ds.all isStep
  | _ => false
/-! ### machines -/
structure Door where
  room : Int
  gs : List (Int × Int)
  rs : List Int
  goal : Int
structure Mach where
  cl : Nat
  lims : List (List Int)
  doors : List Door
section
variable [KK]
def rDoor (d : Door) : Vp := rT [TL.rI d.room, rT (d.gs.map rG), rT (d.rs.map TL.rI), TL.rI d.goal]
def rLim (l : List Int) : Vp := rT (l.map TL.rI)
def rDoors (ds : List Door) : Vp := rT (ds.map rDoor)
def rLims (ls : List (List Int)) : Vp := rT (ls.map rLim)
def rTold (m : Mach) : Vp := rT [TL.rI m.cl, rLims m.lims, rDoors m.doors]
def CM : Addr := He.ga KK.K "Machine"
def CN : Addr := He.ga KK.K "Net"
def rM (m : Mach) : Vp := rO CM [some (TL.rI m.cl), some (rDoors m.doors), some (rLims m.lims)]
def rSide (p : Option Int × Option Int) : Vp := rT [match p.1 with | some i => TL.rI i | none => rN, match p.2 with | some i => TL.rI i | none => rN]
def rStep (s : Int × Int) : Vp := rT [rF s.1, TL.rI s.2]
def rRun (r : List (Int × Int)) : Vp := rT (r.map rStep)
def rStay (s : List (Int × Int) × Int) : Vp := rT [rRun s.1, rF s.2]
def rPr (p : Int × Int) : Vp := rT [TL.rI p.1, TL.rI p.2]
structure Net where
  m : Mach
  one : Mach
  other : Mach
  shared : List (Int × Int)
  sides : List (Option Int × Option Int)
def rNet (n : Net) : Vp := rO CN [some (rM n.m), some (rM n.one), some (rM n.other), some (rT (n.shared.map rPr)), some (rT (n.sides.map rSide))]
end
structure DoorOk (c rooms : Nat) (d : Door) : Prop where
  r0 : 0 ≤ d.room
  r1 : d.room < rooms
  gl : d.gs.length = c
  g : ∀ g ∈ d.gs, 0 ≤ g.1 ∧ g.1 ≤ g.2 ∧ g.2 ≤ 4
  rs : ∀ r ∈ d.rs, 0 ≤ r ∧ r < c
  asc : d.rs.Pairwise (· < ·)
  o0 : 0 ≤ d.goal
  o1 : d.goal < rooms
structure MachOk (m : Mach) : Prop where
  c1 : 1 ≤ m.cl
  c3 : m.cl ≤ 3
  l1 : 1 ≤ m.lims.length
  l6 : m.lims.length ≤ 6
  ll : ∀ l ∈ m.lims, l.length = m.cl
  lb : ∀ l ∈ m.lims, ∀ x ∈ l, 0 ≤ x ∧ x ≤ 4
  d12 : m.doors.length ≤ 12
  dk : ∀ d ∈ m.doors, DoorOk m.cl m.lims.length d
end M33
/-! More rules: chains, tuples in order, comprehensions stored at once, parallel stores of new lists, what is never come to, two clauses. -/
namespace TL
open PySem PySem.Spec PyProof.Rows L2
section
variable {X : Cx} {a b c e : Expr} {G : En} {p q z r : Vp} {rs : List Vp} {pos ps : Pos} {x y z : Str} {i j k : Int}
theorem xe_ltlt (ha : XE X a G (rI i)) (hb : XE X b G (rI j)) (hc : XE X c G (rI k)) (hm : lastMarks [.Lt, .Lt] [b, c] = false := by with_unfolding_all rfl) : XE X (.Compare a [.Lt, .Lt] [b, c] pos) G (rB (decide (i < j) && decide (j < k))) :=
  xe_chain (f := fun i j => decide (i < j)) (g := fun i j => decide (i < j)) op_lt op_lt ha hb (fun _ => hc) hm
theorem xe_lele (ha : XE X a G (rI i)) (hb : XE X b G (rI j)) (hc : XE X c G (rI k)) (hm : lastMarks [.LtE, .LtE] [b, c] = false := by with_unfolding_all rfl) : XE X (.Compare a [.LtE, .LtE] [b, c] pos) G (rB (decide (i ≤ j) && decide (j ≤ k))) :=
  xe_chain (f := fun i j => decide (i ≤ j)) (g := fun i j => decide (i ≤ j)) op_le op_le ha hb (fun _ => hc) hm
theorem xt_lele (ha : XE X a G (rI i)) (hb : XE X b G (rI j)) (hc : XE X c G (rI k)) (hm : lastMarks [.LtE, .LtE] [b, c] = false := by with_unfolding_all rfl) : XT X (.Compare a [.LtE, .LtE] [b, c] pos) G (decide (i ≤ j) && decide (j ≤ k)) :=
  xt_chain (f := fun i j => decide (i ≤ j)) (g := fun i j => decide (i ≤ j)) op_le op_le ha hb (fun _ => hc) hm
theorem xt_lelt (ha : XE X a G (rI i)) (hb : XE X b G (rI j)) (hc : XE X c G (rI k)) (hm : lastMarks [.LtE, .Lt] [b, c] = false := by with_unfolding_all rfl) : XT X (.Compare a [.LtE, .Lt] [b, c] pos) G (decide (i ≤ j) && decide (j < k)) :=
  xt_chain (f := fun i j => decide (i ≤ j)) (g := fun i j => decide (i < j)) op_le op_lt ha hb (fun _ => hc) hm
theorem r2_ltT [KK] {ns ms : List Int} : R2V (rLtT KK.K) (rT (ns.map TL.rI)) (rT (ms.map TL.rI)) (rB (HT.lexLt ns ms)) := by
  intro H M x y Q hM h h' hQ
  obtain ⟨t, vs, rfl, h2, h3⟩ := h
  obtain ⟨u, ws, rfl, k2, k3⟩ := h'
  rw [allInts h3] at h2
  rw [allInts k3] at k2
  exact ⟨t, u, ns, ms, rfl, rfl, sqT_mono (hide_le M H) h2, sqT_mono (hide_le M H) k2, hQ _ H (Ex.refl H) rfl⟩
theorem xe_ltT [KK] {n : Nat} {ns ms : List Int} (hr : Room n X.A) (ha : XE X a G (rT (ns.map TL.rI))) (hb : XE X b G (rT (ms.map TL.rI))) (hK : X.K = KK.K := by rfl) (hm : behindInMarks .Lt b = false := by first | exact nomark _ | rfl) : XE X (.Compare a [.Lt] [b] pos) G (rB (HT.lexLt ns ms)) :=
  xe_cmp (r2 := rLtT X.K) (op_ltT hr.units0) (hK ▸ r2_ltT) ha hb hm
end
section
variable {X : Cx} {B : Hp} {N W : List Addr} {G G' : En} {Ms : MS} {D : Ends} {rt : VK} {bk ct : L2.St → Hp → Prop} {e a b c : Expr} {es : List Expr} {r : Vp} {rs : List Vp} {pos pos' : Pos} {x y z : Str} {ts : List Nat} {st : Stmt}
theorem xs_never (h : ∀ σ H, ¬ Env B N W G Ms σ H) : XS X st (Env B N W G Ms) D := XS.of ps_never fun σ H E => h σ H E
/-- a test that is false: the branch is never come to -/
theorem xs_ifF {s1 s2 : List Stmt} (hc : XT X c G false) (h2 : XB X s2 (Env B N W G Ms) D) : XS X (.If c s1 s2 pos) (Env B N W G Ms) D := xs_if hc (fun h => nomatch h) (fun _ => h2)
theorem xs_ifT {s1 s2 : List Stmt} (hc : XT X c G true) (h2 : XB X s1 (Env B N W G Ms) D) : XS X (.If c s1 s2 pos) (Env B N W G Ms) D := xs_if hc (fun _ => h2) (fun h => nomatch h)
/-- a branch that ends the def -/
theorem xb_ifT {s1 s2 rest : List Stmt} (hc : XT X c G true) (h : XB X s1 (Env B N W G Ms) ⟨fun _ _ => False, D.rt, D.bk, D.ct⟩) : XB X (.If c s1 s2 pos :: rest) (Env B N W G Ms) D := xb_cons (Mid := fun _ _ => False) (xs_ifT hc h) xb_dead
theorem xb_ifF {s1 rest : List Stmt} (hc : XT X c G false) (h : XB X rest (Env B N W G Ms) D) : XB X (.If c s1 [] pos :: rest) (Env B N W G Ms) D := xb_cons (xs_ifF hc (xb_nil fun _ _ E => E)) h
theorem xb_ifM {k : Bool} {s1 rest : List Stmt} (hc : XT X c G k) (h1 : k = true → XB X s1 (Env B N W G Ms) ⟨fun _ _ => False, D.rt, D.bk, D.ct⟩) (h2 : k = false → XB X rest (Env B N W G Ms) D) : XB X (.If c s1 [] pos :: rest) (Env B N W G Ms) D := by
  cases k with
  | true => exact xb_ifT hc (h1 rfl)
  | false => exact xb_ifF hc (h2 rfl)
theorem xs_par_vm (i j : Nat) {p : Vp} {px py pt pl : Pos} {kt k2 pt2} (hN : X.N.Nodup) (ha : XE X a G p) (hij : i ≠ j := by decide) (hi : X.N[i]? = some x := by rfl) (hj : X.N[j]? = some y := by rfl)
    (hx : X.env.scope.names.lookup x = some .local := by rfl) (hy : X.env.scope.names.lookup y = some .local := by rfl) (hc : X.calm = true := by rfl)
    (hw : swappedStores [.Tuple [.Name x px, .Name y py] kt pt] (.Tuple [a, .List [] pl] k2 pt2) X.env = pure (some [x, y]) := by rfl)
    (hs : swapsWithSole [.Tuple [.Name x px, .Name y py] kt pt] (.Tuple [a, .List [] pl] k2 pt2) pos.line X.env = pure false := by rfl)
    (hs1 : starEach [a, .List [] pl] X.env = (false, eval a X.env) :: starEach [.List [] pl] X.env := by rfl) (hs2 : starEach [.List [] pl] X.env = (false, eval (.List [] pl) X.env) :: starEach [] X.env := by rfl) :
    XS X (.Assign [.Tuple [.Name x px, .Name y py] kt pt] (.Tuple [a, .List [] pl] k2 pt2) pos) (Env B N W G Ms) ⟨fun σ H => ∃ l, Env B N W ((G.set i (some p)).set j (some (rA l))) (Ms ++ [(l, [])]) σ H, rt, bk, ct⟩ :=
  XS.of (ps_par hc hN hi hj hij hx hy (pa_cons pe_sem (pa_cons (pe_lst pa_nil) pa_nil hs2) hs1) hw hs) fun σ H E => ha.to σ H _ _ E.kn fun v H1 e1 h1 => ⟨by decide, fun t ht => ⟨v, .ref t, rfl, by
    have E2 := (E.ex e1).newM (rs := []) (vs := []) ht trivial
    exact ⟨t, (E2.set (r := p) (v := v) (p.mono (hide_snoc ht) h1)).set rfl⟩⟩⟩
theorem xs_par_mv (i j : Nat) {p : Vp} {px py pt pl : Pos} {kt k2 pt2} (hN : X.N.Nodup) (ha : XE X a G p) (hij : i ≠ j := by decide) (hi : X.N[i]? = some x := by rfl) (hj : X.N[j]? = some y := by rfl)
    (hx : X.env.scope.names.lookup x = some .local := by rfl) (hy : X.env.scope.names.lookup y = some .local := by rfl) (hc : X.calm = true := by rfl)
    (hw : swappedStores [.Tuple [.Name x px, .Name y py] kt pt] (.Tuple [.List [] pl, a] k2 pt2) X.env = pure (some [x, y]) := by rfl)
    (hs : swapsWithSole [.Tuple [.Name x px, .Name y py] kt pt] (.Tuple [.List [] pl, a] k2 pt2) pos.line X.env = pure false := by rfl)
    (hs1 : starEach [.List [] pl, a] X.env = (false, eval (.List [] pl) X.env) :: starEach [a] X.env := by rfl) (hs2 : starEach [a] X.env = (false, eval a X.env) :: starEach [] X.env := by rfl) :
    XS X (.Assign [.Tuple [.Name x px, .Name y py] kt pt] (.Tuple [.List [] pl, a] k2 pt2) pos) (Env B N W G Ms) ⟨fun σ H => ∃ l, Env B N W ((G.set i (some (rA l))).set j (some p)) (Ms ++ [(l, [])]) σ H, rt, bk, ct⟩ :=
  XS.of (ps_par hc hN hi hj hij hx hy (pa_cons (pe_lst pa_nil) (pa_cons pe_sem pa_nil hs2) hs1) hw hs) fun σ H E => ⟨by decide, fun t ht => by
    have E3 := E.newM (rs := []) (vs := []) ht trivial
    refine ha.to σ _ _ _ (E3.kn) fun v H1 e1 h1 => ⟨.ref t, v, rfl, t, ?_⟩
    exact ((E3.ex e1).set (r := rA t) (v := .ref t) rfl).set h1⟩
theorem xs_par3_vvm (i j l : Nat) {p q : Vp} {px py pz pt pl : Pos} {kt k2 pt2} (hN : X.N.Nodup) (ha1 : XE X a G p) (hb1 : XE X b G q) (hij : i ≠ j := by decide) (hil : i ≠ l := by decide) (hjl : j ≠ l := by decide) (hi : X.N[i]? = some x := by rfl) (hj : X.N[j]? = some y := by rfl) (hl : X.N[l]? = some z := by rfl)
    (hx : X.env.scope.names.lookup x = some .local := by rfl) (hy : X.env.scope.names.lookup y = some .local := by rfl) (hz : X.env.scope.names.lookup z = some .local := by rfl) (hc : X.calm = true := by rfl)
    (hw : swappedStores [.Tuple [.Name x px, .Name y py, .Name z pz] kt pt] (.Tuple [a, b, .List [] pl] k2 pt2) X.env = pure (some [x, y, z]) := by rfl)
    (hs : swapsWithSole [.Tuple [.Name x px, .Name y py, .Name z pz] kt pt] (.Tuple [a, b, .List [] pl] k2 pt2) pos.line X.env = pure false := by rfl)
    (hsa : starEach [a, b, .List [] pl] X.env = (false, eval a X.env) :: starEach [b, .List [] pl] X.env := by rfl) (hsb : starEach [b, .List [] pl] X.env = (false, eval b X.env) :: starEach [.List [] pl] X.env := by rfl) (hsl : starEach [.List [] pl] X.env = (false, eval (.List [] pl) X.env) :: starEach [] X.env := by rfl) :
    XS X (.Assign [.Tuple [.Name x px, .Name y py, .Name z pz] kt pt] (.Tuple [a, b, .List [] pl] k2 pt2) pos) (Env B N W G Ms) ⟨fun σ H => ∃ t, Env B N W (((G.set i (some p)).set j (some q)).set l (some (rA t))) (Ms ++ [(t, [])]) σ H, rt, bk, ct⟩ :=
  XS.of (ps_par3 hc hN hi hj hl hij hil hjl hx hy hz (pa_cons pe_sem (pa_cons pe_sem (pa_cons (pe_lst pa_nil) pa_nil hsl) hsb) hsa) hw hs) fun σ H E => ha1.to σ H _ _ E.kn fun v H1 e1 h1 => hb1.to σ H1 _ _ (E.ex e1).kn fun u H2 e2 h2 => ⟨by decide, fun t ht => ⟨v, u, .ref t, rfl, t, by
    have E2 := ((E.ex e1).ex e2).newM (rs := []) (vs := []) ht trivial
    exact ((E2.set (r := p) (v := v) (p.mono ((e2.hide _).trans (hide_snoc ht)) h1)).set (r := q) (v := u) (q.mono (hide_snoc ht) h2)).set rfl⟩⟩
theorem xs_par3_mmm (i j l : Nat) {px py pz pt pl pl' pl'' : Pos} {kt k2 pt2} (hN : X.N.Nodup) (hij : i ≠ j := by decide) (hil : i ≠ l := by decide) (hjl : j ≠ l := by decide) (hi : X.N[i]? = some x := by rfl) (hj : X.N[j]? = some y := by rfl) (hl : X.N[l]? = some z := by rfl)
    (hx : X.env.scope.names.lookup x = some .local := by rfl) (hy : X.env.scope.names.lookup y = some .local := by rfl) (hz : X.env.scope.names.lookup z = some .local := by rfl) (hc : X.calm = true := by rfl)
    (hw : swappedStores [.Tuple [.Name x px, .Name y py, .Name z pz] kt pt] (.Tuple [.List [] pl, .List [] pl', .List [] pl''] k2 pt2) X.env = pure (some [x, y, z]) := by rfl)
    (hs : swapsWithSole [.Tuple [.Name x px, .Name y py, .Name z pz] kt pt] (.Tuple [.List [] pl, .List [] pl', .List [] pl''] k2 pt2) pos.line X.env = pure false := by rfl) :
    XS X (.Assign [.Tuple [.Name x px, .Name y py, .Name z pz] kt pt] (.Tuple [.List [] pl, .List [] pl', .List [] pl''] k2 pt2) pos) (Env B N W G Ms)
      ⟨fun σ H => ∃ t u v, Env B N W (((G.set i (some (rA t))).set j (some (rA u))).set l (some (rA v))) (((Ms ++ [(t, [])]) ++ [(u, [])]) ++ [(v, [])]) σ H, rt, bk, ct⟩ :=
  XS.of (ps_par3 hc hN hi hj hl hij hil hjl hx hy hz (pa_cons (pe_lst pa_nil) (pa_cons (pe_lst pa_nil) (pa_cons (pe_lst pa_nil) pa_nil rfl) rfl) rfl) hw hs) fun σ H E => ⟨by decide, fun t ht => ⟨by decide, fun u hu => ⟨by decide, fun v hv => ⟨.ref t, .ref u, .ref v, rfl, t, u, v, by
    have E2 := ((E.newM (rs := []) (vs := []) ht trivial).newM (rs := []) (vs := []) hu trivial).newM (rs := []) (vs := []) hv trivial
    exact ((E2.set (r := rA t) (v := .ref t) rfl).set (r := rA u) (v := .ref u) rfl).set (r := rA v) rfl⟩⟩⟩⟩
/-- name = [a comprehension], on one line, the name a local -/
theorem xs_setLc [KK] (i : Nat) {α : Type} {xs : List α} {qf f : α → Vp} {bf : α → Bool} {elt tg iter : Expr} {ifs : List Expr} {scope : Scope} {own : List (Str × Nat)} {py : Pos} (hN : X.N.Nodup) (ok : BlkOk X.N X.env.scope scope own) (hi : XI X tg iter G (xs.map qf)) (hb : ∀ x ∈ xs, XBl X scope tg ifs elt own G (qf x) (bf x) (f x)) (hz : xs.length < sizeLine)
    (hy : X.N[i]? = some y := by rfl) (hyl : X.env.scope.names.lookup y = some .local := by rfl) (hk : X.env.scope.kind = .function := by rfl) (hl : (py.line == pos.line) = true := by rfl) (ha : (scope.names.any fun (n, k) => n == y && (k == .local || k == .cell)) = false := by decide +kernel) (hc : X.calm = true := by rfl)
    (hs : ∀ x, foldedSetIterable iter X.env x = pure x := by intro _; rfl) : XS X (.Assign [.Name y py] (.ListComp elt [⟨tg, iter, ifs, 0⟩] scope pos) pos') (Env B N W G Ms) ⟨Env B N W (G.set i (some (rL ((xs.filter bf).map f)))) Ms, rt, bk, ct⟩ :=
  XS.of (ps_setLc hc hN hy hyl (sw_true hk hyl hl ha) pi_sem ok bG_ok bT_ok bE_ok hs) fun σ H E => lc_read hi hb hz σ H _ _ E.kn fun v H1 e1 h1 => (E.ex e1).set h1
theorem xs_setLc1 [KK] (i : Nat) {α : Type} {xs : List α} {qf f : α → Vp} {elt tg iter : Expr} {scope : Scope} {own : List (Str × Nat)} {py : Pos} (hN : X.N.Nodup) (ok : BlkOk X.N X.env.scope scope own) (hi : XI X tg iter G (xs.map qf)) (hb : ∀ x ∈ xs, XBl X scope tg [] elt own G (qf x) true (f x)) (hz : xs.length < sizeLine)
    (hy : X.N[i]? = some y := by rfl) (hyl : X.env.scope.names.lookup y = some .local := by rfl) (hk : X.env.scope.kind = .function := by rfl) (hl : (py.line == pos.line) = true := by rfl) (ha : (scope.names.any fun (n, k) => n == y && (k == .local || k == .cell)) = false := by decide +kernel) (hc : X.calm = true := by rfl)
    (hs : ∀ x, foldedSetIterable iter X.env x = pure x := by intro _; rfl) : XS X (.Assign [.Name y py] (.ListComp elt [⟨tg, iter, [], 0⟩] scope pos) pos') (Env B N W G Ms) ⟨Env B N W (G.set i (some (rL (xs.map f)))) Ms, rt, bk, ct⟩ :=
  XS.of (ps_setLc hc hN hy hyl (sw_true hk hyl hl ha) pi_sem ok bG_ok bT_ok bE_ok hs) fun σ H E => lc_read (b := fun _ => true) hi hb hz σ H _ _ E.kn fun v H1 e1 h1 => (E.ex e1).set (by rw [List.filter_eq_self.mpr (fun _ _ => rfl)] at h1; exact h1)
end
/-! ### [.. for x in xs for y in ys] -/
section
variable (X : Cx) (scope : Scope)
def bI (tg iter : Expr) : TI := fun σ H R => ∀ (s : Shared) (H0 : Hp) (C : Addr) (cl : List (Str × Addr)) (fp : List Addr), semI (X.blk s H0 scope (compEnvC scope cl C X.env) fp) tg iter σ H R
end
theorem bI_ok {X : Cx} {scope : Scope} {tg iter : Expr} (s : Shared) (H0 : Hp) (C : Addr) (cl : List (Str × Addr)) (fp : List Addr) : PI (X.blk s H0 scope (compEnvC scope cl C X.env) fp) tg iter (bI X scope tg iter) :=
  ⟨fun pins s' σ H R I h => h s H0 C cl fp pins s' I⟩
section
variable [KK] {X : Cx} {elt tg iter tg1 iter1 : Expr} {scope : Scope} {own : List (Str × Nat)} {vs1 : List Nat} {G : En} {pos : Pos} {α β : Type} {xs : List α} {ys : α → List β} {qf : α → Vp} {qf1 f : α → β → Vp}
theorem getElem_map' {α : Type} {f : α → Vp} {l : List α} {i : Nat} {r : Vp} (h : (l.map f)[i]? = some r) (hl : i < l.length) : r = f l[i] := by
  rw [List.getElem?_map, List.getElem?_eq_getElem hl] at h
  exact (Option.some.inj h).symm
structure XBl2 (X : Cx) (scope : Scope) (tg tg1 iter1 elt : Expr) (own : List (Str × Nat)) (vs1 : List Nat) (G : En) (q : Vp) {β : Type} (ys : List β) (qf1 f : β → Vp) : Prop where
  to : ∃ (G1 : En) (ts : List Nat), (∀ j ∈ ts, j ∈ own.map (·.2)) ∧ (∀ (s : Shared) (H0 : Hp) (C : Addr) (cl : List (Str × Addr)) (fp : List Addr),
    XG (X.blk s H0 scope (compEnvC scope cl C X.env) fp) tg q (wipeG G (own.map (·.2))) G1 ts ∧ XI (X.blk s H0 scope (compEnvC scope cl C X.env) fp) tg1 iter1 G1 (ys.map qf1)) ∧
    ∀ y ∈ ys, ∃ (G2 : En) (ts1 : List Nat), (∀ j ∈ ts1, j ∈ vs1) ∧ ∀ (s : Shared) (H0 : Hp) (C : Addr) (cl : List (Str × Addr)) (fp : List Addr),
      XG (X.blk s H0 scope (compEnvC scope cl C X.env) fp) tg1 (qf1 y) (wipeG G1 vs1) G2 ts1 ∧ XE (X.blk s H0 scope (compEnvC scope cl C X.env) fp) elt G2 (f y)
theorem lc2_read (hi : XI X tg iter G (xs.map qf)) (hb : ∀ x ∈ xs, XBl2 X scope tg tg1 iter1 elt own vs1 G (qf x) (ys x) (qf1 x) (f x)) (hz : (xs.flatMap ys).length < sizeLine)
    (σ : L2.St) (H : Hp) (M : List Addr) (Q : VK) (k : Kn G M σ H) (hQ : ∀ v H', Ex H H' → (rL (xs.flatMap fun x => (ys x).map (f x))).p (hide M H') v → Q v H') :
    tLc2 (semI X tg iter) (bG X scope tg) (bT X scope []) (bI X scope tg1 iter1) (bG X scope tg1) (bT X scope []) (bE X scope elt) (own.map (·.2)) vs1 σ H Q := by
  refine hi.to σ H M _ k fun J H1 e1 WV D hD => ?_
  have hM1 := (k.ex e1).mu
  have hDM : D ∉ M := fun z => by obtain ⟨o, h, _⟩ := hM1 D z; rw [hD] at h; cases h
  have hlen : (xs.map qf).length = xs.length := List.length_map ..
  have inv : ∀ (H2 : Hp), Ex H1 H2 → Ex (hide M H1) H2 := fun H2 e => (hide_le M H1).trans e
  let g : α → List Vp := fun x => (ys x).map (f x)
  refine ⟨fun i m H2 => i + m = xs.length ∧ Ex H1 H2 ∧ ∃ vs, H2 D = some (.lst vs) ∧ AllP (hide (D :: M) H2) vs ((xs.take i).flatMap g), ⟨xs.length, by omega, Ex.new hD, [], upd_same, by simp [AllP]⟩, fun i m H2 ⟨hm, e2, vs, hv, hA⟩ => ?_⟩
  by_cases hn : i = xs.length
  · refine .inl ⟨by rw [hn, ← hlen]; exact WV.stop H2 (inv H2 e2), hQ _ H2 (e1.trans e2) ⟨D, vs, rfl, by rw [hide_out hDM]; exact hv, ?_⟩⟩
    rw [hn, List.take_length] at hA
    exact hA.mono (hide_sub (fun a h => List.mem_cons_of_mem _ h) H2)
  · have hlt : i < xs.length := by omega
    refine .inr ⟨WV.go i H2 (inv H2 e2) (by rw [hlen]; exact hlt), fun H' => i + 1 + (m - 1) = xs.length ∧ Ex H1 H' ∧ ∃ vs, H' D = some (.lst vs) ∧ AllP (hide (D :: M) H') vs ((xs.take (i + 1)).flatMap g), fun H' h => ⟨m - 1, by omega, h⟩, fun x H3 hy => ?_⟩
    have hMD : ∀ a ∈ D :: M, ∃ o, H2 a = some o ∧ isM o = true := fun a h => by
      rcases List.mem_cons.mp h with rfl | h
      · exact ⟨_, hv, rfl⟩
      · obtain ⟨o, h1, h2⟩ := hM1 a h
        exact ⟨o, e2 _ _ h1, h2⟩
    have eB : Ex (hide M H1) (hide (D :: M) H2) := hide_add e2 hD
    obtain ⟨e3, hr⟩ := WV.yld i H2 x H3 (inv H2 e2) hy (by rw [hlen]; exact hlt)
    obtain ⟨r, hr1, hr2⟩ := hr (D :: M) hMD eB
    have hr1 := getElem_map' hr1 hlt
    subst hr1
    obtain ⟨G1, ts, hts, hX, hY⟩ := (hb xs[i] (List.getElem_mem hlt)).to
    have kD : Kn G (D :: M) σ H3 := k.add ((e1.trans e2).trans e3) (e1.none hD) (e3 _ _ hv)
    have htk : xs.take (i + 1) = xs.take i ++ [xs[i]] := by
      rw [List.take_succ, List.getElem?_eq_getElem hlt]; rfl
    have hsz : (xs.take i).flatMap ys ++ ys xs[i] ++ (xs.drop (i + 1)).flatMap ys = xs.flatMap ys := by
      have h0 : xs.take (i + 1) ++ xs.drop (i + 1) = xs := List.take_append_drop ..
      rw [htk] at h0
      have h1 := congrArg (List.flatMap ys) h0
      rw [List.flatMap_append, List.flatMap_append] at h1
      rw [show List.flatMap ys [xs[i]] = ys xs[i] by simp] at h1
      exact h1
    have hfm : ((xs.take i).flatMap g).length = ((xs.take i).flatMap ys).length := by
      simp [List.length_flatMap, g]
    intro s H0 C cl fp
    refine (hX s H0 C cl fp).1.to _ H3 (D :: M) x _ (kD.wipe _) hr2 fun σ2 k2 f2 => ⟨?_, fun s' H0' C' cl' fp' => ?_⟩
    · have hl : σ2.length = (wipe σ (own.map (·.2))).length := by
        rw [← k2.len, (hX s H0 C cl fp).1.len]
        exact (kD.wipe (own.map (·.2))).len
      rw [wipe_eq hl fun j hj => f2 j fun z => hj (hts j z)]
      exact wipe_eq (wipe_length _ _) fun j hj => wipe_out hj
    · refine (xts_nil (X := X.blk s' H0' scope (compEnvC scope cl' C' X.env) fp') (G := G1)).sem σ2 H3 (D :: M) _ k2 fun H4 e4 => ?_
      rw [if_pos rfl]
      intro s1 H01 C1 cl1 fp1
      refine (hX s1 H01 C1 cl1 fp1).2.to σ2 H4 (D :: M) _ (k2.ex e4) fun J1 H5 e5 WV1 => ?_
      have hlen1 : ((ys xs[i]).map (qf1 xs[i])).length = (ys xs[i]).length := List.length_map ..
      have e35 := e4.trans e5
      have hv5 : H5 D = some (.lst vs) := e35 _ _ (e3 _ _ hv)
      have k5 := (k2.ex e4).ex e5
      refine ⟨fun j m1 Hj => j + m1 = (ys xs[i]).length ∧ Ex H1 Hj ∧ (∀ a o, a ≠ D → H5 a = some o → Hj a = some o) ∧ ∃ ws, Hj D = some (.lst ws) ∧ AllP (hide (D :: M) Hj) ws ((xs.take i).flatMap g ++ ((ys xs[i]).take j).map (f xs[i])),
        ⟨(ys xs[i]).length, by omega, ((e2.trans e3).trans e35), fun _ _ _ h => h, vs, hv5, by simpa using hA.mono ((e3.trans e35).hide (D :: M))⟩, fun j m1 Hj ⟨hm1, ej, ekj, ws, hw, hB⟩ => ?_⟩
      have eH : Ex (hide (D :: M) H5) (hide (D :: M) Hj) := fun a o h => by
        by_cases q : a ∈ D :: M
        · rw [hide_in q] at h; cases h
        · rw [hide_out q] at h ⊢
          exact ekj a o (fun z => q (by rw [z]; exact List.mem_cons_self)) h
      have hMj : ∀ a ∈ D :: M, ∃ o, Hj a = some o ∧ isM o = true := fun a h => by
        rcases List.mem_cons.mp h with rfl | h
        · exact ⟨_, hw, rfl⟩
        · obtain ⟨o, h1, h2⟩ := hM1 a h
          exact ⟨o, ej _ _ h1, h2⟩
      have kj : Kn G1 (D :: M) σ2 Hj := ⟨fun i r h => by obtain ⟨v, h1, h2⟩ := k5.get i r h; exact ⟨v, h1, r.mono eH h2⟩, hMj, k5.len⟩
      by_cases hnj : j = (ys xs[i]).length
      · refine .inl ⟨by rw [hnj, ← hlen1]; exact WV1.stop Hj ((eH).trans (hide_le _ _)), by omega, ej, ws, hw, ?_⟩
        rw [hnj, List.take_length] at hB
        rw [htk, List.flatMap_append]
        simpa [g] using hB
      · have hltj : j < (ys xs[i]).length := by omega
        refine .inr ⟨WV1.go j Hj (eH.trans (hide_le _ _)) (by rw [hlen1]; exact hltj), fun Hn => j + 1 + (m1 - 1) = (ys xs[i]).length ∧ Ex H1 Hn ∧ (∀ a o, a ≠ D → H5 a = some o → Hn a = some o) ∧ ∃ ws, Hn D = some (.lst ws) ∧ AllP (hide (D :: M) Hn) ws ((xs.take i).flatMap g ++ ((ys xs[i]).take (j + 1)).map (f xs[i])),
          fun Hn h => ⟨m1 - 1, by omega, h⟩, fun y H6 hy6 => ?_⟩
        obtain ⟨e6, hr6⟩ := WV1.yld j Hj y H6 (eH.trans (hide_le _ _)) hy6 (by rw [hlen1]; exact hltj)
        obtain ⟨r6, hr61, hr62⟩ := hr6 (D :: M) hMj eH
        have hr61 := getElem_map' hr61 hltj
        subst hr61
        obtain ⟨G2, ts1, hts1, hZ⟩ := hY (ys xs[i])[j] (List.getElem_mem hltj)
        have k6 := kj.ex e6
        intro s2 H02 C2 cl2 fp2
        refine (hZ s2 H02 C2 cl2 fp2).1.to _ H6 (D :: M) y _ (k6.wipe _) hr62 fun σ3 k3 f3 => ⟨?_, fun s3 H03 C3 cl3 fp3 => ?_⟩
        · have hl : σ3.length = (wipe σ2 vs1).length := by
            rw [← k3.len, (hZ s2 H02 C2 cl2 fp2).1.len]
            exact (k6.wipe vs1).len
          rw [wipe_eq hl fun j hj => f3 j fun z => hj (hts1 j z)]
          exact wipe_eq (wipe_length _ _) fun j hj => wipe_out hj
        · refine (xts_nil (X := X.blk s3 H03 scope (compEnvC scope cl3 C3 X.env) fp3) (G := G2)).sem σ3 H6 (D :: M) _ k3 fun H7 e7 => ?_
          rw [if_pos rfl]
          intro s4 H04 C4 cl4 fp4
          refine (hZ s4 H04 C4 cl4 fp4).2.to σ3 H7 (D :: M) _ (k3.ex e7) fun z H8 e8 h8 => ⟨ws, e8 _ _ (e7 _ _ (e6 _ _ hw)), ?_, by omega, ?_, ?_, ws ++ [z], upd_same, ?_⟩
          · have h1 := hB.len
            have h2 := congrArg List.length hsz
            rw [List.length_append, List.length_append] at h2
            rw [h1, List.length_append, List.length_map, hfm]
            have h3 := List.length_take_le j (ys xs[i])
            have h4 : ((ys xs[i]).take j).length = j := by rw [List.length_take]; omega
            omega
          · intro a o h
            rw [upd_ne (fun z => by rw [z, hD] at h; cases h)]
            exact e8 _ _ (e7 _ _ (e6 _ _ (ej _ _ h)))
          · intro a o ha h
            rw [upd_ne ha]
            exact e8 _ _ (e7 _ _ (e6 _ _ (ekj _ _ ha h)))
          · have eu : Ex (hide (D :: M) H8) (hide (D :: M) (upd H8 D (.lst (ws ++ [z])))) := fun a o h => by
              by_cases q : a ∈ D :: M
              · rw [hide_in q] at h; cases h
              · rw [hide_out q] at h ⊢
                rw [upd_ne (fun z => q (by rw [z]; exact List.mem_cons_self))]
                exact h
            have htj : (ys xs[i]).take (j + 1) = (ys xs[i]).take j ++ [(ys xs[i])[j]] := by
              rw [List.take_succ, List.getElem?_eq_getElem hltj]; rfl
            rw [htj, List.map_append, ← List.append_assoc]
            exact (hB.mono (((e6.trans e7).trans e8).hide (D :: M) |>.trans eu)).append ⟨(f xs[i] (ys xs[i])[j]).mono eu h8, trivial⟩
theorem xs_setLc2 {B : Hp} {N W : List Addr} {Ms : MS} {rt : VK} {bk ct : L2.St → Hp → Prop} {y : Str} {pos' : Pos} (i : Nat) {py : Pos} (hN : X.N.Nodup) (ok : BlkOk X.N X.env.scope scope own) (hi : XI X tg iter G (xs.map qf)) (hv : ∀ i ∈ vs1, i ∈ own.map (·.2)) (hb : ∀ x ∈ xs, XBl2 X scope tg tg1 iter1 elt own vs1 G (qf x) (ys x) (qf1 x) (f x)) (hz : (xs.flatMap ys).length < sizeLine)
    (hy : X.N[i]? = some y := by rfl) (hyl : X.env.scope.names.lookup y = some .local := by rfl) (hk : X.env.scope.kind = .function := by rfl) (hl : (py.line == pos.line) = true := by rfl) (ha : (scope.names.any fun (n, k) => n == y && (k == .local || k == .cell)) = false := by decide +kernel) (hc : X.calm = true := by rfl)
    (hs : ∀ x, foldedSetIterable iter X.env x = pure x := by intro _; rfl) (hs1 : ∀ env x, foldedSetIterable iter1 env x = pure x := by intro _ _; rfl) : XS X (.Assign [.Name y py] (.ListComp elt [⟨tg, iter, [], 0⟩, ⟨tg1, iter1, [], 0⟩] scope pos) pos') (Env B N W G Ms) ⟨Env B N W (G.set i (some (rL (xs.flatMap fun x => (ys x).map (f x))))) Ms, rt, bk, ct⟩ :=
  XS.of (ps_setLc2 hc hN hy hyl (sw_true hk hyl hl ha) pi_sem ok hv bG_ok bT_ok bI_ok bG_ok bT_ok bE_ok hs hs1) fun σ H E => lc2_read hi hb hz σ H _ _ E.kn fun v H1 e1 h1 => (E.ex e1).set h1
end
end TL
/-! Instances with slots: how they are made. -/
namespace TL
open PySem PySem.Spec PyProof.Rows L2
variable [KK]
/-- within __init__: the object at x, what its slots hold so far -/
structure Raw (H0 : Hp) (M : List Addr) (x C dx : Addr) (G : En) (fs : List (Nat × Vp)) (σ : L2.St) (H : Hp) : Prop where
  kn : Kn G (x :: dx :: M) σ H
  low : Ex H0 H
  sl : ∃ vs, SlX.Slt H x C dx vs ∧ ∀ p ∈ fs, ∃ u, vs[p.1]? = some (some u) ∧ p.2.p (hide (x :: dx :: M) H) u
  fx : H0 x = none
  fd : H0 dx = none
  ne : dx ≠ x
  mu : ∀ a ∈ M, ∃ o, H0 a = some o
section
variable {X : Cx} {H0 : Hp} {M : List Addr} {x C dx d : Addr} {G : En} {fs : List (Nat × Vp)} {σ : L2.St} {H H' : Hp} {e o a b c : Expr} {r p q : Vp} {f : Str} {pos pos' : Pos} {rt : VK} {bk ct : L2.St → Hp → Prop}
theorem slt_mono {vs : List (Option V)} (e : Ex H H') (h : SlX.Slt H x C dx vs) : SlX.Slt H' x C dx vs := by
  rcases h with ⟨h1, h2⟩ | ⟨h1, h2⟩
  · exact .inl ⟨e _ _ h1, h2⟩
  · exact .inr ⟨e _ _ h1, e _ _ h2⟩
theorem Raw.ex (R : Raw H0 M x C dx G fs σ H) (e : Ex H H') : Raw H0 M x C dx G fs σ H' := by
  obtain ⟨vs, h1, h2⟩ := R.sl
  exact ⟨R.kn.ex e, R.low.trans e, ⟨vs, slt_mono e h1, fun p hp => by obtain ⟨u, h3, h4⟩ := h2 p hp; exact ⟨u, h3, p.2.mono (e.hide _) h4⟩⟩, R.fx, R.fd, R.ne, R.mu⟩
theorem hide_slH {vs : List (Option V)} : hide (x :: dx :: M) (SlX.slH H x C dx vs) = hide (x :: dx :: M) H := by
  funext a
  by_cases h : a ∈ x :: dx :: M
  · rw [hide_in h, hide_in h]
  · rw [hide_out h, hide_out h]
    unfold SlX.slH
    rw [upd_ne (fun z => h (by rw [z]; simp)), upd_ne (fun z => h (by rw [z]; simp))]
theorem Raw.put (R : Raw H0 M x C dx G fs σ H) {i : Nat} {v : V} {vs : List (Option V)} (h1 : SlX.Slt H x C dx vs) (h2 : ∀ p ∈ fs, ∃ u, vs[p.1]? = some (some u) ∧ p.2.p (hide (x :: dx :: M) H) u) (hv : r.p (hide (x :: dx :: M) H) v) (hn : ∀ p ∈ fs, p.1 ≠ i) :
    Raw H0 M x C dx G ((i, r) :: fs) σ (SlX.slH H x C dx (SlX.putS i v vs)) := by
  refine ⟨⟨fun i r h => ?_, fun a ha => ?_, R.kn.len⟩, fun a o h => ?_, ⟨SlX.putS i v vs, .inr ⟨?_, ?_⟩, fun p hp => ?_⟩, R.fx, R.fd, R.ne, R.mu⟩
  · obtain ⟨v, k1, k2⟩ := R.kn.get i r h
    exact ⟨v, k1, by rw [hide_slH]; exact k2⟩
  · unfold SlX.slH
    by_cases q1 : a = x
    · subst q1; exact ⟨_, upd_same, rfl⟩
    · rw [upd_ne q1]
      by_cases q2 : a = dx
      · subst q2; exact ⟨_, upd_same, rfl⟩
      · rw [upd_ne q2]
        exact R.kn.mu a ha
  · unfold SlX.slH
    rw [upd_ne (fun z => by rw [z, R.fx] at h; cases h), upd_ne (fun z => by rw [z, R.fd] at h; cases h)]
    exact R.low _ _ h
  · unfold SlX.slH
    exact upd_same
  · unfold SlX.slH
    rw [upd_ne R.ne]
    exact upd_same
  · rw [hide_slH]
    rcases List.mem_cons.mp hp with rfl | hp
    · exact ⟨v, SlX.putS_get i v vs, hv⟩
    · obtain ⟨u, k1, k2⟩ := h2 p hp
      exact ⟨u, (SlX.putS_ne (hn p hp)).mpr k1, k2⟩
/-- self.f = e -/
theorem xs_slot (i : Nat) (hc : SlX.SCls KK.K C) (hs : SlX.Slot1 KK.K C f d i) (ho : XE X o G (rA x)) (he : XE X e G r) (hn : ∀ p ∈ fs, p.1 ≠ i) (hK : X.K = KK.K := by rfl) (hsw : swapsWith e (some (.Attribute o f pos')) pos.line X.env = pure false := by rfl) :
    XS X (.Assign [.Attribute o f pos'] e pos) (Raw H0 M x C dx G fs) ⟨Raw H0 M x C dx G ((i, r) :: fs), rt, bk, ct⟩ :=
  XS.of (SlX.ps_sl pe_sem pe_sem hsw) fun σ H R => he.to σ H _ _ R.kn fun y H1 e1 h1 => ho.to σ H1 _ _ (R.kn.ex e1) fun x' H2 e2 h2 => by
    have R2 := (R.ex e1).ex e2
    obtain ⟨vs, k1, k2⟩ := R2.sl
    rw [hK]
    exact ⟨x, C, dx, d, vs, i, h2, k1, hc, hs, R2.put k1 k2 (r.mono (e2.hide _) h1) hn⟩
def gSl (K : PySem.W.Frag) (ta : TE) (f : Str) : TG := fun v σ H Q => ta σ H fun x H2 => ∃ a C dx p vs i, x = .ref a ∧ SlX.Slt H2 a C dx vs ∧ SlX.SCls K C ∧ SlX.Slot1 K C f p i ∧ Q σ (SlX.slH H2 a C dx (SlX.putS i v vs))
theorem pg_sl {ta : TE} (ha : PE X o ta) : PG X (.Attribute o f pos) (gSl X.K ta f) := by
  refine ⟨fun pins s σ H v u Q I r h => ?_⟩
  rw [assign_Attribute]
  refine wpAny_bind (wpAny_holding (thn (ha.run pins s σ H _ I h) fun ov s2 ⟨x, H2, I2, rx, a, C, dx, p, vs, i, ex, hsl, c, t, q2⟩ => ?_))
  subst ex
  obtain rfl : ov = Value.ref a := rx
  refine wpAny_bind (wpAny_standAt (wpAny_bind (wpAny_holding (SlX.setslot_ok I2 hsl c t r fun s3 I3 => wpAny_release ⟨σ, _, I3, q2⟩))))
theorem raw_g {v : V} {i : Nat} {Q : L2.St → Hp → Prop} (R : Raw H0 M x C dx G fs σ H) (ho : XE X o G (rA x)) (hc : SlX.SCls KK.K C) (hs : SlX.Slot1 KK.K C f d i) (hv : r.p (hide (x :: dx :: M) H) v) (hn : ∀ p ∈ fs, p.1 ≠ i) (hK : X.K = KK.K)
    (h : ∀ H', Raw H0 M x C dx G ((i, r) :: fs) σ H' → Ex (hide (x :: dx :: M) H) (hide (x :: dx :: M) H') → Q σ H') : gSl X.K (semE X o) f v σ H Q :=
  ho.to σ H _ _ R.kn fun x' H2 e2 h2 => by
    have R2 := R.ex e2
    obtain ⟨vs, k1, k2⟩ := R2.sl
    rw [hK]
    refine ⟨x, C, dx, d, vs, i, h2, k1, hc, hs, h _ (R2.put k1 k2 (r.mono (e2.hide _) hv) hn) ?_⟩
    rw [hide_slH]
    exact e2.hide _
/-- self.f, self.g, self.h = (e, e', e'') -/
theorem xs_slot3 {o1 o2 : Expr} {g h : Str} {d1 d2 : Addr} {k : Nat} {pt pa pb pc : Pos} (i j l : Nat) (hc : SlX.SCls KK.K C) (hs : SlX.Slot1 KK.K C f d i) (hs1 : SlX.Slot1 KK.K C g d1 j) (hs2 : SlX.Slot1 KK.K C h d2 l)
    (ho : XE X o G (rA x)) (ho1 : XE X o1 G (rA x)) (ho2 : XE X o2 G (rA x)) (he : XE X e G (rT [r, p, q])) (hn : ∀ p ∈ fs, p.1 ≠ i ∧ p.1 ≠ j ∧ p.1 ≠ l) (hij : i ≠ j) (hil : i ≠ l) (hjl : j ≠ l) (hK : X.K = KK.K := by rfl) (hcm : X.calm = true := by rfl)
    (hsw : swapsWithSole [.Tuple [.Attribute o f pa, .Attribute o1 g pb, .Attribute o2 h pc] k pt] e pos.line X.env = pure false := by rfl) (hw : swappedStores [.Tuple [.Attribute o f pa, .Attribute o1 g pb, .Attribute o2 h pc] k pt] e X.env = pure none := by rfl)
    (h1 : (assignEach [.Tuple [.Attribute o f pa, .Attribute o1 g pb, .Attribute o2 h pc] k pt] X.env).map (·.2) = [assign (.Tuple [.Attribute o f pa, .Attribute o1 g pb, .Attribute o2 h pc] k pt) X.env] := by rfl)
    (hl : (assignEach [.Attribute o f pa, .Attribute o1 g pb, .Attribute o2 h pc] X.env).length = 3 := by rfl) (hst : (assignEach [.Attribute o f pa, .Attribute o1 g pb, .Attribute o2 h pc] X.env).findIdx? (·.1) = none := by rfl)
    (z1 : (assignEach [.Attribute o f pa, .Attribute o1 g pb, .Attribute o2 h pc] X.env).map (·.2) = assign (.Attribute o f pa) X.env :: (assignEach [.Attribute o1 g pb, .Attribute o2 h pc] X.env).map (·.2) := by rfl)
    (z2 : (assignEach [.Attribute o1 g pb, .Attribute o2 h pc] X.env).map (·.2) = assign (.Attribute o1 g pb) X.env :: (assignEach [.Attribute o2 h pc] X.env).map (·.2) := by rfl) (z3 : (assignEach [.Attribute o2 h pc] X.env).map (·.2) = assign (.Attribute o2 h pc) X.env :: (assignEach [] X.env).map (·.2) := by rfl) :
    XS X (.Assign [.Tuple [.Attribute o f pa, .Attribute o1 g pb, .Attribute o2 h pc] k pt] e pos) (Raw H0 M x C dx G fs) ⟨Raw H0 M x C dx G ((l, q) :: (j, p) :: (i, r) :: fs), rt, bk, ct⟩ :=
  XS.of (ps_asg pe_sem (pg_tup (k := k) (pos := pt) (n := 3) hcm (pgs_cons (pg_sl pe_sem) (pgs_cons (pg_sl pe_sem) (pgs_cons (pg_sl pe_sem) pgs_nil z3) z2) z1) hl hst) hsw hw h1) fun σ H R => he.to σ H _ _ R.kn fun y H1 e1 h1 => by
    obtain ⟨t, vs, rfl, hS, hA⟩ := h1
    obtain ⟨v, u, w, rfl, a1, a2, a3⟩ := hA.three
    refine ⟨t, [v, u, w], rfl, by rw [hK]; exact sqT_mono (hide_le _ _) hS, rfl, v, [u, w], rfl, ?_⟩
    refine raw_g (R.ex e1) ho hc hs a1 (fun p hp => (hn p hp).1) hK fun H2 R2 e2 => ⟨u, [w], rfl, raw_g R2 ho1 hc hs1 (p.mono e2 a2) (fun p hp => ?_) hK fun H3 R3 e3 => ⟨w, [], rfl, raw_g R3 ho2 hc hs2 (q.mono (e2.trans e3) a3) (fun p hp => ?_) hK fun H4 R4 e4 => ⟨rfl, R4⟩⟩⟩
    · rcases List.mem_cons.mp hp with rfl | hp
      · exact hij
      · exact (hn p hp).2.1
    · rcases List.mem_cons.mp hp with rfl | hp
      · exact hjl
      · rcases List.mem_cons.mp hp with rfl | hp
        · exact hil
        · exact (hn p hp).2.2
theorem raw_of {B : Hp} (hB : B = upd (upd H0 dx (.own x)) x (.ins C dx [])) (fx : H0 x = none) (fd : H0 dx = none) (ne : dx ≠ x) (mu : ∀ a ∈ M, ∃ o, H0 a = some o) (E : Env B (x :: dx :: M) [] G [] σ H) : Raw H0 M x C dx G [] σ H := by
  have hh : hid (x :: dx :: M) [] [] = x :: dx :: M := by unfold hid; simp
  have k := E.kn
  rw [hh] at k
  refine ⟨k, fun a o h => E.base a o ?_, ⟨[], .inl ⟨E.base x _ (by rw [hB]; exact upd_same), rfl⟩, fun p hp => nomatch hp⟩, fx, fd, ne, mu⟩
  rw [hB, upd_ne (fun z => by rw [z, fx] at h; cases h), upd_ne (fun z => by rw [z, fd] at h; cases h)]
  exact h
theorem raw_end {fz : En} (R : Raw H0 M x C dx G fs σ H) (hf : ∀ i r, fz[i]? = some (some r) → (i, r) ∈ fs) (h1 : fs ≠ []) : Ex H0 H ∧ (rO C fz).p (hide M H) (.ref x) := by
  obtain ⟨vs, k1, k2⟩ := R.sl
  refine ⟨R.low, x, dx, vs, rfl, ?_, ?_, fun i r h => ?_⟩
  · rcases k1 with ⟨_, e⟩ | ⟨k1, _⟩
    · subst e
      cases fs with
      | nil => exact absurd rfl h1
      | cons p fs => obtain ⟨u, z, _⟩ := k2 p List.mem_cons_self; simp at z
    · rw [hide_out (fun z => by obtain ⟨o, ho⟩ := R.mu x z; rw [R.fx] at ho; cases ho)]
      exact k1
  · rcases k1 with ⟨_, e⟩ | ⟨_, k1⟩
    · subst e
      cases fs with
      | nil => exact absurd rfl h1
      | cons p fs => obtain ⟨u, z, _⟩ := k2 p List.mem_cons_self; simp at z
    · rw [hide_out (fun z => by obtain ⟨o, ho⟩ := R.mu dx z; rw [R.fd] at ho; cases ho)]
      exact k1
  · obtain ⟨u, z1, z2⟩ := k2 _ (hf i r h)
    exact ⟨u, z1, r.mono (hide_sub (fun a ha => List.mem_cons_of_mem _ (List.mem_cons_of_mem _ ha)) H) z2⟩
/-- what __init__ is worth -/
def spI (C : Addr) (S : List Vp → En → Prop) : Sp := fun vs H' Q _ => ∃ H M rs fs x dx ws, vs = .ref x :: ws ∧ H x = none ∧ H dx = none ∧ dx ≠ x ∧ H' = upd (upd H dx (.own x)) x (.ins C dx []) ∧ (∀ a ∈ M, ∃ o, H a = some o ∧ isM o = true) ∧ S rs fs ∧ AllP (hide M H) ws rs ∧
  ∀ H2, Ex H H2 → (rO C fs).p (hide M H2) (.ref x) → Q .non H2
end
section
variable (P : Program) (w : World) (mg : Str → Option Value) (base : Heap)
structure FnI (f : Addr) (k : Nat) (sp : Sp) : Prop where
  ex : ∃ fd ps', FnOk P w KK.K mg base CX0 k f fd ps' sp ∧ Binds KK.K fd ps' []
end
section
variable {P : Program} {w : World} {mg : Str → Option Value} {base : Heap}
theorem fnI_ok {S : List Vp → En → Prop} {C : Addr} {x qual : Str} {st : Stmt} {f : Addr} {fd : FuncData} {N ps : List Str} {k : Nat} (F : FunD KK.K x qual (defArgs st) (defBody st) (defScope st) [] [] f fd)
    (hb : ∀ (kV doc pm : Value) (an : Option Addr) (cdv ct : Value) (us : List Value), us.length = ps.length → bindArgs (PySem.W.fnOf x qual (defArgs st) (defBody st) (defScope st) .none kV doc pm an cdv ct) ⟨us, []⟩ = pure (ps.zip us))
    (sc : FnScope N ps (defScope st)) (hle : ps.length ≤ N.length) (hlen : ∀ rs r, S rs r → rs.length + 1 = ps.length)
    (body : ∀ (cdv : Value) (A : Around) (outer : List PySem.Env) (s : Shared) (H B : Hp) (E : XK) (M : List Addr) (rs : List Vp) (fs : En) (x dx : Addr), Room k (A.deeper (envOfC qual (defScope st) s.heap.objs.size f cdv)) → S rs fs → H x = none → H dx = none → dx ≠ x → B = upd (upd H dx (.own x)) x (.ins C dx []) → (∀ a ∈ M, ∃ o, H a = some o) →
      XB (Cx.nox (cxOf CX0 P w KK.K mg base N qual (defScope st) f cdv A outer s B E)) (defBody st) (Env B (x :: dx :: M) [] ((rA x :: rs).map some ++ List.replicate (N.length - ps.length) none) []) { nx := fun _ H' => Ex H H' ∧ (rO C fs).p (hide M H') (.ref x), rt := fun _ _ => False }) :
    FnI P w mg base f (k + 1) (spI C S) := by
  refine ⟨fd, ps, F.ok sc (fun vs H Q E h => ?_) (fun cdv A outer s H' vs Q E hr h => ?_), F.bindsN hb⟩
  · obtain ⟨H, M, rs, fs, x, dx, ws, rfl, _, _, _, _, hM, hS, hA, hQ⟩ := h
    rw [List.length_cons, hA.len, hlen rs fs hS]
  · obtain ⟨H, M, rs, fs, x, dx, ws, rfl, fx, fd, ne, hB, hM, hS, hA, hQ⟩ := h
    refine ⟨_, PSs.nox pss_sem, ?_⟩
    have eB : Ex (hide M H) (hide (x :: dx :: M) H') := fun a o h => by
      by_cases q : a ∈ M
      · rw [hide_in q] at h; cases h
      · rw [hide_out q] at h
        have n1 : a ≠ x := fun z => by rw [z, fx] at h; cases h
        have n2 : a ≠ dx := fun z => by rw [z, fd] at h; cases h
        rw [hide_out (by simp [q, n1, n2]), hB, upd_ne n1, upd_ne n2]
        exact h
    have hM' : ∀ a ∈ x :: dx :: M, ∃ o, H' a = some o ∧ isM o = true := fun a ha => by
      rw [hB]
      by_cases q1 : a = x
      · subst q1; exact ⟨_, upd_same, rfl⟩
      · rw [upd_ne q1]
        by_cases q2 : a = dx
        · subst q2; exact ⟨_, upd_same, rfl⟩
        · rw [upd_ne q2]
          rcases List.mem_cons.mp ha with z | z
          · exact absurd z q1
          · rcases List.mem_cons.mp z with z | z
            · exact absurd z q2
            · exact hM a z
    have hh : hid (x :: dx :: M) [] [] = x :: dx :: M := by unfold hid; simp
    have E0 : Env H' (x :: dx :: M) [] ((rA x :: rs).map some ++ List.replicate (N.length - ps.length) none) [] (L2.start N (.ref x :: ws)) H' := by
      refine ⟨?_, fun m hm => (nomatch hm), by simp, Ex.refl _, fun a ha => by simp at ha, hM', fun a ha => (nomatch ha)⟩
      rw [hh]
      exact kn_start (hlen rs fs hS) hle ⟨rfl, hA.mono eB⟩ hM'
    exact semB_le ((body cdv A outer s H H' E M rs fs x dx hr hS fx fd ne hB fun a ha => (hM a ha).imp fun o h => h.1).to _ H' E0) ⟨fun σ H' ⟨h1, h2⟩ => hQ H' h1 h2, fun v H' h => h.elim, fun _ _ h => h, fun _ _ h => h⟩
theorem xe_make {X : Cx} {G : En} {e : Expr} {es : List Expr} {rs : List Vp} {fs : En} {x : Str} {pos ps : Pos} {C f : Addr} {S : List Vp → En → Prop} {j k : Nat} (MK : Mk KK.K C f) (F : FnI X.prog X.w X.mg X.base f j (spI C S)) (hr : Room k X.A) (hm : X.mg x = some (.ref C)) (ha : XA X (e :: es) G rs) (hS : S rs fs) (hj : j + 1 ≤ k := by decide) (hg : Gl X x := by rfl) (hK : X.K = KK.K := by rfl) (hdb : (x == ("__debug__" : Str)) = false := by decide)
    (he : starEach (e :: es) X.env = (false, eval e X.env) :: starEach es X.env := by rfl) (hpl : (backTo pos (starEach es X.env)).any (·.1) = false := by rfl) : XE X (.Call (.Name x ps) (e :: es) [] pos) G (rO C fs) := by
  obtain ⟨fd, ps', h1, h4⟩ := F.ex
  rw [← hK] at h1 h4 MK
  refine XE.of (pe_make MK h1 (hr.mono hj) hg hm h4 .nil pass0 pa_sem hdb he hpl) fun σ H M Q kn hQ => ha.to σ H M _ kn fun vs H1 e1 hA => fun x dx hx hdx hne => ?_
  exact ⟨H1, M, rs, fs, x, dx, vs, by rw [List.append_nil], hx, hdx, hne, rfl, (kn.ex e1).mu, hS, hA, fun H2 e2 h => ⟨rfl, hQ _ H2 (e1.trans e2) h⟩⟩
end
end TL
/-! Dicts with texts as keys: made, filled, then read alone. -/
namespace TL
open PySem PySem.Spec PyProof.Rows L2
def DK (H : Hp) : List (Key × V) → List (Str × Vp) → Prop
  | [], [] => True
  | p :: ps, q :: qs => p.1 = .inr q.1 ∧ q.2.p H p.2 ∧ DK H ps qs
  | _, _ => False
theorem DK.mono {H H' : Hp} (e : Ex H H') : ∀ {ps : List (Key × V)} {qs : List (Str × Vp)}, DK H ps qs → DK H' ps qs
  | [], [], _ => trivial
  | p :: ps, q :: qs, ⟨h1, h2, h3⟩ => ⟨h1, q.2.mono e h2, DK.mono e h3⟩
  | [], _ :: _, h => h.elim
  | _ :: _, [], h => h.elim
def look (x : Str) : List (Str × Vp) → Option Vp
  | [] => none
  | q :: qs => if q.1 = x then some q.2 else look x qs
theorem DK.val {H : Hp} {x : Str} {r : Vp} : ∀ {ps : List (Key × V)} {qs : List (Str × Vp)}, DK H ps qs → look x qs = some r → ∃ v, valV ps (.inr x) = some v ∧ r.p H v
  | [], [], _, h => nomatch h
  | [], _ :: _, h, _ => h.elim
  | _ :: _, [], h, _ => h.elim
  | p :: ps, q :: qs, ⟨h1, h2, h3⟩, hl => by
    unfold look at hl
    by_cases e : q.1 = x
    · rw [if_pos e] at hl
      obtain rfl := Option.some.inj hl
      exact ⟨p.2, valV_pos (by rw [h1, e]), h2⟩
    · rw [if_neg e] at hl
      obtain ⟨v, h4, h5⟩ := DK.val h3 hl
      exact ⟨v, by rw [valV_neg (by rw [h1]; exact fun z => e (Sum.inr.inj z))]; exact h4, h5⟩
theorem DK.no {H : Hp} {x : Str} : ∀ {ps : List (Key × V)} {qs : List (Str × Vp)}, DK H ps qs → look x qs = none → valV ps (.inr x) = none
  | [], [], _, _ => rfl
  | [], _ :: _, h, _ => h.elim
  | _ :: _, [], h, _ => h.elim
  | p :: ps, q :: qs, ⟨h1, h2, h3⟩, hl => by
    unfold look at hl
    by_cases e : q.1 = x
    · rw [if_pos e] at hl; cases hl
    · rw [if_neg e] at hl
      rw [valV_neg (by rw [h1]; exact fun z => e (Sum.inr.inj z))]
      exact DK.no h3 hl
theorem DK.snoc {H : Hp} {x : Str} {v : V} {r : Vp} (hv : r.p H v) : ∀ {ps : List (Key × V)} {qs : List (Str × Vp)}, DK H ps qs → DK H (ps ++ [(.inr x, v)]) (qs ++ [(x, r)])
  | [], [], _ => ⟨rfl, hv, trivial⟩
  | p :: ps, q :: qs, ⟨h1, h2, h3⟩ => ⟨h1, h2, DK.snoc hv h3⟩
  | [], _ :: _, h => h.elim
  | _ :: _, [], h => h.elim
theorem DK.len {H : Hp} : ∀ {ps : List (Key × V)} {qs : List (Str × Vp)}, DK H ps qs → ps.length = qs.length
  | [], [], _ => rfl
  | p :: ps, q :: qs, ⟨h1, h2, h3⟩ => congrArg (· + 1) (DK.len h3)
  | [], _ :: _, h => h.elim
  | _ :: _, [], h => h.elim
/-- a dict that is no more written -/
def rDc (ks : List (Str × Vp)) : Vp := ⟨fun H v => ∃ a kvs, v = .ref a ∧ H a = some (.dK kvs) ∧ DK H kvs ks, fun e ⟨a, kvs, h1, h2, h3⟩ => ⟨a, kvs, h1, e _ _ h2, h3.mono e⟩⟩
/-- within a def: the dict at a, what it holds so far -/
structure DR (B : Hp) (N : List Addr) (a : Addr) (ks : List (Str × Vp)) (G : En) (σ : L2.St) (H : Hp) : Prop where
  kn : Kn G (a :: N) σ H
  base : Ex B H
  nw : B a = none
  old : ∀ n ∈ N, ∃ o, B n = some o ∧ isM o = true
  con : ∃ kvs, H a = some (.dK kvs) ∧ DK (hide (a :: N) H) kvs ks
section
variable {X : Cx} {B : Hp} {N : List Addr} {a : Addr} {ks : List (Str × Vp)} {G : En} {σ : L2.St} {H H' : Hp} {e o i : Expr} {r : Vp} {x y : Str} {pos pos' : Pos} {rt : VK} {bk ct : L2.St → Hp → Prop}
theorem DR.ex (R : DR B N a ks G σ H) (e : Ex H H') : DR B N a ks G σ H' := by
  obtain ⟨kvs, h1, h2⟩ := R.con
  exact ⟨R.kn.ex e, R.base.trans e, R.nw, R.old, kvs, e _ _ h1, h2.mono (e.hide _)⟩
theorem xe_dsub {k : Nat} (hr : Room k X.A) (ha : XE X o G (rDc ks)) (hb : XE X i G (rS x)) (hl : look x ks = some r) (hs : NoSl i := by intro _ _; rfl) : XE X (.Subscript o i pos) G r :=
  XE.of (pe_dget (by have := hr.units; omega) pe_sem pe_sem hs) fun σ H M Q kn hQ => ha.to σ H M _ kn fun v H1 e1 h1 => hb.to σ H1 M _ (kn.ex e1) fun w H2 e2 h2 => by
    obtain ⟨a, kvs, rfl, h3, h4⟩ := h1
    obtain ⟨u, h5, h6⟩ := h4.val hl
    obtain rfl : w = .str x := h2
    exact ⟨a, u, rfl, by rw [← h5]; exact DGet.k (k := .inr x) (e2 _ _ (hide_le _ _ _ _ h3)), hQ u H2 (e1.trans e2) (r.mono (e2.hide M) h6)⟩
/-- name = {k: e} -/
theorem xs_dnew (j : Nat) {ke : Expr} {pos2 : Pos} (hN : X.N.Nodup) (hk : XE X ke G (rS x)) (he : XE X e G r) (hi : X.N[j]? = some y := by rfl) (hx : Loc X.env.scope y := by first | exact Or.inl rfl | exact Or.inr rfl)
    (hs : swapsWith (.Dict [some ke] [e] pos) (some (.Name y pos')) pos2.line X.env = pure false := by rfl) (hf : X.fn y = true ∨ X.env.scope.names.lookup y = some .local := by first | exact .inl rfl | exact .inr rfl) :
    XS X (.Assign [.Name y pos'] (.Dict [some ke] [e] pos) pos2) (Env B N [] G []) ⟨fun σ H => ∃ a, DR B N a [(x, r)] (G.set j (some (rA a))) σ H, rt, bk, ct⟩ :=
  XS.of (ps_set hN hi hx (pe_disp (pps_cons pe_sem pe_sem pps_nil) rfl rfl (fun z => nomatch z) (Nat.le_of_ble_eq_true rfl)) hs hf) fun σ H E p hp => by
    have hh : hid N [] [] = N := by unfold hid; simp
    have k0 := E.kn
    rw [hh] at k0
    have e0 : Ex H (upd H p (.dK [])) := Ex.new hp
    have k1 : Kn G (p :: N) σ (upd H p (.dK [])) := ⟨fun i r h => let ⟨v, h1, h2⟩ := k0.get i r h; ⟨v, h1, r.mono (hide_add e0 hp) h2⟩, fun a h => by
      rcases List.mem_cons.mp h with rfl | h
      · exact ⟨_, upd_same, rfl⟩
      · obtain ⟨o, h1, h2⟩ := k0.mu a h
        exact ⟨o, e0 _ _ h1, h2⟩, k0.len⟩
    refine hk.to σ _ _ _ k1 fun w H1 e1 h1 => he.to σ H1 _ _ (k1.ex e1) fun v H2 e2 h2 => ?_
    obtain rfl : w = .str x := h1
    have hp2 : H2 p = some (.dK []) := e2 _ _ (e1 _ _ upd_same)
    refine ⟨hp2, [(.inr x, v)], rfl, Nat.le_of_ble_eq_true rfl, p, ?_⟩
    have eh : hide (p :: N) (upd H2 p (.dK (mergeK [] [(.inr x, v)]))) = hide (p :: N) H2 := by
      funext a
      by_cases h : a ∈ p :: N
      · rw [hide_in h, hide_in h]
      · rw [hide_out h, hide_out h, upd_ne (fun z => h (by rw [z]; simp))]
    have k2 := (k1.ex e1).ex e2
    have k3 : Kn G (p :: N) σ (upd H2 p (.dK (mergeK [] [(.inr x, v)]))) := ⟨fun i r h => by rw [eh]; exact k2.get i r h, fun a h => by
      by_cases q : a = p
      · subst q; exact ⟨_, upd_same, rfl⟩
      · rw [upd_ne q]; exact k2.mu a h, k2.len⟩
    refine ⟨k3.set (r := rA p) (v := .ref p) rfl, fun a o h => ?_, ?_, E.old, _, upd_same, ?_⟩
    · rw [upd_ne (fun z => by rw [z, E.base.none hp] at h; cases h)]
      exact e2 _ _ (e1 _ _ (e0 _ _ (E.base _ _ h)))
    · exact E.base.none hp
    · rw [eh]
      exact ⟨rfl, h2, trivial⟩
/-- d[k] = e, a new key -/
theorem xs_dput {k : Nat} (hr : Room k X.A) (ho : XE X o G (rA a)) (hi : XE X i G (rS x)) (he : XE X e G r) (hn : look x ks = none) (hl : ks.length < 1000) (hs : swapsWith e (some (.Subscript o i pos')) pos.line X.env = pure false := by rfl) :
    XS X (.Assign [.Subscript o i pos'] e pos) (DR B N a ks G) ⟨DR B N a (ks ++ [(x, r)]) G, rt, bk, ct⟩ :=
  XS.of (ps_dput (by have := hr.units; omega) pe_sem pe_sem pe_sem hs) fun σ H R => he.to σ H _ _ R.kn fun v H1 e1 h1 => ho.to σ H1 _ _ (R.kn.ex e1) fun w H2 e2 h2 => hi.to σ H2 _ _ ((R.kn.ex e1).ex e2) fun z H3 e3 h3 => by
    have R3 := ((R.ex e1).ex e2).ex e3
    obtain ⟨kvs, c1, c2⟩ := R3.con
    obtain rfl : z = .str x := h3
    refine ⟨a, _, h2, DPut.k (k := .inr x) c1 (by rw [c2.len]; show _ < 2 ^ 24; omega), ?_⟩
    rw [putK_new v (c2.no hn)]
    have eh : hide (a :: N) (upd H3 a (.dK (kvs ++ [(.inr x, v)]))) = hide (a :: N) H3 := by
      funext b
      by_cases h : b ∈ a :: N
      · rw [hide_in h, hide_in h]
      · rw [hide_out h, hide_out h, upd_ne (fun z => h (by rw [z]; simp))]
    refine ⟨⟨fun i r h => by rw [eh]; exact R3.kn.get i r h, fun b h => ?_, R3.kn.len⟩, fun b o h => ?_, R3.nw, R3.old, _, upd_same, ?_⟩
    · by_cases q : b = a
      · subst q; exact ⟨_, upd_same, rfl⟩
      · rw [upd_ne q]; exact R3.kn.mu b h
    · rw [upd_ne (fun z => by rw [z, R3.nw] at h; cases h)]
      exact R3.base _ _ h
    · rw [eh]
      exact c2.snoc (r.mono ((e2.trans e3).hide _) h1)
theorem DR.frz {j : Nat} (R : DR B N a ks G σ H) (hG : G[j]? = some (some (rA a))) : Env B N [] (G.set j (some (rDc ks))) [] σ H := by
  have hh : hid N [] [] = N := by unfold hid; simp
  have hs : Ex (hide (a :: N) H) (hide N H) := hide_sub (fun b h => List.mem_cons_of_mem _ h) H
  have ha : a ∉ N := fun z => by obtain ⟨o, h, _⟩ := R.old a z; rw [R.nw] at h; cases h
  obtain ⟨kvs, c1, c2⟩ := R.con
  refine ⟨?_, fun m hm => (nomatch hm), by simp, R.base, fun a ha => by simp at ha, R.old, fun a ha => (nomatch ha)⟩
  rw [hh]
  refine ⟨fun i r h => ?_, fun b h => R.kn.mu b (List.mem_cons_of_mem _ h), by rw [List.length_set]; exact R.kn.len⟩
  by_cases q : i = j
  · subst q
    obtain ⟨v, k1, k2⟩ := R.kn.get i _ hG
    have hlt : i < G.length := (List.getElem?_eq_some_iff.mp hG).1
    rw [List.getElem?_set_self hlt] at h
    obtain rfl := Option.some.inj (Option.some.inj h)
    exact ⟨v, k1, a, kvs, k2, by rw [hide_out ha]; exact c1, c2.mono hs⟩
  · rw [List.getElem?_set_ne (fun z => q z.symm)] at h
    obtain ⟨v, k1, k2⟩ := R.kn.get i r h
    exact ⟨v, k1, r.mono hs k2⟩
end
end TL
/-! Code that rolls dice: the list at d may change, all else that stood stands; what comes out is one of several. -/
namespace TL
open PySem PySem.Spec PyProof.Rows L2
structure DX (d : Addr) (H H' : Hp) : Prop where
  keep : ∀ a o, a ≠ d → H a = some o → H' a = some o
  dice : Dice H' d
theorem Dice.ex {H H' : Hp} {d : Addr} (h : Dice H d) (e : Ex H H') : Dice H' d := let ⟨x, y, z, h⟩ := h; ⟨x, y, z, e _ _ h⟩
theorem DX.of_ex {H H' : Hp} {d : Addr} (h : Dice H d) (e : Ex H H') : DX d H H' := ⟨fun a o _ q => e a o q, h.ex e⟩
theorem DX.trans {H H1 H2 : Hp} {d : Addr} (a : DX d H H1) (b : DX d H1 H2) : DX d H H2 := ⟨fun x o h q => b.keep x o h (a.keep x o h q), b.dice⟩
theorem DX.hide {H H' : Hp} {d : Addr} {M : List Addr} (h : DX d H H') (hd : d ∈ M) : Ex (hide M H) (hide M H') := fun a o q => by
  by_cases hm : a ∈ M
  · rw [hide_in hm] at q; cases q
  · rw [hide_out hm] at q ⊢
    exact h.keep a o (fun z => hm (z ▸ hd)) q
theorem Kn.dx {G : En} {M : List Addr} {σ : L2.St} {H H' : Hp} {d : Addr} (k : Kn G M σ H) (hd : d ∈ M) (h : DX d H H') : Kn G M σ H' :=
  ⟨fun i r q => let ⟨v, h1, h2⟩ := k.get i r q; ⟨v, h1, r.mono (h.hide hd) h2⟩, fun a ha => by
    by_cases q : a = d
    · subst q; obtain ⟨x, y, z, e⟩ := h.dice; exact ⟨_, e, rfl⟩
    · obtain ⟨o, h1, h2⟩ := k.mu a ha; exact ⟨o, h.keep a o q h1, h2⟩, k.len⟩
section
variable {B : Hp} {N : List Addr} {G G' : En} {Ms : MS} {σ σ' : L2.St} {H H' : Hp} {r : Vp} {rs : List Vp} {d : Addr}
theorem Env.din (E : Env B N [d] G Ms σ H) : d ∈ hid N [d] Ms := by unfold hid; simp
theorem Env.dd (E : Env B N [d] G Ms σ H) : Dice H d := E.dice d (by simp)
theorem Env.dx (E : Env B N [d] G Ms σ H) (h : DX d H H') : Env B N [d] G Ms σ H' := by
  have nd := E.nd
  have hm : ∀ m ∈ Ms, m.1 ≠ d := fun m hm z => by
    have := List.nodup_cons.mp nd
    exact this.1 (List.mem_map.mpr ⟨m, hm, z⟩)
  refine ⟨E.kn.dx E.din h, fun m hm' => let ⟨vs, h1, h2⟩ := E.cont m hm'; ⟨vs, h.keep _ _ (hm m hm') h1, h2.mono (h.hide E.din)⟩, E.nd, fun a o q => ?_, E.new, E.old, fun a ha => ?_⟩
  · exact h.keep a o (fun z => by have := E.new a (by rw [z]; simp); rw [this] at q; cases q) (E.base a o q)
  · obtain rfl : a = d := by simpa using ha
    exact h.dice
end
structure XD (X : Cx) (e : Expr) (G : En) (d : Addr) (R : Vp → Prop) : Prop where
  to : ∀ (σ : L2.St) (H : Hp) (M : List Addr) (Q : VK), Kn G M σ H → d ∈ M → Dice H d → (∀ r v H', R r → DX d H H' → r.p (hide M H') v → Q v H') → semE X e σ H Q
structure XDT (X : Cx) (e : Expr) (G : En) (d : Addr) (P : Bool → Prop) : Prop where
  to : ∀ (σ : L2.St) (H : Hp) (M : List Addr) (Q : Bool → Hp → Prop), Kn G M σ H → d ∈ M → Dice H d → (∀ b H', P b → DX d H H' → Q b H') → semT X e σ H Q
structure XAD (X : Cx) (es : List Expr) (G : En) (d : Addr) (R : List Vp → Prop) : Prop where
  to : ∀ (σ : L2.St) (H : Hp) (M : List Addr) (Q : List V → Hp → Prop), Kn G M σ H → d ∈ M → Dice H d → (∀ rs vs H', R rs → DX d H H' → AllP (hide M H') vs rs → Q vs H') → semA X es σ H Q
structure XID (X : Cx) (tg iter : Expr) (G : En) (d : Addr) (RS : List Vp → Prop) : Prop where
  to : ∀ (σ : L2.St) (H : Hp) (M : List Addr) (R : It → Hp → Prop), Kn G M σ H → d ∈ M → Dice H d → (∀ rs J H', RS rs → DX d H H' → WalkV J rs (hide M H') → R J H') → semI X tg iter σ H R
/-- an int of a kind -/
def RP (P : Int → Prop) : Vp → Prop := fun r => ∃ i, P i ∧ r = rI i
section
variable {X : Cx} {a b c e : Expr} {es : List Expr} {G : En} {p q z r : Vp} {rs : List Vp} {pos ps : Pos} {x : Str} {d : Addr} {R S R' : Vp → Prop} {RS SS : List Vp → Prop} {P : Bool → Prop}
theorem XD.of {t : TE} (hp : PE X e t) (h : ∀ (σ : L2.St) (H : Hp) (M : List Addr) (Q : VK), Kn G M σ H → d ∈ M → Dice H d → (∀ r v H', R r → DX d H H' → r.p (hide M H') v → Q v H') → t σ H Q) : XD X e G d R :=
  ⟨fun σ H M Q k hd hD hQ pins s I => hp.run pins s σ H Q I (h σ H M Q k hd hD hQ)⟩
theorem XDT.of {t : TT} (hp : PT X e t) (h : ∀ (σ : L2.St) (H : Hp) (M : List Addr) (Q : Bool → Hp → Prop), Kn G M σ H → d ∈ M → Dice H d → (∀ b H', P b → DX d H H' → Q b H') → t σ H Q) : XDT X e G d P :=
  ⟨fun σ H M Q k hd hD hQ pins s I => hp.run pins s σ H Q I (h σ H M Q k hd hD hQ)⟩
theorem XAD.of {t : TA} (hp : PA X es t) (h : ∀ (σ : L2.St) (H : Hp) (M : List Addr) (Q : List V → Hp → Prop), Kn G M σ H → d ∈ M → Dice H d → (∀ rs vs H', RS rs → DX d H H' → AllP (hide M H') vs rs → Q vs H') → t σ H Q) : XAD X es G d RS :=
  ⟨fun σ H M Q k hd hD hQ pos pins s I => hp.run pos pins s σ H Q I (h σ H M Q k hd hD hQ)⟩
theorem XD.imp (h : XD X e G d R) (hi : ∀ r, R r → R' r) : XD X e G d R' := ⟨fun σ H M Q k hd hD hQ => h.to σ H M Q k hd hD fun r v H' h1 => hQ r v H' (hi r h1)⟩
theorem XDT.imp {P' : Bool → Prop} (h : XDT X e G d P) (hi : ∀ r, P r → P' r) : XDT X e G d P' := ⟨fun σ H M Q k hd hD hQ => h.to σ H M Q k hd hD fun r H' h1 => hQ r H' (hi r h1)⟩
theorem XAD.imp (h : XAD X es G d RS) (hi : ∀ r, RS r → SS r) : XAD X es G d SS := ⟨fun σ H M Q k hd hD hQ => h.to σ H M Q k hd hD fun r v H' h1 => hQ r v H' (hi r h1)⟩
theorem xd_xe (h : XE X e G r) : XD X e G d (fun q => q = r) := ⟨fun σ H M Q k hd hD hQ => h.to σ H M Q k fun v H1 e1 h1 => hQ r v H1 rfl (.of_ex hD e1) h1⟩
theorem xd_int {i : Int} {P : Int → Prop} (h : XE X e G (rI i)) (hp : P i) : XD X e G d (RP P) := (xd_xe h).imp fun r hr => ⟨i, hp, hr⟩
theorem xad_xa (h : XA X es G rs) : XAD X es G d (fun qs => qs = rs) := ⟨fun σ H M Q k hd hD hQ => h.to σ H M Q k fun v H1 e1 h1 => hQ rs v H1 rfl (.of_ex hD e1) h1⟩
theorem run2 {r2 : R2} {Z : Vp → Prop} (h : ∀ p q, R p → S q → ∃ z, Z z ∧ R2V r2 p q z) (ha : XD X a G d R) (hb : XD X b G d S) (σ : L2.St) (H : Hp) (M : List Addr) (Q : VK) (k : Kn G M σ H) (hd : d ∈ M) (hD : Dice H d) (hQ : ∀ r v H', Z r → DX d H H' → r.p (hide M H') v → Q v H') : tOp r2 (semE X a) (semE X b) σ H Q :=
  ha.to σ H M _ k hd hD fun p x H1 hp e1 h1 => hb.to σ H1 M _ (k.dx hd e1) hd e1.dice fun q y H2 hq e2 h2 => by
    obtain ⟨z, hz, h3⟩ := h p q hp hq
    exact h3 H2 M x y Q ((k.dx hd e1).dx hd e2).mu (p.mono (e2.hide hd) h1) h2 fun v H3 e3 h3 => hQ z v H3 hz ((e1.trans e2).trans (.of_ex e2.dice e3)) h3
theorem xd_op {op : Operator} {r2 : R2} {Z : Vp → Prop} (ho : OpR X (binaryOp op) r2) (h : ∀ p q, R p → S q → ∃ z, Z z ∧ R2V r2 p q z) (ha : XD X a G d R) (hb : XD X b G d S) : XD X (.BinOp a op b pos) G d Z :=
  XD.of (pe_op ho pe_sem pe_sem) (run2 h ha hb)
theorem xd_ix {r2 : R2} {Z : Vp → Prop} (ho : IxR X r2) (h : ∀ p q, R p → S q → ∃ z, Z z ∧ R2V r2 p q z) (ha : XD X a G d R) (hb : XD X b G d S) (hs : PlainIx b := by intro _ _; rfl) : XD X (.Subscript a b pos) G d Z :=
  XD.of (pe_ix ho pe_sem pe_sem hs) (run2 h ha hb)
theorem xdt_cmp {op : CmpOp} {r2 : R2} (ho : OpR X (compareOp op) r2) (h : ∀ p q, R p → S q → ∃ k, P k ∧ R2V r2 p q (rB k)) (ha : XD X a G d R) (hb : XD X b G d S) (hm : behindInMarks op b = false := by first | exact nomark _ | rfl) : XDT X (.Compare a [op] [b] pos) G d P :=
  XDT.of (pt_cmpR ho pe_sem pe_sem hm) fun σ H M Q kn hd hD hQ => run2 (Z := fun r => ∃ k, P k ∧ r = rB k) (fun p q h1 h2 => let ⟨k, h3, h4⟩ := h p q h1 h2; ⟨_, ⟨k, h3, rfl⟩, h4⟩) ha hb σ H M _ kn hd hD fun r v H' ⟨k, h1, h2⟩ e h3 => by
    subst h2
    exact ⟨k, h3, hQ k H' h1 e⟩
theorem xd_addI {P Q Z : Int → Prop} (ha : XD X a G d (RP P)) (hb : XD X b G d (RP Q)) (h : ∀ i j, P i → Q j → Z (i + j)) : XD X (.BinOp a .Add b pos) G d (RP Z) :=
  xd_op op_add (fun p q ⟨i, h1, h2⟩ ⟨j, h3, h4⟩ => ⟨_, ⟨_, h i j h1 h3, rfl⟩, by subst h2 h4; exact r2_I0⟩) ha hb
theorem xd_mulI {P Q Z : Int → Prop} (ha : XD X a G d (RP P)) (hb : XD X b G d (RP Q)) (h : ∀ i j, P i → Q j → CMul i j ∧ Z (i * j)) : XD X (.BinOp a .Mult b pos) G d (RP Z) :=
  xd_op op_mul (fun p q ⟨i, h1, h2⟩ ⟨j, h3, h4⟩ => ⟨_, ⟨_, (h i j h1 h3).2, rfl⟩, by subst h2 h4; exact r2_I (h i j h1 h3).1⟩) ha hb
theorem xd_modI {P Q Z : Int → Prop} (ha : XD X a G d (RP P)) (hb : XD X b G d (RP Q)) (h : ∀ i j, P i → Q j → 0 < j ∧ Z (i % j)) : XD X (.BinOp a .Mod b pos) G d (RP Z) :=
  xd_op op_mod (fun p q ⟨i, h1, h2⟩ ⟨j, h3, h4⟩ => ⟨_, ⟨_, (h i j h1 h3).2, rfl⟩, by subst h2 h4; exact r2_I (h i j h1 h3).1⟩) ha hb
theorem xd_fdivI {P Q Z : Int → Prop} (ha : XD X a G d (RP P)) (hb : XD X b G d (RP Q)) (h : ∀ i j, P i → Q j → CDiv i j ∧ Z (i / j)) : XD X (.BinOp a .FloorDiv b pos) G d (RP Z) :=
  xd_op op_fdiv (fun p q ⟨i, h1, h2⟩ ⟨j, h3, h4⟩ => ⟨_, ⟨_, (h i j h1 h3).2, rfl⟩, by subst h2 h4; exact r2_I (h i j h1 h3).1⟩) ha hb
theorem xdt_gt {P' Q' : Int → Prop} (ha : XD X a G d (RP P')) (hb : XD X b G d (RP Q')) : XDT X (.Compare a [.Gt] [b] pos) G d (fun _ => True) :=
  xdt_cmp op_gt (fun p q ⟨i, h1, h2⟩ ⟨j, h3, h4⟩ => ⟨decide (j < i), trivial, by subst h2 h4; exact r2_B0⟩) ha hb (nomark _)
theorem xdt_eq {P' Q' : Int → Prop} (ha : XD X a G d (RP P')) (hb : XD X b G d (RP Q')) : XDT X (.Compare a [.Eq] [b] pos) G d (fun _ => True) :=
  xdt_cmp op_eq (fun p q ⟨i, h1, h2⟩ ⟨j, h3, h4⟩ => ⟨decide (V.int i = V.int j), trivial, by subst h2 h4; exact r2_eq (v := .int i) (u := .int j) fl_i fl_i rfl⟩) ha hb (nomark _)
theorem xdt_val {k : Bool} (h : XD X e G d (fun r => r = rB k)) (he : ∀ whole, isTrue e X.env whole = (do let v ← whole; standAt e.pos; holding [v] (truthy v)) := by intro _; rfl) : XDT X e G d (fun b => b = k) :=
  XDT.of (pt_val pe_sem he) fun σ H M Q kn hd hD hQ => h.to σ H M _ kn hd hD fun r v H1 hr e1 h1 => by subst hr; exact ⟨k, h1, hQ k H1 rfl e1⟩
theorem xdt_not {k : Bool} (ha : XDT X a G d (fun b => b = k)) : XDT X (.UnaryOp .Not a pos) G d (fun b => b = !k) :=
  XDT.of (pt_not pt_sem) fun σ H M Q kn hd hD hQ => ha.to σ H M _ kn hd hD fun b H1 hb e1 => hQ _ H1 (by rw [hb]) e1
theorem xd_ife (hc : XDT X c G d P) (ha : XD X a G d R) (hb : XD X b G d R) : XD X (.IfExp c a b pos) G d R :=
  XD.of (pe_ifExp pt_sem pe_sem pe_sem) fun σ H M Q kn hd hD hQ => hc.to σ H M _ kn hd hD fun k H1 _ e1 => by
    cases k with
    | true => rw [if_pos rfl]; exact ha.to σ H1 M Q (kn.dx hd e1) hd e1.dice fun r v H2 hr e2 h2 => hQ r v H2 hr (e1.trans e2) h2
    | false => rw [if_neg (by decide)]; exact hb.to σ H1 M Q (kn.dx hd e1) hd e1.dice fun r v H2 hr e2 h2 => hQ r v H2 hr (e1.trans e2) h2
theorem xad_nil : XAD X [] G d (fun rs => rs = []) := xad_xa xa_nil
theorem xad_cons (ha : XD X e G d R) (hr : XAD X es G d RS) (hs : starEach (e :: es) X.env = (false, eval e X.env) :: starEach es X.env := by rfl) : XAD X (e :: es) G d (fun rs => ∃ r qs, R r ∧ RS qs ∧ rs = r :: qs) :=
  XAD.of (pa_cons pe_sem pa_sem hs) fun σ H M Q k hd hD hQ => ha.to σ H M _ k hd hD fun r v H1 hR e1 h1 => hr.to σ H1 M _ (k.dx hd e1) hd e1.dice fun qs vs H2 hQS e2 h2 => hQ (r :: qs) _ H2 ⟨r, qs, hR, hQS, rfl⟩ (e1.trans e2) ⟨r.mono (e2.hide hd) h1, h2⟩
section
variable [KK]
theorem xd_tup {x1} (h : XAD X es G d RS) (hl : ∀ rs, RS rs → rs.length ≤ 1000) : XD X (.Tuple es x1 pos) G d (fun r => ∃ rs, RS rs ∧ r = rT rs) :=
  XD.of (pe_tup pa_sem) fun σ H M Q k hd hD hQ => h.to σ H M _ k hd hD fun rs vs H1 hR e1 h1 => ⟨by rw [h1.len]; have := hl rs hR; show _ ≤ 2 ^ 24; omega, fun t ht => hQ (rT rs) _ _ ⟨rs, hR, rfl⟩ (e1.trans (.of_ex e1.dice (Ex.new ht)))
    ⟨t, vs, rfl, SqT.of (hide_new (k.dx hd e1).mu ht), h1.mono ((Ex.new ht).hide M)⟩⟩
/-- a call that reads -/
theorem xd_call {SF : List Vp → Vp → Prop} {j k : Nat} (F : Fn X.prog X.w X.mg X.base x j (spF SF)) (hr : Room k X.A) (ha : XAD X (e :: es) G d RS) (hS : ∀ rs, RS rs → ∃ r, R r ∧ SF rs r) (hj : j ≤ k := by decide) (hg : Gl X x := by rfl) (hK : X.K = KK.K := by rfl) (hdb : (x == ("__debug__" : Str)) = false := by decide)
    (he : starEach (e :: es) X.env = (false, eval e X.env) :: starEach es X.env := by rfl) (hpl : (backTo pos (starEach es X.env)).any (·.1) = false := by rfl) : XD X (.Call (.Name x ps) (e :: es) [] pos) G d R := by
  obtain ⟨f, fd, ps', h1, h2, h3, h4⟩ := F.ex
  rw [← hK] at h1 h3 h4
  refine XD.of (pe_call h1 (hr.mono hj) hg h2 h3 h4 .nil pass0 pa_sem hdb he hpl) fun σ H M Q kn hd hD hQ => ha.to σ H M _ kn hd hD fun rs vs H1 hR e1 hA => ?_
  obtain ⟨r, hr, hS⟩ := hS rs hR
  exact ⟨M, rs, r, (kn.dx hd e1).mu, hS, by rw [List.append_nil]; exact hA, fun v H2 e2 h => hQ r v H2 hr (e1.trans (.of_ex e1.dice e2)) h⟩
/-- what a def that rolls is worth -/
def spD (S : List Vp → (Vp → Prop) → Prop) : Sp := fun vs H Q _ => ∃ d N ws rs R, vs = .ref d :: ws ∧ Dice H d ∧ d ∉ N ∧ (∀ a ∈ N, ∃ o, H a = some o ∧ isM o = true) ∧ S rs R ∧ AllP (hide (d :: N) H) ws rs ∧ ∀ r v H', R r → DX d H H' → r.p (hide (d :: N) H') v → Q v H'
theorem hide_eq {M N : List Addr} (h : ∀ a, a ∈ M ↔ a ∈ N) (H : Hp) : hide M H = hide N H := by
  funext a
  unfold hide
  by_cases q : a ∈ M
  · rw [if_pos q, if_pos ((h a).mp q)]
  · rw [if_neg q, if_neg fun z => q ((h a).mpr z)]
theorem xd_callD {SF : List Vp → (Vp → Prop) → Prop} {j k : Nat} (F : Fn X.prog X.w X.mg X.base x j (spD SF)) (hr : Room k X.A) (hv : XE X e G (rA d)) (ha : XAD X es G d RS) (hS : ∀ rs, RS rs → ∃ R0, SF rs R0 ∧ ∀ r, R0 r → R r) (hj : j ≤ k := by decide) (hg : Gl X x := by rfl) (hK : X.K = KK.K := by rfl) (hdb : (x == ("__debug__" : Str)) = false := by decide)
    (he : starEach (e :: es) X.env = (false, eval e X.env) :: starEach es X.env := by rfl) (hpl : (backTo pos (starEach es X.env)).any (·.1) = false := by rfl) : XD X (.Call (.Name x ps) (e :: es) [] pos) G d R := by
  obtain ⟨f, fd, ps', h1, h2, h3, h4⟩ := F.ex
  rw [← hK] at h1 h3 h4
  refine XD.of (pe_call h1 (hr.mono hj) hg h2 h3 h4 .nil pass0 pa_sem hdb he hpl) fun σ H M Q kn hd hD hQ => (xad_cons (xd_xe hv) ha he).to σ H M _ kn hd hD fun rs vs H1 hR e1 hA => ?_
  obtain ⟨r0, qs, rfl, hR, rfl⟩ := hR
  obtain ⟨R0, hS, himp⟩ := hS qs hR
  cases vs with
  | nil => exact hA.elim
  | cons v ws =>
    obtain ⟨hv0, hA⟩ := hA
    obtain rfl : v = .ref d := hv0
    have hM : ∀ a, a ∈ M ↔ a ∈ d :: M.filter (fun a => decide (a ≠ d)) := fun a => by
      by_cases q : a = d
      · subst q; simp [hd]
      · simp [q]
    refine ⟨d, M.filter (fun a => decide (a ≠ d)), ws, qs, R0, by rw [List.append_nil], e1.dice, by simp, fun a ha => (kn.dx hd e1).mu a (List.mem_filter.mp ha).1, hS, by rw [← hide_eq hM]; exact hA, fun r v H2 hr e2 h => ?_⟩
    exact hQ r v H2 (himp r hr) (e1.trans e2) (by rw [hide_eq hM]; exact h)
theorem xd_ct {T : String} {r1 : List V → Hp → VK → Prop} (hc : CallR X (.type T) r1) (hm : X.mg x = none) (hv : bootBuiltins x = some (.type T)) (ha : XAD X (e :: es) G d RS)
    (hr : ∀ rs, RS rs → ∃ z, R z ∧ ∀ (H : Hp) (M : List Addr) (vs : List V) (Q : VK), (∀ a ∈ M, ∃ o, H a = some o ∧ isM o = true) → AllP (hide M H) vs rs → (∀ v H', Ex H H' → z.p (hide M H') v → Q v H') → r1 vs H Q) (hg : Gl X x := by rfl) (hn : x ≠ "__name__" := by decide) (hdb : (x == ("__debug__" : Str)) = false := by decide)
    (he : starEach (e :: es) X.env = (false, eval e X.env) :: starEach es X.env := by rfl) (hpl : (backTo pos (starEach es X.env)).any (·.1) = false := by rfl) : XD X (.Call (.Name x ps) (e :: es) [] pos) G d R :=
  XD.of (pe_callTy hc hg hm hv pa_sem hn hdb he hpl) fun σ H M Q k hd hD hQ => ha.to σ H M _ k hd hD fun rs vs H1 hR e1 h1 => by
    obtain ⟨z, hz, hr⟩ := hr rs hR
    exact hr H1 M vs Q (k.dx hd e1).mu h1 fun v H2 e2 h2 => hQ z v H2 hz (e1.trans (.of_ex e1.dice e2)) h2
theorem xd_toInt {P : Int → Prop} (hm : X.mg "int" = none) (ha : XD X e G d (RP P)) (hg : Gl X "int" := by rfl) (hs : starEach [e] X.env = [(false, eval e X.env)] := by rfl) : XD X (.Call (.Name "int" ps) [e] [] pos) G d (RP P) :=
  xd_ct call_int1 hm (by decide +kernel) (xad_cons ha xad_nil hs) (fun rs ⟨r, qs, ⟨i, hi, h1⟩, h2, h3⟩ => ⟨rI i, ⟨i, hi, rfl⟩, fun H M vs Q hM h hQ => by
    subst h1 h2 h3
    obtain ⟨v, rfl, hv⟩ := h.one
    exact .inl ⟨i, by rw [show v = .int i from hv], hQ _ H (Ex.refl _) rfl⟩⟩) hg (by decide) (by decide) hs rfl
theorem xd_tuple (hm : X.mg "tuple" = none) (ha : XD X e G d (fun r => ∃ rs, RS rs ∧ r = rL rs)) (hg : Gl X "tuple" := by rfl) (hs : starEach [e] X.env = [(false, eval e X.env)] := by rfl) : XD X (.Call (.Name "tuple" ps) [e] [] pos) G d (fun r => ∃ rs, RS rs ∧ r = rT rs) :=
  xd_ct call_tuple_of hm (by decide +kernel) (xad_cons ha xad_nil hs) (fun rs0 ⟨r, qs, ⟨rs, hi, h1⟩, h2, h3⟩ => ⟨rT rs, ⟨rs, hi, rfl⟩, fun H M vs Q hM h hQ => by
    subst h1 h2 h3
    obtain ⟨v, rfl, ⟨t, ws, rfl, hS, hA⟩⟩ := h.one
    exact ⟨t, ws, rfl, .inl ⟨SqL.of (hide_le M H _ _ hS), fun l hl => hQ _ _ (Ex.new hl) ⟨l, ws, rfl, SqT.of (hide_new hM hl), hA.mono ((Ex.new hl).hide M)⟩⟩⟩⟩) hg (by decide) (by decide) hs rfl
/-- the dice read -/
theorem xd_dice {i : Int} (ho : XE X a G (rA d)) (hb : XE X b G (rI i)) (hi : i = 0 ∨ i = 1 ∨ i = 2) (hs : PlainIx b := by intro _ _; rfl) : XD X (.Subscript a b pos) G d (RP fun _ => True) :=
  XD.of (pe_ix ix_list pe_sem pe_sem hs) fun σ H M Q kn hd hD hQ => ho.to σ H M _ kn fun v H1 e1 h1 => hb.to σ H1 M _ (kn.ex e1) fun u H2 e2 h2 => by
    obtain rfl : v = .ref d := h1
    obtain rfl : u = .int i := h2
    obtain ⟨x, y, z, hh⟩ := hD.ex (e1.trans e2)
    have : ∃ w, atI [V.int x, .int y, .int z] i = some (.int w) := by rcases hi with rfl | rfl | rfl <;> exact ⟨_, rfl⟩
    obtain ⟨w, hw⟩ := this
    exact ⟨d, _, i, .int w, rfl, rfl, SqL.of hh, hw, hQ (rI w) _ H2 ⟨w, trivial, rfl⟩ (.of_ex hD (e1.trans e2)) rfl⟩
theorem xid_xi {tg iter : Expr} (h : XI X tg iter G rs) : XID X tg iter G d (fun qs => qs = rs) := ⟨fun σ H M R k hd hD hR => h.to σ H M R k fun J H1 e1 W => hR rs J H1 rfl (.of_ex hD e1) W⟩
theorem xid_range {tg : Expr} {P : Int → Prop} (hm : X.mg "range" = none) (ha : XD X e G d (RP P)) (hp : ∀ i, P i → 0 ≤ i ∧ i < 1000) (hg : Gl X "range" := by rfl) (hs : starEach [e] X.env = [(false, eval e X.env)] := by rfl) :
    XID X tg (.Call (.Name "range" ps) [e] [] pos) G d (fun rs => ∃ n : Nat, P n ∧ rs = (List.range n).map fun i : Nat => rI (i : Int)) :=
  ⟨fun σ H M R k hd hD hR pins s I => (pi_range1 (tg := tg) hg hm pa_sem hs).run pins s σ H R I ((xad_cons ha xad_nil hs).to σ H M _ k hd hD fun rs vs H1 ⟨r, qs, ⟨i, hi, h1⟩, h2, h3⟩ e1 hA => by
    subst h1 h2 h3
    obtain ⟨v, rfl, hv⟩ := hA.one
    have hb := hp i hi
    obtain ⟨n, rfl⟩ : ∃ n : Nat, i = n := ⟨i.toNat, by omega⟩
    refine ⟨(n : Int), by rw [show v = .int (n : Int) from hv], by omega, by omega, hR _ _ H1 ⟨n, hi, rfl⟩ e1 ?_⟩
    rw [show ((n : Int)).toNat = n by omega]
    refine ⟨fun H e => ?_, fun i H e hi => ?_, fun i H x H' e ⟨h1, h2⟩ hi => ?_⟩
    · show n ≤ _; simp
    · show i < n; simpa using hi
    · subst h1
      refine ⟨Ex.refl _, fun M hM eM => ⟨rI (i : Int), ?_, ?_⟩⟩
      · rw [List.getElem?_map, List.getElem?_range (by simpa using hi)]; rfl
      · rw [h2]; show V.int _ = V.int _; congr 1; omega)⟩
end
end
end TL
/-! Dice: comprehensions, defs, statements. -/
namespace TL
open PySem PySem.Spec PyProof.Rows L2
structure XTsD (X : Cx) (ifs : List Expr) (G : En) (d : Addr) (P : Bool → Prop) : Prop where
  to : ∃ f : TT, PTs X ifs f ∧ ∀ (σ : L2.St) (H : Hp) (M : List Addr) (Q : Bool → Hp → Prop), Kn G M σ H → d ∈ M → Dice H d → (∀ b H', P b → DX d H H' → Q b H') → f σ H Q
theorem XTsD.sem {X : Cx} {ifs : List Expr} {G : En} {d : Addr} {P : Bool → Prop} (h : XTsD X ifs G d P) (σ : L2.St) (H : Hp) (M : List Addr) (Q : Bool → Hp → Prop) (k : Kn G M σ H) (hd : d ∈ M) (hD : Dice H d) (hQ : ∀ b H', P b → DX d H H' → Q b H') : semTs X ifs σ H Q := fun pins s I => by
  obtain ⟨f, h1, h2⟩ := h.to
  exact h1.run pins s σ H Q I (h2 σ H M Q k hd hD hQ)
theorem xtsd_nil {X : Cx} {G : En} {d : Addr} : XTsD X [] G d (fun b => b = true) := ⟨tYes, pts_nil, fun σ H M Q k hd hD hQ => hQ true H rfl (.of_ex hD (Ex.refl _))⟩
theorem xtsd_one {X : Cx} {c : Expr} {G : En} {d : Addr} {P : Bool → Prop} (h : XDT X c G d P) : XTsD X [c] G d P := ⟨semT X c, pts_one pt_sem, h.to⟩
structure XBlD (X : Cx) (scope : Scope) (tg : Expr) (ifs : List Expr) (elt : Expr) (own : List (Str × Nat)) (G : En) (d : Addr) (q : Vp) (P : Bool → Prop) (F : Vp → Prop) : Prop where
  to : ∃ (G1 : En) (ts : List Nat), (∀ j ∈ ts, j ∈ own.map (·.2)) ∧ ∀ (s : Shared) (H0 : Hp) (C : Addr) (cl : List (Str × Addr)) (fp : List Addr),
    XG (X.blk s H0 scope (compEnvC scope cl C X.env) fp) tg q (wipeG G (own.map (·.2))) G1 ts ∧ XTsD (X.blk s H0 scope (compEnvC scope cl C X.env) fp) ifs G1 d P ∧ XD (X.blk s H0 scope (compEnvC scope cl C X.env) fp) elt G1 d F
/-- which of xs came in, with what -/
def LOk {α : Type} (nt : Bool) (xs : List α) (zs : List (α × Vp)) : Prop := if nt = true then zs.map (·.1) = xs else (zs.map (·.1)).Sublist xs
theorem LOk.len {α : Type} {nt : Bool} {xs : List α} {zs : List (α × Vp)} (h : LOk nt xs zs) : zs.length ≤ xs.length := by
  unfold LOk at h
  split at h
  · rw [← h, List.length_map]; exact Nat.le_refl _
  · have := h.length_le
    rwa [List.length_map] at this
theorem LOk.snoc {α : Type} {nt : Bool} {xs : List α} {zs : List (α × Vp)} {x : α} {f : Vp} (h : LOk nt xs zs) : LOk nt (xs ++ [x]) (zs ++ [(x, f)]) := by
  unfold LOk at h ⊢
  split
  · rename_i q
    rw [if_pos q] at h
    rw [List.map_append, h]; rfl
  · rename_i q
    rw [if_neg q] at h
    rw [List.map_append]
    exact h.append (List.Sublist.refl _)
theorem LOk.skip {α : Type} {xs : List α} {zs : List (α × Vp)} {x : α} (h : LOk false xs zs) : LOk false (xs ++ [x]) zs := by
  unfold LOk at h ⊢
  exact List.Sublist.trans h (List.sublist_append_left ..)
def LRes {α : Type} (nt : Bool) (xs : List α) (F : α → Vp → Prop) : Vp → Prop := fun r => ∃ zs : List (α × Vp), LOk nt xs zs ∧ (∀ z ∈ zs, F z.1 z.2) ∧ r = rL (zs.map (·.2))
section
variable [KK] {X : Cx} {elt tg iter : Expr} {ifs : List Expr} {scope : Scope} {own : List (Str × Nat)} {G : En} {pos : Pos} {α : Type} {XS' : List α → Prop} {qf : α → Vp} {F : α → Vp → Prop} {P : Bool → Prop} {nt : Bool} {d : Addr}
theorem lcD_read (hi : XID X tg iter G d (fun rs => ∃ xs, XS' xs ∧ rs = xs.map qf)) (hb : ∀ xs, XS' xs → ∀ x ∈ xs, XBlD X scope tg ifs elt own G d (qf x) P (F x)) (hnt : nt = true → ∀ b, P b → b = true) (hz : ∀ xs, XS' xs → xs.length < 1000)
    (σ : L2.St) (H : Hp) (M : List Addr) (Q : VK) (k : Kn G M σ H) (hd : d ∈ M) (hDi : Dice H d) (hQ : ∀ xs r v H', XS' xs → LRes nt xs F r → DX d H H' → r.p (hide M H') v → Q v H') :
    tLc (semI X tg iter) (bG X scope tg) (bT X scope ifs) (bE X scope elt) (own.map (·.2)) σ H Q := by
  refine hi.to σ H M _ k hd hDi fun rs0 J H1 hrs e1 WV D hD => ?_
  obtain ⟨xs, hxs, rfl⟩ := hrs
  have hz := hz xs hxs
  have hb := hb xs hxs
  have hM1 := (k.dx hd e1).mu
  have hDM : D ∉ M := fun z => by obtain ⟨o, h, _⟩ := hM1 D z; rw [hD] at h; cases h
  have hDd : D ≠ d := fun z => hDM (z ▸ hd)
  have hlen : (xs.map qf).length = xs.length := List.length_map ..
  have inv : ∀ (H2 : Hp), DX d H1 H2 → Ex (hide M H1) H2 := fun H2 e a o q => by
    by_cases hm : a ∈ M
    · rw [hide_in hm] at q; cases q
    · rw [hide_out hm] at q
      exact e.keep a o (fun z => hm (z ▸ hd)) q
  refine ⟨fun i m H2 => i + m = xs.length ∧ DX d H1 H2 ∧ ∃ (vs : List V) (zs : List (α × Vp)), H2 D = some (.lst vs) ∧ LOk nt (xs.take i) zs ∧ (∀ z ∈ zs, F z.1 z.2) ∧ AllP (hide (D :: M) H2) vs (zs.map (·.2)), ⟨xs.length, by omega, .of_ex e1.dice (Ex.new hD), [], [], upd_same, by unfold LOk; split <;> simp, by simp, trivial⟩, fun i m H2 ⟨hm, e2, vs, zs, hv, hL, hF, hA⟩ => ?_⟩
  by_cases hn : i = xs.length
  · refine .inl ⟨by rw [hn, ← hlen]; exact WV.stop H2 (inv H2 e2), hQ xs _ _ H2 hxs ⟨zs, by rw [hn, List.take_length] at hL; exact hL, hF, rfl⟩ (e1.trans e2) ⟨D, vs, rfl, by rw [hide_out hDM]; exact hv, ?_⟩⟩
    exact hA.mono (hide_sub (fun a h => List.mem_cons_of_mem _ h) H2)
  · have hlt : i < xs.length := by omega
    refine .inr ⟨WV.go i H2 (inv H2 e2) (by rw [hlen]; exact hlt), fun H' => i + 1 + (m - 1) = xs.length ∧ DX d H1 H' ∧ ∃ (vs : List V) (zs : List (α × Vp)), H' D = some (.lst vs) ∧ LOk nt (xs.take (i + 1)) zs ∧ (∀ z ∈ zs, F z.1 z.2) ∧ AllP (hide (D :: M) H') vs (zs.map (·.2)), fun H' h => ⟨m - 1, by omega, h⟩, fun x H3 hy => ?_⟩
    have hMD : ∀ a ∈ D :: M, ∃ o, H2 a = some o ∧ isM o = true := fun a h => by
      rcases List.mem_cons.mp h with rfl | h
      · exact ⟨_, hv, rfl⟩
      · by_cases q : a = d
        · subst q; obtain ⟨x, y, z, e⟩ := e2.dice; exact ⟨_, e, rfl⟩
        · obtain ⟨o, h1, h2⟩ := hM1 a h
          exact ⟨o, e2.keep _ _ q h1, h2⟩
    have eB : Ex (hide M H1) (hide (D :: M) H2) := fun a o q => by
      by_cases hm : a ∈ M
      · rw [hide_in hm] at q; cases q
      · rw [hide_out hm] at q
        have haD : a ≠ D := fun z => by rw [z, hD] at q; cases q
        rw [hide_out (by simp [haD, hm])]
        exact e2.keep a o (fun z => hm (z ▸ hd)) q
    obtain ⟨e3, hr⟩ := WV.yld i H2 x H3 (inv H2 e2) hy (by rw [hlen]; exact hlt)
    obtain ⟨r, hr1, hr2⟩ := hr (D :: M) hMD eB
    have hr1 := getElem_map' hr1 hlt
    subst hr1
    obtain ⟨G1, ts, hts, hX⟩ := (hb xs[i] (List.getElem_mem hlt)).to
    have e23 : DX d H1 H3 := e2.trans (.of_ex e2.dice e3)
    have hv3 : H3 D = some (.lst vs) := e3 _ _ hv
    have hA3 := hA.mono (e3.hide (D :: M))
    have hdD : d ∈ D :: M := List.mem_cons_of_mem _ hd
    have kM : Kn G M σ H3 := k.dx hd (e1.trans e23)
    have kD : Kn G (D :: M) σ H3 := by
      have k1 := k.dx hd e1
      refine ⟨fun i r q => ?_, fun a h => ?_, k.len⟩
      · obtain ⟨v, h1, h2⟩ := k1.get i r q
        refine ⟨v, h1, r.mono (fun a o q => ?_) h2⟩
        exact e3.hide (D :: M) a o (eB a o q)
      · obtain ⟨o, h1, h2⟩ := hMD a h
        exact ⟨o, e3 _ _ h1, h2⟩
    intro s H0 C cl fp
    obtain ⟨hg, _, _⟩ := hX s H0 C cl fp
    refine hg.to _ H3 (D :: M) x _ (kD.wipe _) hr2 fun σ2 k2 f2 => ⟨?_, fun s' H0' C' cl' fp' => ?_⟩
    · have hl : σ2.length = (wipe σ (own.map (·.2))).length := by
        rw [← k2.len, hg.len]
        exact (kD.wipe (own.map (·.2))).len
      rw [wipe_eq hl fun j hj => f2 j fun z => hj (hts j z)]
      exact wipe_eq (wipe_length _ _) fun j hj => wipe_out hj
    · refine (hX s' H0' C' cl' fp').2.1.sem σ2 H3 (D :: M) _ k2 hdD e23.dice fun b H4 hPb e4 => ?_
      have hv4 : H4 D = some (.lst vs) := e4.keep _ _ hDd hv3
      have hA4 := hA3.mono (e4.hide hdD)
      have htk : xs.take (i + 1) = xs.take i ++ [xs[i]] := by
        rw [List.take_succ, List.getElem?_eq_getElem hlt]; rfl
      cases b with
      | false =>
        rw [if_neg (by decide)]
        have hnt' : nt = false := by
          cases hh : nt with
          | false => rfl
          | true => exact absurd (hnt hh false hPb) (by decide)
        subst hnt'
        exact ⟨by omega, e23.trans e4, vs, zs, hv4, by rw [htk]; exact hL.skip, hF, hA4⟩
      | true =>
        rw [if_pos rfl]
        intro s'' H0'' C'' cl'' fp''
        refine (hX s'' H0'' C'' cl'' fp'').2.2.to σ2 H4 (D :: M) _ (k2.dx hdD e4) hdD e4.dice fun f y H5 hFf e5 h5 => ⟨vs, e5.keep _ _ hDd hv4, ?_, by omega, ⟨?_, ?_⟩, vs ++ [y], zs ++ [(xs[i], f)], upd_same, by rw [htk]; exact hL.snoc, fun z hz' => ?_, ?_⟩
        · have h1 := hA.len
          have h2 := hL.len
          rw [List.length_map] at h1
          have h3 := List.length_take_le i xs
          have h4 : (xs.take i).length = i := by rw [List.length_take]; omega
          show _ < 2 ^ 24
          omega
        · intro a o ha h
          rw [upd_ne (fun z => by rw [z, hD] at h; cases h)]
          exact ((e23.trans e4).trans e5).keep a o ha h
        · obtain ⟨x', y', z', hh⟩ := e5.dice
          exact ⟨x', y', z', by rw [upd_ne (fun z => hDd z.symm)]; exact hh⟩
        · rcases List.mem_append.mp hz' with hz' | hz'
          · exact hF z hz'
          · obtain rfl := List.mem_singleton.mp hz'
            exact hFf
        · have eu : Ex (hide (D :: M) H5) (hide (D :: M) (upd H5 D (.lst (vs ++ [y])))) := fun a o h => by
            by_cases q : a ∈ D :: M
            · rw [hide_in q] at h; cases h
            · rw [hide_out q] at h ⊢
              rw [upd_ne (fun z => q (by rw [z]; exact List.mem_cons_self))]
              exact h
          rw [List.map_append]
          exact ((hA4.mono ((e5.hide hdD).trans eu))).append ⟨f.mono eu h5, trivial⟩
theorem xd_lc (nt : Bool) (hN : X.N.Nodup) (ok : BlkOk X.N X.env.scope scope own) (hi : XID X tg iter G d (fun rs => ∃ xs, XS' xs ∧ rs = xs.map qf)) (hb : ∀ xs, XS' xs → ∀ x ∈ xs, XBlD X scope tg ifs elt own G d (qf x) P (F x)) (hnt : nt = true → ∀ b, P b → b = true) (hz : ∀ xs, XS' xs → xs.length < 1000) (hc : X.calm = true := by rfl)
    (hs : ∀ x, foldedSetIterable iter X.env x = pure x := by intro _; rfl) : XD X (.ListComp elt [⟨tg, iter, ifs, 0⟩] scope pos) G d (fun r => ∃ xs, XS' xs ∧ LRes nt xs F r) :=
  XD.of (pe_lc hc hN pi_sem ok bG_ok bT_ok bE_ok hs) fun σ H M Q k hd hD hQ => lcD_read hi hb hnt hz σ H M Q k hd hD fun xs r v H' h1 h2 => hQ r v H' ⟨xs, h1, h2⟩
end
/-! ### statements -/
section
variable {X : Cx} {B : Hp} {N : List Addr} {G G' : En} {Ms : MS} {D : Ends} {rt : VK} {bk ct : L2.St → Hp → Prop} {e a b c o : Expr} {es : List Expr} {r : Vp} {rs : List Vp} {pos pos' : Pos} {x y z : Str} {ts : List Nat} {d : Addr} {R : Vp → Prop} {st : Stmt}
theorem xsd_set (i : Nat) (hN : X.N.Nodup) (he : XD X e G d R) (hi : X.N[i]? = some x := by rfl) (hx : Loc X.env.scope x := by first | exact Or.inl rfl | exact Or.inr rfl)
    (hs : swapsWith e (some (.Name x pos')) pos.line X.env = pure false := by rfl) (hf : X.fn x = true ∨ X.env.scope.names.lookup x = some .local := by first | exact .inl rfl | exact .inr rfl) :
    XS X (.Assign [.Name x pos'] e pos) (Env B N [d] G Ms) ⟨fun σ H => ∃ r, R r ∧ Env B N [d] (G.set i (some r)) Ms σ H, rt, bk, ct⟩ :=
  XS.of (ps_set hN hi hx pe_sem hs hf) fun σ H E => he.to σ H _ _ E.kn E.din E.dd fun r v H1 hr e1 h1 => ⟨r, hr, (E.dx e1).set h1⟩
theorem xsd_setLc [KK] (i : Nat) (nt : Bool) {α : Type} {XS' : List α → Prop} {qf : α → Vp} {F : α → Vp → Prop} {P : Bool → Prop} {elt tg iter : Expr} {ifs : List Expr} {scope : Scope} {own : List (Str × Nat)} {py : Pos} (hN : X.N.Nodup) (ok : BlkOk X.N X.env.scope scope own)
    (hi : XID X tg iter G d (fun rs => ∃ xs, XS' xs ∧ rs = xs.map qf)) (hb : ∀ xs, XS' xs → ∀ x ∈ xs, XBlD X scope tg ifs elt own G d (qf x) P (F x)) (hnt : nt = true → ∀ b, P b → b = true) (hz : ∀ xs, XS' xs → xs.length < 1000)
    (hy : X.N[i]? = some y := by rfl) (hyl : X.env.scope.names.lookup y = some .local := by rfl) (hk : X.env.scope.kind = .function := by rfl) (hl : (py.line == pos.line) = true := by rfl) (ha : (scope.names.any fun (n, k) => n == y && (k == .local || k == .cell)) = false := by decide +kernel) (hc : X.calm = true := by rfl)
    (hs : ∀ x, foldedSetIterable iter X.env x = pure x := by intro _; rfl) : XS X (.Assign [.Name y py] (.ListComp elt [⟨tg, iter, ifs, 0⟩] scope pos) pos') (Env B N [d] G Ms) ⟨fun σ H => ∃ r, (∃ xs, XS' xs ∧ LRes nt xs F r) ∧ Env B N [d] (G.set i (some r)) Ms σ H, rt, bk, ct⟩ :=
  XS.of (ps_setLc hc hN hy hyl (sw_true hk hyl hl ha) pi_sem ok bG_ok bT_ok bE_ok hs) fun σ H E => lcD_read hi hb hnt hz σ H _ _ E.kn E.din E.dd fun xs r v H1 h1 h2 e1 h3 => ⟨r, ⟨xs, h1, h2⟩, (E.dx e1).set h3⟩
theorem xsd_asg {tg : Expr} {Gr : Vp → En} (he : XD X e G d R) (hg : ∀ r, R r → ∃ ts, XG X tg r G (Gr r) ts) (hs : swapsWithSole [tg] e pos.line X.env = pure false := by rfl) (hw : swappedStores [tg] e X.env = pure none := by rfl) (h1 : (assignEach [tg] X.env).map (·.2) = [assign tg X.env] := by rfl) :
    XS X (.Assign [tg] e pos) (Env B N [d] G Ms) ⟨fun σ H => ∃ r, R r ∧ Env B N [d] (Gr r) Ms σ H, rt, bk, ct⟩ :=
  XS.of (ps_asg pe_sem pg_sem hs hw h1) fun σ H E => he.to σ H _ _ E.kn E.din E.dd fun r v H1 hr e1 h1 => by
    obtain ⟨ts, hg⟩ := hg r hr
    exact hg.to σ H1 _ v _ (E.dx e1).kn h1 fun σ' k' _ => ⟨r, hr, (E.dx e1).re k'⟩
theorem xsd_if {P : Bool → Prop} {s1 s2 : List Stmt} (hc : XDT X c G d P) (h1 : P true → XB X s1 (Env B N [d] G Ms) D) (h2 : P false → XB X s2 (Env B N [d] G Ms) D) : XS X (.If c s1 s2 pos) (Env B N [d] G Ms) D :=
  XS.of (ps_if pt_sem pss_sem pss_sem) fun σ H E => hc.to σ H _ _ E.kn E.din E.dd fun k H1 hk e1 => by
    cases k with
    | true => rw [if_pos rfl]; exact (h1 hk).to σ H1 (E.dx e1)
    | false => rw [if_neg (by decide)]; exact (h2 hk).to σ H1 (E.dx e1)
theorem xsd_par_vm (i j : Nat) {px py pt pl : Pos} {kt k2 pt2} (hN : X.N.Nodup) (ha : XD X a G d R) (hij : i ≠ j := by decide) (hi : X.N[i]? = some x := by rfl) (hj : X.N[j]? = some y := by rfl)
    (hx : X.env.scope.names.lookup x = some .local := by rfl) (hy : X.env.scope.names.lookup y = some .local := by rfl) (hc : X.calm = true := by rfl)
    (hw : swappedStores [.Tuple [.Name x px, .Name y py] kt pt] (.Tuple [a, .List [] pl] k2 pt2) X.env = pure (some [x, y]) := by rfl)
    (hs : swapsWithSole [.Tuple [.Name x px, .Name y py] kt pt] (.Tuple [a, .List [] pl] k2 pt2) pos.line X.env = pure false := by rfl)
    (hs1 : starEach [a, .List [] pl] X.env = (false, eval a X.env) :: starEach [.List [] pl] X.env := by rfl) (hs2 : starEach [.List [] pl] X.env = (false, eval (.List [] pl) X.env) :: starEach [] X.env := by rfl) :
    XS X (.Assign [.Tuple [.Name x px, .Name y py] kt pt] (.Tuple [a, .List [] pl] k2 pt2) pos) (Env B N [d] G Ms) ⟨fun σ H => ∃ r l, R r ∧ Env B N [d] ((G.set i (some r)).set j (some (rA l))) (Ms ++ [(l, [])]) σ H, rt, bk, ct⟩ :=
  XS.of (ps_par hc hN hi hj hij hx hy (pa_cons pe_sem (pa_cons (pe_lst pa_nil) pa_nil hs2) hs1) hw hs) fun σ H E => ha.to σ H _ _ E.kn E.din E.dd fun p v H1 hp e1 h1 => ⟨by decide, fun t ht => ⟨v, .ref t, rfl, by
    have E2 := (E.dx e1).newM (rs := []) (vs := []) ht trivial
    exact ⟨p, t, hp, (E2.set (r := p) (v := v) (p.mono (hide_snoc ht) h1)).set rfl⟩⟩⟩
theorem Env.contx (E : Env B N [d] G Ms σ H) {H' : Hp} (e : DX d H H') {k : Nat} {p : Addr} {qs : List Vp} (hk : Ms[k]? = some (p, qs)) {vs : List V} (hv : H p = some (.lst vs)) : H' p = some (.lst vs) :=
  e.keep p _ (fun z => by
    have nd := E.nd
    have := (List.nodup_cons.mp nd).1
    exact this (List.mem_map.mpr ⟨(p, qs), List.mem_of_getElem? hk, z⟩)) hv
/-- xs.append(e) -/
theorem xsd_app [KK] {p : Addr} {qs : List Vp} {apos : Pos} (k : Nat) (ho : XE X o G (rA p)) (he : XD X e G d R) (hk : Ms[k]? = some (p, qs) := by rfl) (hl : qs.length < 1000)
    (hbase : attributeBase o "append" X.env (eval o X.env) = eval o X.env := by rfl)
    (hfew : ((backTo pos (starEach [e] X.env)).all (fun x => !x.1) && (backToKw pos (keywordEach [] X.env)).all (fun x => x.1.isSome) && decide ([e].length + ([] : List Keyword).length + (if ([] : List Keyword).isEmpty then 0 else 1) < 30)) = true := by rfl)
    (hline : (apos.endLine == pos.line) = true := by rfl) (hs : starEach [e] X.env = (false, eval e X.env) :: starEach [] X.env := by rfl) (hpl : (backTo pos (starEach [] X.env)).any (·.1) = false := by rfl)
    (hs2 : swapsWith (.Call (.Attribute o "append" apos) [e] [] pos) none pos'.line X.env = pure false := by rfl) :
    XS X (.Expr (.Call (.Attribute o "append" apos) [e] [] pos) pos') (Env B N [d] G Ms) ⟨fun σ H => ∃ r, R r ∧ Env B N [d] G (Ms.set k (p, qs ++ [r])) σ H, rt, bk, ct⟩ :=
  XS.of (ps_expr (pe_bm PySem.F.plainAttrs_list PySem.F.slot_list_append PySem.F.type_list_append mt_append pe_sem pa_sem hbase hfew hline hs hpl) hs2) fun σ H E => ho.to σ H _ _ E.kn fun v H1 e1 h1 => by
    have E1 := E.ex e1
    obtain rfl : v = .ref p := h1
    obtain ⟨vs, hv, hA⟩ := E1.cont (p, qs) (List.mem_of_getElem? hk)
    refine ⟨.inl ⟨rfl, _, SqL.of hv⟩, (xad_cons he xad_nil hs).to σ H1 _ _ E1.kn E1.din E1.dd fun ss us H2 ⟨r, ss', hr, h3, h4⟩ e2 h2 => ?_⟩
    subst h3 h4
    obtain ⟨u, rfl, hu⟩ := h2.one
    refine ⟨p, vs, u, rfl, rfl, E1.contx e2 hk hv, by rw [hA.len]; show qs.length < 2 ^ 24; omega, r, hr, ?_⟩
    exact (E1.dx e2).wr hk ((hA.mono (e2.hide E1.din)).append ⟨hu, trivial⟩)
/-- xs.extend(e), e a list made -/
theorem xsd_ext [KK] {p : Addr} {qs : List Vp} {apos : Pos} {RS : List Vp → Prop} (k : Nat) (ho : XE X o G (rA p)) (he : XD X e G d (fun r => ∃ rs, RS rs ∧ r = rL rs)) (hl : ∀ rs, RS rs → qs.length + rs.length ≤ 1000) (hk : Ms[k]? = some (p, qs) := by rfl)
    (hbase : attributeBase o "extend" X.env (eval o X.env) = eval o X.env := by rfl)
    (hfew : ((backTo pos (starEach [e] X.env)).all (fun x => !x.1) && (backToKw pos (keywordEach [] X.env)).all (fun x => x.1.isSome) && decide ([e].length + ([] : List Keyword).length + (if ([] : List Keyword).isEmpty then 0 else 1) < 30)) = true := by rfl)
    (hline : (apos.endLine == pos.line) = true := by rfl) (hs : starEach [e] X.env = (false, eval e X.env) :: starEach [] X.env := by rfl) (hpl : (backTo pos (starEach [] X.env)).any (·.1) = false := by rfl)
    (hs2 : swapsWith (.Call (.Attribute o "extend" apos) [e] [] pos) none pos'.line X.env = pure false := by rfl) :
    XS X (.Expr (.Call (.Attribute o "extend" apos) [e] [] pos) pos') (Env B N [d] G Ms) ⟨fun σ H => ∃ rs, RS rs ∧ Env B N [d] G (Ms.set k (p, qs ++ rs)) σ H, rt, bk, ct⟩ :=
  XS.of (ps_expr (pe_bm PySem.F.plainAttrs_list PySem.F.slot_list_extend PySem.F.type_list_extend mt_extend pe_sem pa_sem hbase hfew hline hs hpl) hs2) fun σ H E => ho.to σ H _ _ E.kn fun v H1 e1 h1 => by
    have E1 := E.ex e1
    obtain rfl : v = .ref p := h1
    obtain ⟨vs, hv, hA⟩ := E1.cont (p, qs) (List.mem_of_getElem? hk)
    refine ⟨.inl ⟨rfl, _, SqL.of hv⟩, (xad_cons he xad_nil hs).to σ H1 _ _ E1.kn E1.din E1.dd fun ss us H2 ⟨r, ss', ⟨rs, hr, h5⟩, h3, h4⟩ e2 h2 => ?_⟩
    subst h3 h4 h5
    obtain ⟨u, rfl, t, zs, rfl, hS, hA2⟩ := h2.one
    have l1 := hA.len
    have l2 := hA2.len
    have l3 := hl rs hr
    refine ⟨p, t, vs, zs, rfl, rfl, E1.contx e2 hk hv, hide_le _ _ _ _ hS, by simp only at l1; show _ ≤ 2 ^ 24; omega, rs, hr, ?_⟩
    exact (E1.dx e2).wr hk ((hA.mono (e2.hide E1.din)).append hA2)
/-- d[i] = e -/
theorem xsd_put {P : Int → Prop} {i : Expr} {k : Int} (ho : XE X o G (rA d)) (hb : XE X i G (rI k)) (hk : k = 0 ∨ k = 1 ∨ k = 2) (he : XD X e G d (RP P)) (hs : swapsWithSole [.Subscript o i pos'] e pos.line X.env = pure false := by rfl) (hw : swappedStores [.Subscript o i pos'] e X.env = pure none := by rfl) (h1 : (assignEach [.Subscript o i pos'] X.env).map (·.2) = [assign (.Subscript o i pos') X.env] := by rfl)
    (ha : ∀ v, assign (.Subscript o i pos') X.env v = (do
      let ov ← holding [v] (eval o X.env)
      let iv ← holding [v, ov] (eval i X.env)
      standAt pos'
      holding [v, ov, iv] (setItem ov iv v)
      release [v, ov, iv] []) := by intro _; rfl) :
    XS X (.Assign [.Subscript o i pos'] e pos) (Env B N [d] G Ms) ⟨Env B N [d] G Ms, rt, bk, ct⟩ :=
  XS.of (ps_asg pe_sem (pg_sub pe_sem pe_sem set_list ha) hs hw h1) fun σ H E => he.to σ H _ _ E.kn E.din E.dd fun r v H1 hr e1 hv => ho.to σ H1 _ _ (E.dx e1).kn fun ov H2 e2 h2 => hb.to σ H2 _ _ ((E.dx e1).ex e2).kn fun iv H3 e3 h3 => by
    have E3 := ((E.dx e1).ex e2).ex e3
    obtain ⟨j, hj, rfl⟩ := hr
    obtain rfl : v = .int j := hv
    obtain rfl : ov = .ref d := h2
    obtain rfl : iv = .int k := h3
    obtain ⟨x, y, z, hh⟩ := E3.dd
    have : ∃ n x' y' z', ixN [V.int x, .int y, .int z].length k = some n ∧ [V.int x, .int y, .int z].set n (.int j) = [.int x', .int y', .int z'] := by
      rcases hk with rfl | rfl | rfl
      · exact ⟨0, _, _, _, rfl, rfl⟩
      · exact ⟨1, _, _, _, rfl, rfl⟩
      · exact ⟨2, _, _, _, rfl, rfl⟩
    obtain ⟨n, x', y', z', hn, hset⟩ := this
    refine ⟨d, _, k, n, rfl, rfl, hh, hn, ?_⟩
    rw [hset]
    refine E3.dx ⟨fun a o ha q => ?_, x', y', z', upd_same⟩
    rw [upd_ne ha]
    exact q
theorem xsd_for [KK] {A : Type} {tg iter : Expr} {body : List Stmt} {RS : List Vp → Prop} (I : Nat → A → Prop) (Gf : Nat → A → En) (Mf : Nat → A → MS) (hi : XID X tg iter G d RS) (a0 : A) (h0 : I 0 a0) (hG : GSub (Gf 0 a0) G) (hM : Mf 0 a0 = Ms)
    (hs : ∀ rs, RS rs → ∀ B' i p a, Ex B B' → B' d = none → rs[i]? = some p → I i a → ∃ G1 ts, XG X tg p (Gf i a) G1 ts ∧ XB X body (Env B' N [d] G1 (Mf i a)) { D with nx := Nx B' N [d] I Gf Mf (i + 1), ct := Nx B' N [d] I Gf Mf (i + 1), bk := D.nx })
    (hd : ∀ rs, RS rs → ∀ a, I rs.length a → ∀ σ H, Env B N [d] (Gf rs.length a) (Mf rs.length a) σ H → D.nx σ H)
    (hp : PassesOwn (model X.prog X.w) X.A X.env X.xe := by exact PassesOwn.never) (hc : X.calm = true := by rfl) (hf : ∀ x, foldedSetIterable iter X.env x = pure x := by intro _; rfl) :
    XS X (.For tg iter body [] pos) (Env B N [d] G Ms) D :=
  XS.of (ps_for hp hc pi_sem pg_sem pss_sem hf) fun σ H E => hi.to σ H _ _ E.kn E.din E.dd fun rs J H1 hRS e1 WV => by
    have hs := hs rs hRS
    have hd := hd rs hRS
    have E1 := E.dx e1
    have eB : Ex B (hide ([d] ++ Ms.map (·.1)) H1) := fun a o h => by
      rw [hide_out fun z => by rw [E.new a z] at h; cases h]
      exact E1.base a o h
    have old1 : ∀ a ∈ N, ∃ o, (hide ([d] ++ Ms.map (·.1)) H1) a = some o ∧ isM o = true := fun a ha => by
      obtain ⟨o, h1, h2⟩ := E.old a ha
      exact ⟨o, eB _ _ h1, h2⟩
    have start : Env (hide ([d] ++ Ms.map (·.1)) H1) N [d] G Ms σ H1 := ⟨E1.kn, E1.cont, E1.nd, hide_le _ _, fun a ha => hide_in ha, old1, E1.dice⟩
    have eB0 : Ex (hide (hid N [d] Ms) H1) (hide ([d] ++ Ms.map (·.1)) H1) := hide_sub (fun a h => List.mem_append_right _ h) H1
    have hN0 : ∀ a ∈ N, hide (hid N [d] Ms) H1 a = none := fun a ha => hide_in (List.mem_append_left _ ha)
    refine ⟨fun i m σ H => i + m = rs.length ∧ Nx (hide ([d] ++ Ms.map (·.1)) H1) N [d] I Gf Mf i σ H, ⟨rs.length, by omega, a0, h0, by rw [hM]; exact start.sub hG⟩, fun i m σ2 H2 ⟨hm, a, hI, E2⟩ => ?_⟩
    have e2 : Ex (hide (hid N [d] Ms) H1) H2 := eB0.trans E2.base
    by_cases hn : i = rs.length
    · subst hn
      exact .inl ⟨WV.stop H2 e2, hd a hI σ2 H2 (E2.low eB E.old)⟩
    · have hlt : i < rs.length := by omega
      refine .inr ⟨WV.go i H2 e2 hlt, Nx (hide ([d] ++ Ms.map (·.1)) H1) N [d] I Gf Mf (i + 1), fun σ' H' h => ⟨m - 1, by omega, by omega, h⟩, fun v H3 hy => ?_⟩
      obtain ⟨e3, hr⟩ := WV.yld i H2 v H3 e2 hy hlt
      have hM2 : Ex (hide (hid N [d] Ms) H1) (hide (hid N [d] (Mf i a)) H2) := fun b o h => by
        have hb : b ∉ hid N [d] (Mf i a) := fun z => by
          unfold hid at z
          rcases List.mem_append.mp z with z | z
          · rw [hN0 b z] at h; cases h
          · have := E2.new b z
            rw [eB0 b o h] at this; cases this
        rw [hide_out hb]
        exact e2 b o h
      obtain ⟨p, hp1, hp2⟩ := hr _ E2.kn.mu hM2
      obtain ⟨G1, ts, hg, hb⟩ := hs _ i p a eB (hide_in (by simp)) hp1 hI
      exact hg.to σ2 H3 _ v _ (E2.ex e3).kn hp2 fun σ3 k3 _ => hb.to σ3 H3 ((E2.ex e3).re k3)
/-- what a def that rolls is to reach -/
def EndsD (d : Addr) (H0 : Hp) (N : List Addr) (R : Vp → Prop) : Ends := { nx := fun _ H' => ∃ r, R r ∧ DX d H0 H' ∧ r.p (hide (d :: N) H') .non, rt := fun v H' => ∃ r, R r ∧ DX d H0 H' ∧ r.p (hide (d :: N) H') v }
theorem dx_of {H0 : Hp} (hB : Ex (hide [d] H0) B) (E : Env B N [d] G Ms σ H) : DX d H0 H := ⟨fun a o ha q => E.base a o (hB a o (by rw [hide_out (by simpa using ha)]; exact q)), E.dd⟩
theorem xsd_ret {H0 : Hp} (he : XD X e G d R) (hB : Ex (hide [d] H0) B) : XS X (.Return (some e) pos) (Env B N [d] G Ms) ⟨fun _ _ => False, (EndsD d H0 N R).rt, bk, ct⟩ :=
  XS.of (ps_ret pe_sem) fun σ H E => he.to σ H _ _ E.kn E.din E.dd fun r v H1 hr e1 h1 => ⟨r, hr, dx_of hB (E.dx e1), r.mono (hide_sub (fun a h => by
    unfold hid
    rcases List.mem_cons.mp h with rfl | h
    · simp
    · exact List.mem_append_left _ h) H1) h1⟩
end
section
variable [KK] {P : Program} {w : World} {mg : Str → Option Value} {base : Heap}
theorem fnD_ok {S : List Vp → (Vp → Prop) → Prop} {x qual : Str} {st : Stmt} {f : Addr} {fd : FuncData} {N ps : List Str} {k : Nat} (F : FunD KK.K x qual (defArgs st) (defBody st) (defScope st) [] [] f fd) (hm : mg x = some (.ref f))
    (hb : ∀ (kV doc pm : Value) (an : Option Addr) (cdv ct : Value) (us : List Value), us.length = ps.length → bindArgs (PySem.W.fnOf x qual (defArgs st) (defBody st) (defScope st) .none kV doc pm an cdv ct) ⟨us, []⟩ = pure (ps.zip us))
    (sc : FnScope N ps (defScope st)) (hle : ps.length ≤ N.length) (hlen : ∀ rs R, S rs R → rs.length + 1 = ps.length)
    (body : ∀ (cdv : Value) (A : Around) (outer : List PySem.Env) (s : Shared) (H : Hp) (E : XK) (d : Addr) (M : List Addr) (rs : List Vp) (R : Vp → Prop), Room k (A.deeper (envOfC qual (defScope st) s.heap.objs.size f cdv)) → S rs R →
      XB (Cx.nox (cxOf CX0 P w KK.K mg base N qual (defScope st) f cdv A outer s H E)) (defBody st) (Env (hide [d] H) M [d] ((rA d :: rs).map some ++ List.replicate (N.length - ps.length) none) []) (EndsD d H M R)) :
    Fn P w mg base x (k + 1) (spD S) := by
  refine ⟨f, fd, ps, F.ok sc (fun vs H Q E h => ?_) (fun cdv A outer s H vs Q E hr h => ?_), hm, F.kp, F.bindsN hb⟩
  · obtain ⟨d, M, ws, rs, R, rfl, hD, hdM, hM, hS, hA, hQ⟩ := h
    rw [List.length_cons, hA.len, hlen rs R hS]
  · obtain ⟨d, M, ws, rs, R, rfl, hD, hdM, hM, hS, hA, hQ⟩ := h
    refine ⟨_, PSs.nox pss_sem, ?_⟩
    have hM' : ∀ a ∈ d :: M, ∃ o, H a = some o ∧ isM o = true := fun a ha => by
      rcases List.mem_cons.mp ha with rfl | ha
      · obtain ⟨x, y, z, e⟩ := hD; exact ⟨_, e, rfl⟩
      · exact hM a ha
    have E0 : Env (hide [d] H) M [d] ((rA d :: rs).map some ++ List.replicate (N.length - ps.length) none) [] (L2.start N (.ref d :: ws)) H := by
      have hh : hide (hid M [d] []) H = hide (d :: M) H := hide_eq (fun a => by unfold hid; simp [or_comm]) H
      have k0 := kn_start (N := N) (ps := ps) (M := d :: M) (H := H) (vs := .ref d :: ws) (rs := rA d :: rs) (hlen rs R hS) hle ⟨rfl, hA⟩ hM'
      refine ⟨⟨fun i r q => ?_, fun a ha => hM' a (by unfold hid at ha; simp at ha ⊢; exact ha.symm), k0.len⟩, fun m hm => (nomatch hm), by simp, hide_le _ _, fun a ha => hide_in (by simpa using ha), fun a ha => ?_, fun a ha => ?_⟩
      · rw [hh]; exact k0.get i r q
      · obtain ⟨o, h1, h2⟩ := hM a ha
        exact ⟨o, by rw [hide_out (by simp; exact fun z => hdM (z ▸ ha))]; exact h1, h2⟩
      · obtain rfl : a = d := by simpa using ha
        exact hD
    exact semB_le ((body cdv A outer s H E d M rs R hr hS).to _ H E0) ⟨fun σ H' ⟨r, h1, h2, h3⟩ => hQ r _ H' h1 h2 h3, fun v H' ⟨r, h1, h2, h3⟩ => hQ r v H' h1 h2 h3, fun _ _ h => h, fun _ _ h => h⟩
end
end TL
namespace M33
open PySem PySem.Spec PyProof.Rows L2 TL
section
variable [KK] {P : Program} {w : World} {mg : Str → Option Value} {base : Heap}
theorem xe_gtup {X : Cx} {G : En} {x : Str} {pos : Pos} {vs : List V} {rs : List Vp} {f : Addr} (hm : X.mg x = some (.ref f)) (hT : ∀ H, SqT KK.K H f vs) (hA : ∀ H, AllP H vs rs) (hg : Gl X x := by rfl) (hd : (x == ("__debug__" : Str)) = false := by decide) : XE X (.Name x pos) G (rT rs) :=
  xe_gl (v := .ref f) hm rfl (fun H => ⟨f, vs, rfl, hT H, hA H⟩) hg hd
theorem exAll (T : Txt mg) : tupEx KK.K = true ∧ exB KK.K = true := by
  have h := (He.ba T.c.ex).1
  exact ⟨(He.ba h).1, h⟩
theorem xe_gt_ZERO {X : Cx} {G : En} {pos : Pos} (T : Txt mg) (hm : X.mg = mg := by rfl) (hg : Gl X "ZERO" := by rfl) : XE X (.Name "ZERO" pos) G (rF 0) := by
  have h := (exAll T).1
  exact xe_gtup (f := He.ga KK.K "ZERO") (by rw [hm]; exact T.g_ZERO) (fun H => He.tupB_ok (He.ba h).1 H) (fun H => ⟨rfl, rfl, trivial⟩) hg
theorem xe_gt_ALL {X : Cx} {G : En} {pos : Pos} (T : Txt mg) (hm : X.mg = mg := by rfl) (hg : Gl X "ALL" := by rfl) : XE X (.Name "ALL" pos) G (rG (0, 4)) := by
  have h := (exAll T).1
  exact xe_gtup (f := He.ga KK.K "ALL") (by rw [hm]; exact T.g_ALL) (fun H => He.tupB_ok (He.ba (He.ba h).2).1 H) (fun H => ⟨rfl, rfl, trivial⟩) hg
theorem xe_gt_WORDS {X : Cx} {G : En} {pos : Pos} (T : Txt mg) (hm : X.mg = mg := by rfl) (hg : Gl X "WORDS" := by rfl) : XE X (.Name "WORDS" pos) G (rT [rS "stay", rS "low", rS "high", rS "enter"]) := by
  have h := (exAll T).1
  exact xe_gtup (f := He.ga KK.K "WORDS") (by rw [hm]; exact T.g_WORDS) (fun H => He.tupB_ok (He.ba (He.ba h).2).2 H) (fun H => ⟨rfl, rfl, rfl, rfl, trivial⟩) hg
/-! ### whole numbers -/
structure Kd (p : Vp) (i b : Bool) : Prop where
  ex : ∃ t, HasTy p t ∧ L2.kitB t "int" = some i ∧ L2.kitB t "bool" = some b
def isInt : D → Bool
  | .int _ => true
  | _ => false
theorem kd_D (d : D) : ∃ i b, Kd (rD d) i b ∧ (i && !b) = isInt d := by
  cases d with
  | non => exact ⟨false, false, ⟨"NoneType", inferInstanceAs (HasTy (rD .non) (tyD .non)), by decide +kernel, by decide +kernel⟩, rfl⟩
  | bl b => exact ⟨true, true, ⟨"bool", inferInstanceAs (HasTy (rD (.bl b)) (tyD (.bl b))), by decide +kernel, by decide +kernel⟩, rfl⟩
  | int i => exact ⟨true, false, ⟨"int", inferInstanceAs (HasTy (rD (.int i)) (tyD (.int i))), by decide +kernel, by decide +kernel⟩, rfl⟩
  | lst ds => exact ⟨false, false, ⟨"list", inferInstanceAs (HasTy (rD (.lst ds)) (tyD (.lst ds))), by decide +kernel, by decide +kernel⟩, rfl⟩
  | tup ds => exact ⟨false, false, ⟨"tuple", inferInstanceAs (HasTy (rD (.tup ds)) (tyD (.tup ds))), by decide +kernel, by decide +kernel⟩, rfl⟩
def S_is_whole (rs : List Vp) (r : Vp) : Prop := ∃ d, rs = [rD d] ∧ r = rB (isInt d)
theorem ok_is_whole (T : Txt mg) : Fn P w mg base "is_whole" 1 (spF S_is_whole) := by
  obtain ⟨fd, F⟩ := T.fd_is_whole
  have nd : (["value"] : List Str).Nodup := by decide +kernel
  refine fn_ok (N := ["value"]) (ps := ["value"]) F T.g_is_whole (fun _ _ _ _ _ _ us hl => match us, hl with | [_], _ => rfl) ⟨rfl, rfl, rfl, nd, rfl, by decide +kernel, by decide +kernel⟩ (by decide)
    (by intro rs r hS; obtain ⟨d, rfl, rfl⟩ := hS <;> rfl) fun cdv A outer s H E M rs r hr hS => ?_
  have hB := Ex.refl H
  obtain ⟨d, rfl, rfl⟩ := hS
  obtain ⟨i, b, ⟨t, ht, h1, h2⟩, e⟩ := kd_D d
  rw [← e]
  exact xb_cons (xs_retR (xe_and (xe_isi T.f_isinstance (xe_var 0) (xe_ty T.f_int boot_int) h1) fun _ => xe_one (xe_not (xe_isi T.f_isinstance (xe_var 0) (xe_ty T.f_bool boot_bool) h2))) hB) xb_dead
def S_is_short (rs : List Vp) (r : Vp) : Prop := ∃ d, rs = [rD d] ∧ r = rB (isShort d)
theorem ok_is_short (T : Txt mg) : Fn P w mg base "is_short" 2 (spF S_is_short) := by
  obtain ⟨fd, F⟩ := T.fd_is_short
  have nd : (["value"] : List Str).Nodup := by decide +kernel
  refine fn_ok (N := ["value"]) (ps := ["value"]) F T.g_is_short (fun _ _ _ _ _ _ us hl => match us, hl with | [_], _ => rfl) ⟨rfl, rfl, rfl, nd, rfl, by decide +kernel, by decide +kernel⟩ (by decide)
    (by intro rs r hS; obtain ⟨d, rfl, rfl⟩ := hS <;> rfl) fun cdv A outer s H E M rs r hr hS => ?_
  have hB := Ex.refl H
  obtain ⟨d, rfl, rfl⟩ := hS
  by_cases hi : ∃ i, d = .int i
  · obtain ⟨i, rfl⟩ := hi
    exact (xb_cons (xs_retR ((xe_and (k := true) (xe_call (ok_is_whole T) hr (xa_cons (xe_var 0) xa_nil) ⟨.int i, rfl, rfl⟩) fun _ => (xe_one (xe_ltlt (xe_neg (xe_gi T.i_GREATEST)) ((xe_var 0).cast (rD_int i)) (xe_gi T.i_GREATEST)))).cast (by rw [isShort, Bool.true_and]; rfl)) hB) xb_dead)
  · have h1 : isInt d = false := by cases d <;> first | rfl | exact absurd ⟨_, rfl⟩ hi
    have h2 : isShort d = false := by cases d <;> first | rfl | exact absurd ⟨_, rfl⟩ hi
    rw [h2]
    exact (xb_cons (xs_retR (xe_and (k := false) (l := false) (xe_call (ok_is_whole T) hr (xa_cons (xe_var 0) xa_nil) ⟨d, rfl, by rw [h1]⟩) fun h => nomatch h) hB) xb_dead)
def S_is_from (rs : List Vp) (r : Vp) : Prop := ∃ d l m, rs = [rD d, TL.rI l, TL.rI m] ∧ r = rB (isFrom l m d)
theorem ok_is_from (T : Txt mg) : Fn P w mg base "is_from" 2 (spF S_is_from) := by
  obtain ⟨fd, F⟩ := T.fd_is_from
  have nd : (["value", "least", "most"] : List Str).Nodup := by decide +kernel
  refine fn_ok (N := ["value", "least", "most"]) (ps := ["value", "least", "most"]) F T.g_is_from (fun _ _ _ _ _ _ us hl => match us, hl with | [_, _, _], _ => rfl) ⟨rfl, rfl, rfl, nd, rfl, by decide +kernel, by decide +kernel⟩ (by decide)
    (by intro rs r hS; obtain ⟨d, l, m, rfl, rfl⟩ := hS <;> rfl) fun cdv A outer s H E M rs r hr hS => ?_
  have hB := Ex.refl H
  obtain ⟨d, l, m, rfl, rfl⟩ := hS
  by_cases hi : ∃ i, d = .int i
  · obtain ⟨i, rfl⟩ := hi
    exact (xb_cons (xs_retR ((xe_and (k := true) (xe_call (ok_is_whole T) hr (xa_cons (xe_var 0) xa_nil) ⟨.int i, rfl, rfl⟩) fun _ => (xe_one (xe_lele (xe_var 1) ((xe_var 0).cast (rD_int i)) (xe_var 2)))).cast (by rw [isFrom, Bool.true_and])) hB) xb_dead)
  · have h1 : isInt d = false := by cases d <;> first | rfl | exact absurd ⟨_, rfl⟩ hi
    have h2 : isFrom l m d = false := by cases d <;> first | rfl | exact absurd ⟨_, rfl⟩ hi
    rw [h2]
    exact (xb_cons (xs_retR (xe_and (k := false) (l := false) (xe_call (ok_is_whole T) hr (xa_cons (xe_var 0) xa_nil) ⟨d, rfl, by rw [h1]⟩) fun h => nomatch h) hB) xb_dead)
theorem sI_from {i l m : Int} (h1 : l ≤ i) (h2 : i ≤ m) : S_is_from [TL.rI i, TL.rI l, TL.rI m] (rB true) :=
  ⟨.int i, l, m, by rw [rD_int], by simp [isFrom, h1, h2]⟩
/-! ### fractions -/
def S_shared_in (rs : List Vp) (r : Vp) : Prop := ∃ a b : Int, rs = [TL.rI a, TL.rI b] ∧ 0 ≤ a ∧ 0 ≤ b ∧ r = TL.rI (Int.gcd a b : Nat)
omit [TL.KK] in
theorem gcd_step {a b : Int} (hb : 0 < b) : Int.gcd b (a % b) = Int.gcd a b := by
  have h1 : ((a % b : Int)) = a - b * (a / b) := by have := Int.emod_add_mul_ediv a b; omega
  apply Nat.dvd_antisymm
  · refine Int.dvd_gcd ?_ (Int.gcd_dvd_left ..)
    have h2 : (Int.gcd b (a % b) : Int) ∣ a % b := Int.gcd_dvd_right ..
    have h3 : (Int.gcd b (a % b) : Int) ∣ b * (a / b) := Int.dvd_mul_of_dvd_left (Int.gcd_dvd_left ..)
    have h4 := Int.dvd_add h2 h3
    rwa [show a % b + b * (a / b) = a by omega] at h4
  · refine Int.dvd_gcd (Int.gcd_dvd_right ..) ?_
    have h2 : (Int.gcd a b : Int) ∣ a := Int.gcd_dvd_left ..
    have h3 : (Int.gcd a b : Int) ∣ b * (a / b) := Int.dvd_mul_of_dvd_left (Int.gcd_dvd_right ..)
    have h4 := Int.dvd_sub h2 h3
    rwa [← h1] at h4
theorem ok_shared_in (T : Txt mg) : Fn P w mg base "shared_in" 1 (spF S_shared_in) := by
  obtain ⟨fd, F⟩ := T.fd_shared_in
  have nd : (["one", "other"] : List Str).Nodup := by decide +kernel
  refine fn_ok (N := ["one", "other"]) (ps := ["one", "other"]) F T.g_shared_in (fun _ _ _ _ _ _ us hl => match us, hl with | [_, _], _ => rfl) ⟨rfl, rfl, rfl, nd, rfl, by decide +kernel, by decide +kernel⟩ (by decide)
    (by intro rs r hS; obtain ⟨a, b, rfl, ha, hb, rfl⟩ := hS <;> rfl) fun cdv A outer s H E M rs r hr hS => ?_
  have hB := Ex.refl H
  obtain ⟨a, b, rfl, ha, hb, rfl⟩ := hS
  refine (xb_cons (Mid := Env H M [] [some (TL.rI (Int.gcd a b : Nat)), none] []) (xs_while (A := Int × Int) (fun p => 0 ≤ p.1 ∧ 0 ≤ p.2 ∧ Int.gcd p.1 p.2 = Int.gcd a b) (fun p => [some (TL.rI p.1), some (TL.rI p.2)]) (fun p => p.2.toNat) (fun p => decide (0 < p.2)) (a, b) ⟨ha, hb, rfl⟩ ⟨rfl, rfl, trivial⟩ (fun a hI => (xt_gt (xe_var 1) xe_int)) (fun p hI hk => ?_) (fun p hI hk σ H' E' => ?_))
    (xb_cons (xs_retR (xe_var 0) hB) xb_dead))
  · obtain ⟨h1, h2, h3⟩ := hI
    have hp : 0 < p.2 := of_decide_eq_true hk
    refine (xb_cons (xs_par 0 1 nd (xa_cons (xe_var 1) (xa_cons (xe_mod (xe_var 0) (xe_var 1) hp) xa_nil))) (xb_nil fun σ H' E' => ⟨(p.2, p.1 % p.2), ⟨h2, Int.emod_nonneg _ (by omega), ?_⟩, ?_, E'⟩))
    · show Int.gcd p.2 (p.1 % p.2) = _
      rw [gcd_step hp, h3]
    · have := Int.emod_lt_of_pos p.1 hp
      have := Int.emod_nonneg p.1 (show p.2 ≠ 0 by omega)
      show (p.1 % p.2).toNat < p.2.toNat
      omega
  · obtain ⟨h1, h2, h3⟩ := hI
    have hp : ¬ 0 < p.2 := of_decide_eq_false hk
    have h0 : p.2 = 0 := by omega
    refine E'.sub ⟨?_, trivial⟩
    rw [← h3, h0, Int.gcd_zero_right]
    congr 1
    omega
omit [TL.KK] in
theorem cmN {j x : Int} (h : Bk j) : CMul (fnum j) x := .inl (by have := fnum_bd h; obtain ⟨h1, h2⟩ := this; constructor <;> omega)
omit [TL.KK] in
theorem cmD {j x : Int} : CMul (fden j) x := .inl (by have := fden_pos j; have := fden_le j; constructor <;> omega)
omit [TL.KK] in
theorem abs_nn (t : Int) : 0 ≤ (if t < 0 then -t else t) := by split <;> omega
omit [TL.KK] in
theorem gcd_abs (t b : Int) : Int.gcd (if t < 0 then -t else t) b = Int.gcd t b := by
  split
  · exact Int.neg_gcd
  · rfl
def S_lowest (rs : List Vp) (r : Vp) : Prop := ∃ t b k : Int, rs = [TL.rI t, TL.rI b] ∧ 0 < b ∧ b < 1073741824 ∧ 12 * t = k * b ∧ r = rF k
omit [TL.KK] in
theorem gcd_bd {t b : Int} (h1 : 0 < b) (h2 : b < 1073741824) : CDiv x (Int.gcd t b : Nat) := by
  have : 0 < Int.gcd t b := Int.gcd_pos_of_ne_zero_right _ (by omega)
  have h : (Int.gcd t b : Int) ≤ b := Int.le_of_dvd h1 (Int.gcd_dvd_right ..)
  exact ⟨by omega, by omega⟩
theorem ok_lowest (T : Txt mg) : Fn P w mg base "lowest" 2 (spF S_lowest) := by
  obtain ⟨fd, F⟩ := T.fd_lowest
  have nd : (["top", "bottom", "shared"] : List Str).Nodup := by decide +kernel
  refine fn_ok (N := ["top", "bottom", "shared"]) (ps := ["top", "bottom"]) F T.g_lowest (fun _ _ _ _ _ _ us hl => match us, hl with | [_, _], _ => rfl) ⟨rfl, rfl, rfl, nd, rfl, by decide +kernel, by decide +kernel⟩ (by decide)
    (by intro rs r hS; obtain ⟨t, b, k, rfl, h1, h2, h3, rfl⟩ := hS <;> rfl) fun cdv A outer s H E M rs r hr hS => ?_
  have hB := Ex.refl H
  obtain ⟨t, b, k, rfl, h1, h2, h3, rfl⟩ := hS
  have hn : ¬ b < 0 := by omega
  obtain ⟨e1, e2⟩ := low_eq h1 h3
  unfold rF
  rw [← e1, ← e2]
  exact (xb_cons (xs_if (xt_lt (xe_var 1) xe_int) (fun hc => absurd (of_decide_eq_true hc) hn) (fun hc => (xb_nil fun σ H E => E)))
    (xb_cons (xs_set 2 nd (xe_call (ok_shared_in T) hr (xa_cons (xe_abs T.f_abs (xe_var 0)) (xa_cons (xe_var 1) xa_nil)) ⟨_, _, rfl, abs_nn t, by omega, by rw [gcd_abs]⟩))
    (xb_cons (xs_retR (xe_tup (xa_cons (xe_fdiv (xe_var 0) (xe_var 2) (gcd_bd h1 h2)) (xa_cons (xe_fdiv (xe_var 1) (xe_var 2) (gcd_bd h1 h2)) xa_nil))) hB) xb_dead)))
omit [TL.KK] in
theorem den_mul (j k : Int) : 0 < fden j * fden k ∧ fden j * fden k < 1073741824 := by
  have p1 := fden_pos j
  have p2 := fden_pos k
  have q1 := fden_le j
  have q2 := fden_le k
  have h : fden j * fden k ≤ 12 * 12 := Int.mul_le_mul q1 q2 (by omega) (by omega)
  exact ⟨Int.mul_pos p1 p2, by omega⟩
omit [TL.KK] in
theorem sum_eq (j k : Int) : 12 * (fnum j * fden k + fnum k * fden j) = (j + k) * (fden j * fden k) := by
  have h1 := fr_eq j
  have h2 := fr_eq k
  calc 12 * (fnum j * fden k + fnum k * fden j) = (12 * fnum j) * fden k + (12 * fnum k) * fden j := by rw [Int.mul_add, Int.mul_assoc, Int.mul_assoc]
    _ = (j * fden j) * fden k + (k * fden k) * fden j := by rw [h1, h2]
    _ = (j + k) * (fden j * fden k) := by rw [Int.add_mul, Int.mul_assoc, Int.mul_assoc, Int.mul_comm (fden k)]
omit [TL.KK] in
theorem less_eq (j k : Int) : 12 * (fnum j * fden k - fnum k * fden j) = (j - k) * (fden j * fden k) := by
  have h1 := fr_eq j
  have h2 := fr_eq k
  calc 12 * (fnum j * fden k - fnum k * fden j) = (12 * fnum j) * fden k - (12 * fnum k) * fden j := by rw [Int.mul_sub, Int.mul_assoc, Int.mul_assoc]
    _ = (j * fden j) * fden k - (k * fden k) * fden j := by rw [h1, h2]
    _ = (j - k) * (fden j * fden k) := by rw [Int.sub_mul, Int.mul_assoc, Int.mul_assoc, Int.mul_comm (fden k)]
def S_sum_in (rs : List Vp) (r : Vp) : Prop := ∃ j k, rs = [rF j, rF k] ∧ Bk j ∧ Bk k ∧ r = rF (j + k)
theorem ok_sum_in (T : Txt mg) : Fn P w mg base "sum_in" 3 (spF S_sum_in) := by
  obtain ⟨fd, F⟩ := T.fd_sum_in
  have nd : (["one", "other"] : List Str).Nodup := by decide +kernel
  refine fn_ok (N := ["one", "other"]) (ps := ["one", "other"]) F T.g_sum_in (fun _ _ _ _ _ _ us hl => match us, hl with | [_, _], _ => rfl) ⟨rfl, rfl, rfl, nd, rfl, by decide +kernel, by decide +kernel⟩ (by decide)
    (by intro rs r hS; obtain ⟨j, k, rfl, h1, h2, rfl⟩ := hS <;> rfl) fun cdv A outer s H E M rs r hr hS => ?_
  have hB := Ex.refl H
  obtain ⟨j, k, rfl, h1, h2, rfl⟩ := hS
  exact (xb_cons (xs_retR (xe_call (ok_lowest T) hr (xa_cons (xe_add (xe_mul (xe_ixT (xe_var 0) xe_int) (xe_ixT (xe_var 1) xe_int) (cmN h1)) (xe_mul (xe_ixT (xe_var 1) xe_int) (xe_ixT (xe_var 0) xe_int) (cmN h2))) (xa_cons (xe_mul (xe_ixT (xe_var 0) xe_int) (xe_ixT (xe_var 1) xe_int) cmD) xa_nil)) ⟨_, _, _, rfl, (den_mul j k).1, (den_mul j k).2, sum_eq j k, rfl⟩) hB) xb_dead)
def S_less_in (rs : List Vp) (r : Vp) : Prop := ∃ j k, rs = [rF j, rF k] ∧ Bk j ∧ Bk k ∧ r = rF (j - k)
theorem ok_less_in (T : Txt mg) : Fn P w mg base "less_in" 3 (spF S_less_in) := by
  obtain ⟨fd, F⟩ := T.fd_less_in
  have nd : (["one", "other"] : List Str).Nodup := by decide +kernel
  refine fn_ok (N := ["one", "other"]) (ps := ["one", "other"]) F T.g_less_in (fun _ _ _ _ _ _ us hl => match us, hl with | [_, _], _ => rfl) ⟨rfl, rfl, rfl, nd, rfl, by decide +kernel, by decide +kernel⟩ (by decide)
    (by intro rs r hS; obtain ⟨j, k, rfl, h1, h2, rfl⟩ := hS <;> rfl) fun cdv A outer s H E M rs r hr hS => ?_
  have hB := Ex.refl H
  obtain ⟨j, k, rfl, h1, h2, rfl⟩ := hS
  exact (xb_cons (xs_retR (xe_call (ok_lowest T) hr (xa_cons (xe_sub (xe_mul (xe_ixT (xe_var 0) xe_int) (xe_ixT (xe_var 1) xe_int) (cmN h1)) (xe_mul (xe_ixT (xe_var 1) xe_int) (xe_ixT (xe_var 0) xe_int) (cmN h2))) (xa_cons (xe_mul (xe_ixT (xe_var 0) xe_int) (xe_ixT (xe_var 1) xe_int) cmD) xa_nil)) ⟨_, _, _, rfl, (den_mul j k).1, (den_mul j k).2, less_eq j k, rfl⟩) hB) xb_dead)
def S_is_below (rs : List Vp) (r : Vp) : Prop := ∃ j k, rs = [rF j, rF k] ∧ Bk j ∧ Bk k ∧ r = rB (decide (j < k))
theorem ok_is_below (T : Txt mg) : Fn P w mg base "is_below" 1 (spF S_is_below) := by
  obtain ⟨fd, F⟩ := T.fd_is_below
  have nd : (["one", "other"] : List Str).Nodup := by decide +kernel
  refine fn_ok (N := ["one", "other"]) (ps := ["one", "other"]) F T.g_is_below (fun _ _ _ _ _ _ us hl => match us, hl with | [_, _], _ => rfl) ⟨rfl, rfl, rfl, nd, rfl, by decide +kernel, by decide +kernel⟩ (by decide)
    (by intro rs r hS; obtain ⟨j, k, rfl, h1, h2, rfl⟩ := hS <;> rfl) fun cdv A outer s H E M rs r hr hS => ?_
  have hB := Ex.refl H
  obtain ⟨j, k, rfl, h1, h2, rfl⟩ := hS
  rw [show decide (j < k) = decide (fnum j * fden k < fnum k * fden j) from by simp only [f_lt]]
  exact (xb_cons (xs_retR (xe_lt (xe_mul (xe_ixT (xe_var 0) xe_int) (xe_ixT (xe_var 1) xe_int) (cmN h1)) (xe_mul (xe_ixT (xe_var 1) xe_int) (xe_ixT (xe_var 0) xe_int) (cmN h2))) hB) xb_dead)
/-! ### rows of fractions -/
omit [TL.KK] in
theorem take_snoc {α : Type} {l : List α} {i : Nat} {x : α} (h : l[i]? = some x) : l.take (i + 1) = l.take i ++ [x] := by
  rw [List.take_succ, h]; rfl
theorem map_at {α : Type} {f : α → Vp} {l : List α} {i : Nat} {p : Vp} (h : (l.map f)[i]? = some p) : ∃ x, l[i]? = some x ∧ p = f x := by
  rw [List.getElem?_map] at h
  cases q : l[i]? with
  | none => rw [q] at h; cases h
  | some x => rw [q] at h; exact ⟨x, rfl, (Option.some.inj h).symm⟩
theorem map_at' {α : Type} {f : α → Vp} {l : List α} {i : Nat} {x : α} (h : l[i]? = some x) : (l.map f)[i]? = some (f x) := by
  rw [List.getElem?_map, h]; rfl
omit [TL.KK] in
theorem mem_at {α : Type} {l : List α} {i : Nat} {x : α} (h : l[i]? = some x) : x ∈ l := List.mem_of_getElem? h
def mx (k : Int) (ks : List Int) : Int := ks.foldl max k
omit [TL.KK] in
theorem mx_snoc (k : Int) (ks : List Int) (x : Int) : mx k (ks ++ [x]) = max (mx k ks) x := by simp [mx]
omit [TL.KK] in
theorem mx_self (k : Int) (ks : List Int) : mx k (k :: ks) = mx k ks := by simp [mx]
omit [TL.KK] in
theorem mx_bk {k : Int} (h : Bk k) : ∀ {ks : List Int}, (∀ x ∈ ks, Bk x) → Bk (mx k ks) := by
  intro ks
  induction ks generalizing k with
  | nil => intro _; exact h
  | cons x ks ih =>
    intro hx
    show Bk (mx (max k x) ks)
    refine ih ?_ fun y hy => hx y (List.mem_cons_of_mem _ hy)
    have := hx x List.mem_cons_self
    obtain ⟨a, b⟩ := h
    obtain ⟨c, d⟩ := this
    constructor <;> omega
omit [TL.KK] in
theorem ite_max (a x : Int) : (if decide (a < x) = true then x else a) = max a x := by
  by_cases h : a < x
  · rw [if_pos (by simpa using h)]; omega
  · rw [if_neg (by simpa using h)]; omega
theorem rF_ite {c : Bool} {a x : Int} : (if c = true then rF x else rF a) = rF (if c = true then x else a) := by cases c <;> rfl
def S_greatest_in (rs : List Vp) (r : Vp) : Prop := ∃ k ks, (rs = [rL ((k :: ks).map rF)] ∨ rs = [rT ((k :: ks).map rF)]) ∧ (∀ x ∈ k :: ks, Bk x) ∧ r = rF (mx k ks)
theorem xe_max {X : Cx} {G : En} {a b c : Expr} {pos : Pos} {i j : Int} (hc : XT X c G (decide (i < j))) (ha : XE X a G (rF j)) (hb : XE X b G (rF i)) : XE X (.IfExp c a b pos) G (rF (max i j)) :=
  xe_if hc (fun h => ha.cast (by have : i < j := of_decide_eq_true h; rw [show max i j = j by omega])) (fun h => hb.cast (by have : ¬ i < j := of_decide_eq_false h; rw [show max i j = i by omega]))
omit [TL.KK] in
theorem atI_nat {α : Type} {xs : List α} {i : Nat} {x : α} (h : xs[i]? = some x) : atI xs (i : Int) = some x := by
  have hl : i < xs.length := (List.getElem?_eq_some_iff.mp h).1
  unfold atI ixN
  rw [if_pos (by omega), if_pos (by omega)]
  exact h
omit [TL.KK] in
theorem atI_int {α : Type} {xs : List α} {i : Int} {x : α} (h0 : 0 ≤ i) (h : xs[i.toNat]? = some x) : atI xs i = some x := by
  have e : i = (i.toNat : Int) := by omega
  rw [e]
  exact atI_nat h
omit [TL.KK] in
theorem atI0 {α : Type} {k : α} {ks : List α} : atI (k :: ks) 0 = some k := atI_nat (i := 0) rfl
omit [TL.KK] in
theorem atI_last {α : Type} {xs : List α} {x : α} : atI (xs ++ [x]) (-1) = some x := by
  unfold atI ixN
  rw [if_neg (by omega), if_pos (by rw [List.length_append]; simp; omega)]
  show (xs ++ [x])[((-1 : Int) + ((xs ++ [x]).length : Int)).toNat]? = some x
  have e : ((-1 : Int) + ((xs ++ [x]).length : Int)).toNat = xs.length := by rw [List.length_append]; simp; omega
  rw [e]
  simp
theorem ok_greatest_in (T : Txt mg) : Fn P w mg base "greatest_in" 2 (spF S_greatest_in) := by
  obtain ⟨fd, F⟩ := T.fd_greatest_in
  have nd : (["row", "found", "one"] : List Str).Nodup := by decide +kernel
  refine fn_ok (N := ["row", "found", "one"]) (ps := ["row"]) F T.g_greatest_in (fun _ _ _ _ _ _ us hl => match us, hl with | [_], _ => rfl) ⟨rfl, rfl, rfl, nd, rfl, by decide +kernel, by decide +kernel⟩ (by decide)
    (by intro rs r hS; obtain ⟨k, ks, rfl | rfl, hb, rfl⟩ := hS <;> rfl) fun cdv A outer s H E M rs r hr hS => ?_
  have hB := Ex.refl H
  obtain ⟨k, ks, rfl | rfl, hb, rfl⟩ := hS
  · have h0 : Bk k := hb k List.mem_cons_self
    exact (xb_cons (xs_set 1 nd (xe_ixL (xe_var 0) xe_int atI0))
    (xb_cons (Mid := Env H M [] [none, some (rF (mx k ks)), none] []) (xs_for (fun i a => a = mx k ((k :: ks).take i)) (fun i a => [none, some (rF a), none]) (fun _ _ => []) (xi_list (xe_var 0)) k rfl ⟨rfl, trivial⟩ rfl (fun B1 i p a hB1 hp hI => by
      obtain ⟨x, hx, rfl⟩ := map_at hp
      have hm := hb x (mem_at hx)
      have ha : Bk a := by rw [hI]; exact mx_bk h0 fun y hy => hb y (List.mem_of_mem_take hy)
      exact ⟨_, _, (xg_name 2 nd),
        (xb_cons (xs_set 1 nd (xe_max (xt_val (xe_call (ok_is_below T) hr (xa_cons (xe_var 1) (xa_cons (xe_var 2) xa_nil)) ⟨a, x, rfl, ha, hm, rfl⟩)) (xe_var 2) (xe_var 1)))
        (xb_nil fun σ H E => ⟨max a x, by show _ = mx k _; rw [take_snoc hx, mx_snoc, hI], E.sub ⟨rfl, trivial⟩⟩))⟩) (fun a hI σ H E => by
          rw [List.length_map, List.take_length, mx_self] at hI
          rw [← hI]
          exact E))
    (xb_cons (xs_retR (xe_var 1) hB) xb_dead)))
  · have h0 : Bk k := hb k List.mem_cons_self
    exact (xb_cons (xs_set 1 nd (xe_ixT (xe_var 0) xe_int atI0))
    (xb_cons (Mid := Env H M [] [none, some (rF (mx k ks)), none] []) (xs_for (fun i a => a = mx k ((k :: ks).take i)) (fun i a => [none, some (rF a), none]) (fun _ _ => []) (xi_tup (xe_var 0)) k rfl ⟨rfl, trivial⟩ rfl (fun B1 i p a hB1 hp hI => by
      obtain ⟨x, hx, rfl⟩ := map_at hp
      have hm := hb x (mem_at hx)
      have ha : Bk a := by rw [hI]; exact mx_bk h0 fun y hy => hb y (List.mem_of_mem_take hy)
      exact ⟨_, _, (xg_name 2 nd),
        (xb_cons (xs_set 1 nd (xe_max (xt_val (xe_call (ok_is_below T) hr (xa_cons (xe_var 1) (xa_cons (xe_var 2) xa_nil)) ⟨a, x, rfl, ha, hm, rfl⟩)) (xe_var 2) (xe_var 1)))
        (xb_nil fun σ H E => ⟨max a x, by show _ = mx k _; rw [take_snoc hx, mx_snoc, hI], E.sub ⟨rfl, trivial⟩⟩))⟩) (fun a hI σ H E => by
          rw [List.length_map, List.take_length, mx_self] at hI
          rw [← hI]
          exact E))
    (xb_cons (xs_retR (xe_var 1) hB) xb_dead)))
def S_total_in (rs : List Vp) (r : Vp) : Prop := ∃ ks : List Int, rs = [rL (ks.map rF)] ∧ (∀ i, Bk (ks.take i).sum) ∧ (∀ x ∈ ks, Bk x) ∧ r = rF ks.sum
omit [TL.KK] in
theorem sum_snoc (l : List Int) (x : Int) : (l ++ [x]).sum = l.sum + x := by simp
theorem ok_total_in (T : Txt mg) : Fn P w mg base "total_in" 4 (spF S_total_in) := by
  obtain ⟨fd, F⟩ := T.fd_total_in
  have nd : (["row", "found", "one"] : List Str).Nodup := by decide +kernel
  refine fn_ok (N := ["row", "found", "one"]) (ps := ["row"]) F T.g_total_in (fun _ _ _ _ _ _ us hl => match us, hl with | [_], _ => rfl) ⟨rfl, rfl, rfl, nd, rfl, by decide +kernel, by decide +kernel⟩ (by decide)
    (by intro rs r hS; obtain ⟨ks, rfl, h1, h2, rfl⟩ := hS <;> rfl) fun cdv A outer s H E M rs r hr hS => ?_
  have hB := Ex.refl H
  obtain ⟨ks, rfl, h1, h2, rfl⟩ := hS
  exact (xb_cons (xs_set 1 nd (xe_gt_ZERO T))
  (xb_cons (Mid := Env H M [] [none, some (rF ks.sum), none] []) (xs_for (fun i a => a = (ks.take i).sum) (fun i a => [none, some (rF a), none]) (fun _ _ => []) (xi_list (xe_var 0)) 0 rfl ⟨rfl, trivial⟩ rfl (fun B1 i p a hB1 hp hI => by
    obtain ⟨x, hx, rfl⟩ := map_at hp
    have hm := h2 x (mem_at hx)
    have ha : Bk a := by rw [hI]; exact h1 i
    exact ⟨_, _, (xg_name 2 nd),
      (xb_cons (xs_set 1 nd (xe_call (ok_sum_in T) hr (xa_cons (xe_var 1) (xa_cons (xe_var 2) xa_nil)) ⟨a, x, rfl, ha, hm, rfl⟩))
      (xb_nil fun σ H E => ⟨a + x, by show _ = List.sum _; rw [take_snoc hx, sum_snoc, hI], E.sub ⟨rfl, trivial⟩⟩))⟩) (fun a hI σ H E => by
        rw [List.length_map, List.take_length] at hI
        rw [← hI]
        exact E))
  (xb_cons (xs_retR (xe_var 1) hB) xb_dead)))
end
end M33
namespace M33
open PySem PySem.Spec PyProof.Rows L2 TL
theorem XG_cast {X : Cx} {tg : Expr} {p q : Vp} {G G' : En} {ts : List Nat} (h : XG X tg p G G' ts) (e : p = q) : XG X tg q G G' ts := e ▸ h
theorem scl_ok {K : PySem.W.Frag} {x : Str} (h : sclB K x = true) : SlX.SCls K (He.ga K x) ∧ SlX.SIsi K (He.ga K x) := by
  unfold sclB at h
  obtain ⟨h1, h⟩ := He.ba h
  obtain ⟨h2, h⟩ := He.ba h
  obtain ⟨h3, h⟩ := He.ba h
  obtain ⟨h4, h⟩ := He.ba h
  obtain ⟨h5, h⟩ := He.ba h
  obtain ⟨h6, h⟩ := He.ba h
  obtain ⟨h7, h8⟩ := He.ba h
  exact ⟨⟨h1, h2, h3, He.eqO_ok h4⟩, ⟨He.eqO_ok h5, He.eqO_ok h6, of_decide_eq_true h7, of_decide_eq_true h8⟩⟩
theorem slt_ok {K : PySem.W.Frag} {x f : Str} {i : Nat} (h : sltB K x f i = true) (hi : i < 1000 := by decide) : SlX.Slot1 K (He.ga K x) f (He.ma K (He.ga K x) f) i := by
  unfold sltB at h
  obtain ⟨h1, h⟩ := He.ba h
  obtain ⟨h2, h⟩ := He.ba h
  obtain ⟨h3, h⟩ := He.ba h
  obtain ⟨h4, h5⟩ := He.ba h
  exact ⟨He.eqO_ok h1, He.eqO_ok h2, of_decide_eq_true h3, of_decide_eq_true h4, of_decide_eq_true h5, hi⟩
section
variable [KK] {P : Program} {w : World} {mg : Str → Option Value} {base : Heap}
structure Ex6 (K : PySem.W.Frag) : Prop where
  m : sclB K "Machine" = true
  n : sclB K "Net" = true
  m0 : sltB K "Machine" "own_clocks" 0 = true
  m1 : sltB K "Machine" "own_doors" 1 = true
  m2 : sltB K "Machine" "own_limits" 2 = true
  n0 : sltB K "Net" "own_machine" 0 = true
  n1 : sltB K "Net" "own_one" 1 = true
  n2 : sltB K "Net" "own_other" 2 = true
  n3 : sltB K "Net" "own_shared" 3 = true
  n4 : sltB K "Net" "own_sides" 4 = true
  p1 : proB K "Net" "one" = true
  p2 : proB K "Net" "other" = true
  p3 : proB K "Net" "machine" = true
theorem ex6 (T : Txt mg) : Ex6 KK.K := by
  have h := (exAll T).2
  unfold exB at h
  obtain ⟨_, h⟩ := He.ba h
  obtain ⟨a1, h⟩ := He.ba h
  obtain ⟨a2, h⟩ := He.ba h
  obtain ⟨a3, h⟩ := He.ba h
  obtain ⟨a4, h⟩ := He.ba h
  obtain ⟨a5, h⟩ := He.ba h
  obtain ⟨a6, h⟩ := He.ba h
  obtain ⟨a7, h⟩ := He.ba h
  obtain ⟨a8, h⟩ := He.ba h
  obtain ⟨a9, h⟩ := He.ba h
  obtain ⟨b1, h⟩ := He.ba h
  obtain ⟨b2, h⟩ := He.ba h
  obtain ⟨b3, b4⟩ := He.ba h
  exact ⟨a1, a2, a3, a4, a5, a6, a7, a8, a9, b1, b2, b3, b4⟩
section
variable {X : Cx} {G : En} {a : Expr} {pos : Pos} {m : Mach} {n : Net}
theorem sl_cl (T : Txt mg) (ha : XE X a G (rM m)) (hK : X.K = KK.K := by rfl) (hb : attributeBase a "own_clocks" X.env (eval a X.env) = eval a X.env := by rfl) : XE X (.Attribute a "own_clocks" pos) G (TL.rI m.cl) :=
  xe_sl 0 (scl_ok (ex6 T).m).1 (slt_ok (ex6 T).m0) ha rfl hK hb
theorem sl_do (T : Txt mg) (ha : XE X a G (rM m)) (hK : X.K = KK.K := by rfl) (hb : attributeBase a "own_doors" X.env (eval a X.env) = eval a X.env := by rfl) : XE X (.Attribute a "own_doors" pos) G (rDoors m.doors) :=
  xe_sl 1 (scl_ok (ex6 T).m).1 (slt_ok (ex6 T).m1) ha rfl hK hb
theorem sl_li (T : Txt mg) (ha : XE X a G (rM m)) (hK : X.K = KK.K := by rfl) (hb : attributeBase a "own_limits" X.env (eval a X.env) = eval a X.env := by rfl) : XE X (.Attribute a "own_limits" pos) G (rLims m.lims) :=
  xe_sl 2 (scl_ok (ex6 T).m).1 (slt_ok (ex6 T).m2) ha rfl hK hb
theorem sl_ma (T : Txt mg) (ha : XE X a G (rNet n)) (hK : X.K = KK.K := by rfl) (hb : attributeBase a "own_machine" X.env (eval a X.env) = eval a X.env := by rfl) : XE X (.Attribute a "own_machine" pos) G (rM n.m) :=
  xe_sl 0 (scl_ok (ex6 T).n).1 (slt_ok (ex6 T).n0) ha rfl hK hb
theorem sl_on (T : Txt mg) (ha : XE X a G (rNet n)) (hK : X.K = KK.K := by rfl) (hb : attributeBase a "own_one" X.env (eval a X.env) = eval a X.env := by rfl) : XE X (.Attribute a "own_one" pos) G (rM n.one) :=
  xe_sl 1 (scl_ok (ex6 T).n).1 (slt_ok (ex6 T).n1) ha rfl hK hb
theorem sl_ot (T : Txt mg) (ha : XE X a G (rNet n)) (hK : X.K = KK.K := by rfl) (hb : attributeBase a "own_other" X.env (eval a X.env) = eval a X.env := by rfl) : XE X (.Attribute a "own_other" pos) G (rM n.other) :=
  xe_sl 2 (scl_ok (ex6 T).n).1 (slt_ok (ex6 T).n2) ha rfl hK hb
theorem sl_si (T : Txt mg) (ha : XE X a G (rNet n)) (hK : X.K = KK.K := by rfl) (hb : attributeBase a "own_sides" X.env (eval a X.env) = eval a X.env := by rfl) : XE X (.Attribute a "own_sides" pos) G (rT (n.sides.map rSide)) :=
  xe_sl 4 (scl_ok (ex6 T).n).1 (slt_ok (ex6 T).n4) ha rfl hK hb
end
theorem tup_or (d : D) : (∃ ds, d = .tup ds) ∨ (L2.kitB (tyD d) "tuple" = some false ∧ ∀ ds, d ≠ .tup ds) := by
  cases d with
  | tup ds => exact .inl ⟨ds, rfl⟩
  | non => exact .inr ⟨by decide +kernel, fun _ h => nomatch h⟩
  | bl b => exact .inr ⟨(by decide +kernel : L2.kitB "bool" "tuple" = some false), fun _ h => nomatch h⟩
  | int b => exact .inr ⟨(by decide +kernel : L2.kitB "int" "tuple" = some false), fun _ h => nomatch h⟩
  | lst b => exact .inr ⟨(by decide +kernel : L2.kitB "list" "tuple" = some false), fun _ h => nomatch h⟩
theorem kit_tup : L2.kitB "tuple" "tuple" = some true := by decide +kernel
theorem two_or (ds : List D) : (∃ x y, ds = [x, y]) ∨ (ds.length ≠ 2 ∧ ∀ x y, ds ≠ [x, y]) := by
  match ds with
  | [x, y] => exact .inl ⟨x, y, rfl⟩
  | [] => exact .inr ⟨by decide, fun _ _ h => nomatch h⟩
  | [_] => exact .inr ⟨by simp, fun _ _ h => nomatch h⟩
  | _ :: _ :: _ :: _ => exact .inr ⟨by simp, fun _ _ h => nomatch h⟩
/-- not a tuple -/
theorem xt_nt {X : Cx} {G : En} {a : Expr} {p1 p2 pos : Pos} {d : D} (T : Txt mg) (ha : XE X a G (rD d)) (h : L2.kitB (tyD d) "tuple" = some false) (hm : X.mg = mg := by rfl) (hK : X.K = KK.K := by rfl) (hg : Gl X "isinstance" := by rfl) (hg2 : Gl X "tuple" := by rfl) (hs1 : starEach [a, .Name "tuple" p2] X.env = (false, eval a X.env) :: starEach [.Name "tuple" p2] X.env := by rfl)
    (hs2 : starEach [.Name "tuple" p2] X.env = [(false, eval (.Name "tuple" p2) X.env)] := by rfl)
    (hh : ∀ whole, isTrue (.Call (.Name "isinstance" p1) [a, .Name "tuple" p2] [] pos) X.env whole = (do let v ← whole; standAt (Expr.Call (.Name "isinstance" p1) [a, .Name "tuple" p2] [] pos).pos; holding [v] (truthy v)) := by intro _; rfl) {pn : Pos} : XT X (.UnaryOp .Not (.Call (.Name "isinstance" p1) [a, .Name "tuple" p2] [] pos) pn) G true :=
  (xt_not (xt_val (xe_isi (by rw [hm]; exact T.f_isinstance) ha (xe_ty (by rw [hm]; exact T.f_tuple) boot_tuple hg2) h hK hg hs1 hs2) hh)).cast rfl
theorem xt_yt {X : Cx} {G : En} {a : Expr} {p1 p2 pos : Pos} {rs : List Vp} (T : Txt mg) (ha : XE X a G (rT rs)) (hm : X.mg = mg := by rfl) (hK : X.K = KK.K := by rfl) (hg : Gl X "isinstance" := by rfl) (hg2 : Gl X "tuple" := by rfl) (hs1 : starEach [a, .Name "tuple" p2] X.env = (false, eval a X.env) :: starEach [.Name "tuple" p2] X.env := by rfl)
    (hs2 : starEach [.Name "tuple" p2] X.env = [(false, eval (.Name "tuple" p2) X.env)] := by rfl)
    (hh : ∀ whole, isTrue (.Call (.Name "isinstance" p1) [a, .Name "tuple" p2] [] pos) X.env whole = (do let v ← whole; standAt (Expr.Call (.Name "isinstance" p1) [a, .Name "tuple" p2] [] pos).pos; holding [v] (truthy v)) := by intro _; rfl) {pn : Pos} : XT X (.UnaryOp .Not (.Call (.Name "isinstance" p1) [a, .Name "tuple" p2] [] pos) pn) G false :=
  (xt_not (xt_val (xe_isi (by rw [hm]; exact T.f_isinstance) ha (xe_ty (by rw [hm]; exact T.f_tuple) boot_tuple hg2) kit_tup hK hg hs1 hs2) hh)).cast rfl
theorem xe_yt {X : Cx} {G : En} {a : Expr} {p1 p2 pos : Pos} {rs : List Vp} (T : Txt mg) (ha : XE X a G (rT rs)) (hm : X.mg = mg := by rfl) (hK : X.K = KK.K := by rfl) (hg : Gl X "isinstance" := by rfl) (hg2 : Gl X "tuple" := by rfl) (hs1 : starEach [a, .Name "tuple" p2] X.env = (false, eval a X.env) :: starEach [.Name "tuple" p2] X.env := by rfl)
    (hs2 : starEach [.Name "tuple" p2] X.env = [(false, eval (.Name "tuple" p2) X.env)] := by rfl) : XE X (.Call (.Name "isinstance" p1) [a, .Name "tuple" p2] [] pos) G (rB true) :=
  xe_isi (by rw [hm]; exact T.f_isinstance) ha (xe_ty (by rw [hm]; exact T.f_tuple) boot_tuple hg2) kit_tup hK hg hs1 hs2
theorem xe_nt {X : Cx} {G : En} {a : Expr} {p1 p2 pos : Pos} {d : D} (T : Txt mg) (ha : XE X a G (rD d)) (h : L2.kitB (tyD d) "tuple" = some false) (hm : X.mg = mg := by rfl) (hK : X.K = KK.K := by rfl) (hg : Gl X "isinstance" := by rfl) (hg2 : Gl X "tuple" := by rfl) (hs1 : starEach [a, .Name "tuple" p2] X.env = (false, eval a X.env) :: starEach [.Name "tuple" p2] X.env := by rfl)
    (hs2 : starEach [.Name "tuple" p2] X.env = [(false, eval (.Name "tuple" p2) X.env)] := by rfl) : XE X (.Call (.Name "isinstance" p1) [a, .Name "tuple" p2] [] pos) G (rB false) :=
  xe_isi (by rw [hm]; exact T.f_isinstance) ha (xe_ty (by rw [hm]; exact T.f_tuple) boot_tuple hg2) h hK hg hs1 hs2
section
variable {X : Cx} {G : En} {a : Expr} {es : List Expr} {pos : Pos} {k l : Bool}
theorem xw_orT {b : Expr} (ha : XT X a G true) : XW X (.BoolOp .Or (a :: b :: es) pos) G true := xw_or (k := true) (l := false) ha fun h => nomatch h
theorem xw_orF {b : Expr} (ha : XT X a G false) (hb : XW X (.BoolOp .Or (b :: es) pos) G l) : XW X (.BoolOp .Or (a :: b :: es) pos) G l := (xw_or (k := false) ha fun _ => hb).cast (Bool.false_or l)
theorem xe_andF {b : Expr} (ha : XE X a G (rB false)) : XE X (.BoolOp .And (a :: b :: es) pos) G (rB false) := xe_and (k := false) (l := false) ha fun h => nomatch h
theorem xe_andT {b : Expr} (ha : XE X a G (rB true)) (hb : XE X (.BoolOp .And (b :: es) pos) G (rB l)) : XE X (.BoolOp .And (a :: b :: es) pos) G (rB l) := (xe_and (k := true) ha fun _ => hb).cast (by rw [Bool.true_and])
end
theorem ne2 {ds : List D} (h : ds.length ≠ 2) : (!decide (((ds.map rD).length : Int) = 2)) = true := by
  rw [List.length_map]
  simp
  omega
def S_is_fraction (rs : List Vp) (r : Vp) : Prop := ∃ d, rs = [rD d] ∧ r = rB (isFr d)
theorem isFr_t {d : D} (h : isFr d = true) : ∃ a b, d = .tup [.int a, .int b] := by
  unfold isFr at h
  split at h
  · exact ⟨_, _, rfl⟩
  · cases h
theorem isShort_t {d : D} (h : isShort d = true) : ∃ a, d = .int a := by
  unfold isShort at h
  split at h
  · exact ⟨_, rfl⟩
  · cases h
theorem ok_is_fraction (T : Txt mg) : Fn P w mg base "is_fraction" 3 (spF S_is_fraction) := by
  obtain ⟨fd, F⟩ := T.fd_is_fraction
  have nd : (["value"] : List Str).Nodup := by decide +kernel
  refine fn_ok (N := ["value"]) (ps := ["value"]) F T.g_is_fraction (fun _ _ _ _ _ _ us hl => match us, hl with | [_], _ => rfl) ⟨rfl, rfl, rfl, nd, rfl, by decide +kernel, by decide +kernel⟩ (by decide)
    (by intro rs r hS; obtain ⟨d, rfl, rfl⟩ := hS <;> rfl) fun cdv A outer s H E M rs r hr hS => ?_
  have hB := Ex.refl H
  obtain ⟨d, rfl, rfl⟩ := hS
  rcases tup_or d with ⟨ds, rfl⟩ | ⟨hk, hn⟩
  · rcases two_or ds with ⟨x, y, rfl⟩ | ⟨h2, h3⟩
    · refine xb_ifM (k := !isShort x || !isShort y) (XW.t (xw_orF (xt_yt T ((xe_var 0).cast (rD_tup _))) (xw_orF ((xt_ne (xe_len T.f_len ((xe_var 0).cast (rD_tup _))) (xe_gi T.i_PAIR_fractions)).cast rfl) (xw_or (xt_not (xt_val (xe_call (ok_is_short T) hr (xa_cons (xe_ixT ((xe_var 0).cast (rD_tup _)) xe_int) xa_nil) ⟨x, rfl, rfl⟩))) fun _ => (xw_or1 (xt_not (xt_val (xe_call (ok_is_short T) hr (xa_cons (xe_ixT ((xe_var 0).cast (rD_tup _)) xe_int) xa_nil) ⟨y, rfl, rfl⟩))))))))
        (fun hc => ?_) (fun hc => ?_)
      · have e : isFr (.tup [x, y]) = false := by
          unfold isFr
          split
          · rename_i a b h
            obtain ⟨rfl, rfl⟩ : x = .int a ∧ y = .int b := by simpa using h
            cases h1 : isShort (.int a) with
            | false => rfl
            | true =>
              rw [h1] at hc
              cases h2 : isShort (.int b) with
              | false => rfl
              | true => rw [h2] at hc; cases hc
          · rfl
        rw [e]
        exact (xb_cons (xs_retR xe_bl hB) xb_dead)
      · have h1 : isShort x = true := by
          cases h : isShort x with
          | true => rfl
          | false => rw [h] at hc; cases hc
        have h2 : isShort y = true := by
          cases h : isShort y with
          | true => rfl
          | false => rw [h, h1] at hc; cases hc
        obtain ⟨a, rfl⟩ := isShort_t h1
        obtain ⟨b, rfl⟩ := isShort_t h2
        have e : isFr (.tup [.int a, .int b]) = (decide (0 < b) && decide (Int.gcd a b = 1)) := by
          show (isShort (.int a) && (isShort (.int b) && _)) = _
          rw [h1, h2, Bool.true_and, Bool.true_and]
        rw [e]
        exact (xb_cons (xs_retR (xe_and (xe_gt ((xe_ixT ((xe_var 0).cast (rD_tup _)) xe_int).cast (rD_int b)) xe_int) fun hb => (xe_one ((xe_eq (xe_call (ok_shared_in T) hr (xa_cons (xe_abs T.f_abs ((xe_ixT ((xe_var 0).cast (rD_tup _)) xe_int).cast (rD_int a))) (xa_cons ((xe_ixT ((xe_var 0).cast (rD_tup _)) xe_int).cast (rD_int b)) xa_nil)) ⟨_, _, rfl, abs_nn a, by have := of_decide_eq_true hb; omega, rfl⟩) xe_int).cast (by rw [gcd_abs]; congr 1; simp; omega)))) hB) xb_dead)
    · have e : isFr (.tup ds) = false := by
        cases h : isFr (.tup ds) with
        | false => rfl
        | true => obtain ⟨a, b, q⟩ := isFr_t h; cases q; exact absurd rfl (h3 _ _)
      rw [e]
      exact xb_ifT (XW.t (xw_orF (xt_yt T ((xe_var 0).cast (rD_tup _))) (xw_orT ((xt_ne (xe_len T.f_len ((xe_var 0).cast (rD_tup _))) (xe_gi T.i_PAIR_fractions)).cast (ne2 h2))))) (xb_cons (xs_retR xe_bl hB) xb_dead)
  · have e : isFr d = false := by
      cases h : isFr d with
      | false => rfl
      | true => obtain ⟨a, b, q⟩ := isFr_t h; exact absurd q (hn _)
    rw [e]
    exact xb_ifT (XW.t (xw_orT (xt_nt T (xe_var 0) hk))) (xb_cons (xs_retR xe_bl hB) xb_dead)
def S_is_margin (rs : List Vp) (r : Vp) : Prop := ∃ d, rs = [rD d] ∧ r = rB (isMar d)
theorem isMar_f {d : D} (h : isFr d = false) : isMar d = false := by
  unfold isMar
  split
  · rw [h]; rfl
  · rfl
theorem ok_is_margin (T : Txt mg) : Fn P w mg base "is_margin" 4 (spF S_is_margin) := by
  obtain ⟨fd, F⟩ := T.fd_is_margin
  have nd : (["value"] : List Str).Nodup := by decide +kernel
  refine fn_ok (N := ["value"]) (ps := ["value"]) F T.g_is_margin (fun _ _ _ _ _ _ us hl => match us, hl with | [_], _ => rfl) ⟨rfl, rfl, rfl, nd, rfl, by decide +kernel, by decide +kernel⟩ (by decide)
    (by intro rs r hS; obtain ⟨d, rfl, rfl⟩ := hS <;> rfl) fun cdv A outer s H E M rs r hr hS => ?_
  have hB := Ex.refl H
  obtain ⟨d, rfl, rfl⟩ := hS
  cases hf : isFr d with
  | false =>
    rw [isMar_f hf]
    exact (xb_cons (xs_retR (xe_andF (xe_call (ok_is_fraction T) hr (xa_cons (xe_var 0) xa_nil) ⟨d, rfl, by rw [hf]⟩)) hB) xb_dead)
  | true =>
    obtain ⟨a, b, rfl⟩ := isFr_t hf
    have e : isMar (.tup [.int a, .int b]) = decide (0 ≤ a) := by
      show (isFr (.tup [.int a, .int b]) && _) = _
      rw [hf, Bool.true_and]
    rw [e]
    exact (xb_cons (xs_retR (xe_andT (xe_call (ok_is_fraction T) hr (xa_cons (xe_var 0) xa_nil) ⟨_, rfl, by rw [hf]⟩) (xe_one (xe_ge ((xe_ixT ((xe_var 0).cast (rD_tup _)) xe_int).cast (rD_int a)) xe_int))) hB) xb_dead)
/-! ### runs, as data -/
def S_is_step (rs : List Vp) (r : Vp) : Prop := ∃ d, rs = [rD d] ∧ r = rB (isStep d)
theorem ok_is_step (T : Txt mg) : Fn P w mg base "is_step" 5 (spF S_is_step) := by
  obtain ⟨fd, F⟩ := T.fd_is_step
  have nd : (["value"] : List Str).Nodup := by decide +kernel
  refine fn_ok (N := ["value"]) (ps := ["value"]) F T.g_is_step (fun _ _ _ _ _ _ us hl => match us, hl with | [_], _ => rfl) ⟨rfl, rfl, rfl, nd, rfl, by decide +kernel, by decide +kernel⟩ (by decide)
    (by intro rs r hS; obtain ⟨d, rfl, rfl⟩ := hS <;> rfl) fun cdv A outer s H E M rs r hr hS => ?_
  have hB := Ex.refl H
  obtain ⟨d, rfl, rfl⟩ := hS
  rcases tup_or d with ⟨ds, rfl⟩ | ⟨hk, hn⟩
  · rcases two_or ds with ⟨x, y, rfl⟩ | ⟨h2, h3⟩
    · exact xb_ifF (XW.t (xw_orF (xt_yt T ((xe_var 0).cast (rD_tup _))) (xw_or1 ((xt_ne (xe_len T.f_len ((xe_var 0).cast (rD_tup _))) (xe_gi T.i_PAIR_runs)).cast rfl))))
        (xb_cons (xs_retR (xe_and (l := isFrom 0 11 y) (xe_call (ok_is_margin T) hr (xa_cons (xe_ixT ((xe_var 0).cast (rD_tup _)) xe_int) xa_nil) ⟨x, rfl, rfl⟩) fun _ => (xe_one (xe_call (ok_is_from T) hr (xa_cons (xe_ixT ((xe_var 0).cast (rD_tup _)) xe_int) (xa_cons xe_int (xa_cons (xe_sub (xe_gi T.i_MOST_DOORS) xe_int) xa_nil))) ⟨y, 0, 11, rfl, rfl⟩))) hB) xb_dead)
    · have e : isStep (.tup ds) = false := by
        unfold isStep
        split
        · rename_i h; cases h; exact absurd rfl (h3 _ _)
        · rfl
      rw [e]
      exact xb_ifT (XW.t (xw_orF (xt_yt T ((xe_var 0).cast (rD_tup _))) (xw_or1 ((xt_ne (xe_len T.f_len ((xe_var 0).cast (rD_tup _))) (xe_gi T.i_PAIR_runs)).cast (ne2 h2))))) (xb_cons (xs_retR xe_bl hB) xb_dead)
  · have e : isStep d = false := by
      unfold isStep
      split
      · exact absurd rfl (hn _)
      · rfl
    rw [e]
    exact xb_ifT (XW.t (xw_orT (xt_nt T (xe_var 0) hk))) (xb_cons (xs_retR xe_bl hB) xb_dead)
def S_are_steps (rs : List Vp) (r : Vp) : Prop := ∃ d, rs = [rD d] ∧ (∀ ds, d = .tup ds → ds.length < 20000) ∧ r = rB (areSteps d)
theorem ok_are_steps (T : Txt mg) : Fn P w mg base "are_steps" 6 (spF S_are_steps) := by
  obtain ⟨fd, F⟩ := T.fd_are_steps
  have nd : (["value", "step"] : List Str).Nodup := by decide +kernel
  refine fn_ok (N := ["value", "step"]) (ps := ["value"]) F T.g_are_steps (fun _ _ _ _ _ _ us hl => match us, hl with | [_], _ => rfl) ⟨rfl, rfl, rfl, nd, rfl, by decide +kernel, by decide +kernel⟩ (by decide)
    (by intro rs r hS; obtain ⟨d, rfl, hl, rfl⟩ := hS <;> rfl) fun cdv A outer s H E M rs r hr hS => ?_
  have hB := Ex.refl H
  obtain ⟨d, rfl, hl, rfl⟩ := hS
  rcases tup_or d with ⟨ds, rfl⟩ | ⟨hk, hn⟩
  · have hl := hl ds rfl
    have e : areSteps (.tup ds) = ((ds.map isStep).all id) := by
      show (decide (ds.length ≤ 20000) && ds.all isStep) = _
      rw [decide_eq_true (by omega), Bool.true_and]
      simp [List.all_map]
    rw [e]
    exact (xb_cons (xs_retR (xe_andT (xe_yt T ((xe_var 0).cast (rD_tup _))) (xe_andT ((xe_le (xe_len T.f_len ((xe_var 0).cast (rD_tup _))) (xe_gi T.i_MOST_STEPS)).cast (by rw [decide_eq_true (by rw [List.length_map]; omega)])) (xe_one (xe_all T.f_all (xe_lc1 (own := [("step", 1)]) nd (blkOk_by (N := ["value", "step"]) (by rfl)) (xi_tup ((xe_var 0).cast (rD_tup _))) (fun x hx => ⟨_, _, by decide, fun _ _ _ _ _ => ⟨(xg_name 1 nd), xts_nil, fun _ => (xe_call (ok_is_step T) hr (xa_cons (xe_var 1) xa_nil) ⟨x, rfl, rfl⟩)⟩⟩) (by show _ < 2 ^ 24; omega) |>.cast (by rw [List.map_map]; rfl)))))) hB) xb_dead)
  · have e : areSteps d = false := by
      unfold areSteps
      split
      · exact absurd rfl (hn _)
      · rfl
    rw [e]
    exact (xb_cons (xs_retR (xe_andF (xe_nt T (xe_var 0) hk)) hB) xb_dead)
/-- do the doors follow each other -/
def follow (m : Mach) : Int → List Int → Bool
  | _, [] => true
  | h, i :: is => match m.doors[i.toNat]? with
    | some d => decide (d.room = h) && follow m d.goal is
    | none => false
def S_do_follow (rs : List Vp) (r : Vp) : Prop := ∃ (m : Mach) (is : List Int), rs = [rM m, rL (is.map TL.rI)] ∧ (∀ i ∈ is, 0 ≤ i) ∧ r = rB (follow m 0 is)
theorem ok_do_follow (T : Txt mg) : Fn P w mg base "do_follow" 1 (spF S_do_follow) := by
  obtain ⟨fd, F⟩ := T.fd_do_follow
  have nd : (["machine", "doors", "here", "index"] : List Str).Nodup := by decide +kernel
  refine fn_ok (N := ["machine", "doors", "here", "index"]) (ps := ["machine", "doors"]) F T.g_do_follow (fun _ _ _ _ _ _ us hl => match us, hl with | [_, _], _ => rfl) ⟨rfl, rfl, rfl, nd, rfl, by decide +kernel, by decide +kernel⟩ (by decide)
    (by intro rs r hS; obtain ⟨m, is, rfl, h0, rfl⟩ := hS <;> rfl) fun cdv A outer s H E M rs r hr hS => ?_
  have hB := Ex.refl H
  obtain ⟨m, is, rfl, h0, rfl⟩ := hS
  refine (xb_cons (xs_set 2 nd xe_int)
    (xb_cons (Mid := fun σ H' => follow m 0 is = true ∧ TL.Env H M [] [none, none, none, none] [] σ H') (xs_for (fun i a => follow m 0 is = follow m a (is.drop i)) (fun i a => [some (rM m), none, some (TL.rI a), none]) (fun _ _ => []) (xi_list (xe_var 1)) 0 rfl ⟨rfl, rfl, trivial⟩ rfl (fun B1 i p a hB1 hp hI => ?_) ?_)
    (xb_and fun hf => (hf ▸ xb_cons (xs_retR xe_bl hB) xb_dead))))
  · obtain ⟨x, hx, rfl⟩ := map_at hp
    have hn := h0 x (mem_at hx)
    have hd : is.drop i = x :: is.drop (i + 1) := by
      obtain ⟨hl, e⟩ := List.getElem?_eq_some_iff.mp hx
      rw [List.drop_eq_getElem_cons hl, e]
    rw [hd] at hI
    refine ⟨_, _, (xg_name 3 nd), ?_⟩
    cases hq : m.doors[x.toNat]? with
    | none =>
      have hlt : m.doors.length ≤ x.toNat := List.getElem?_eq_none_iff.mp hq
      have e : follow m 0 is = false := by rw [hI, follow, hq]
      rw [e]
      exact xb_ifT (XW.t (xw_orT ((xt_ge (xe_var 3) (xe_len T.f_len (sl_do T (xe_var 0)))).cast (by rw [List.length_map]; simp; omega)))) (xb_cons (xs_retR xe_bl hB1) xb_dead)
    | some d =>
      have hlt : x.toNat < m.doors.length := (List.getElem?_eq_some_iff.mp hq).1
      have hat : atI (m.doors.map rDoor) x = some (rDoor d) := atI_int hn (map_at' hq)
      refine xb_ifM (k := !decide (d.room = a)) (XW.t (xw_orF ((xt_ge (xe_var 3) (xe_len T.f_len (sl_do T (xe_var 0)))).cast (by rw [List.length_map]; simp; omega)) (xw_or1 (xt_ne (xe_ixT (xe_ixT (sl_do T (xe_var 0)) (xe_var 3) hat) xe_int) (xe_var 2))))) (fun hc => ?_) (fun hc => ?_)
      · have e : follow m 0 is = false := by
          rw [hI, follow, hq]
          show (decide (d.room = a) && _) = false
          cases h : decide (d.room = a) with
          | false => rfl
          | true => rw [h] at hc; cases hc
        rw [e]
        exact (xb_cons (xs_retR xe_bl hB1) xb_dead)
      · exact (xb_cons (xs_set 2 nd (xe_ixT (xe_ixT (sl_do T (xe_var 0)) (xe_var 3) hat) xe_int))
          (xb_nil fun σ H E => ⟨d.goal, (by
            show _ = follow m d.goal _
            rw [hI, follow, hq]
            show (decide (d.room = a) && _) = _
            cases h : decide (d.room = a) with
            | true => rfl
            | false => rw [h] at hc; cases hc), E.sub ⟨rfl, rfl, trivial⟩⟩))
  · intro a hI σ H' E
    refine ⟨?_, E.sub trivial⟩
    rw [hI, List.length_map, List.drop_length]
    rfl
def stIx : D → Int
  | .tup [_, .int i] => i
  | _ => 0
def dIxs : D → List Int
  | .tup ds => ds.map stIx
  | _ => []
def isRun (m : Mach) (d : D) : Bool := areSteps d && follow m 0 (dIxs d)
theorem isStep_t {d : D} (h : isStep d = true) : ∃ w i, d = .tup [w, .int i] ∧ 0 ≤ i ∧ i ≤ 11 ∧ isMar w = true := by
  unfold isStep at h
  split at h
  · rename_i w i
    obtain ⟨h1, h2⟩ := He.ba h
    unfold isFrom at h2
    split at h2
    · obtain ⟨h3, h4⟩ := He.ba h2
      exact ⟨_, _, rfl, of_decide_eq_true h3, of_decide_eq_true h4, h1⟩
    · cases h2
  · cases h
theorem areSteps_t {d : D} (h : areSteps d = true) : ∃ ds, d = .tup ds ∧ ∀ x ∈ ds, isStep x = true := by
  unfold areSteps at h
  split at h
  · obtain ⟨_, h2⟩ := He.ba h
    exact ⟨_, rfl, fun x hx => List.all_eq_true.mp h2 x hx⟩
  · cases h
def S_is_run_of (rs : List Vp) (r : Vp) : Prop := ∃ m d, rs = [rM m, rD d] ∧ (∀ ds, d = .tup ds → ds.length < 20000) ∧ r = rB (isRun m d)
theorem ok_is_run_of (T : Txt mg) : Fn P w mg base "is_run_of" 7 (spF S_is_run_of) := by
  obtain ⟨fd, F⟩ := T.fd_is_run_of
  have nd : (["machine", "value", "wait", "door"] : List Str).Nodup := by decide +kernel
  refine fn_ok (N := ["machine", "value", "wait", "door"]) (ps := ["machine", "value"]) F T.g_is_run_of (fun _ _ _ _ _ _ us hl => match us, hl with | [_, _], _ => rfl) ⟨rfl, rfl, rfl, nd, rfl, by decide +kernel, by decide +kernel⟩ (by decide)
    (by intro rs r hS; obtain ⟨m, d, rfl, hl, rfl⟩ := hS <;> rfl) fun cdv A outer s H E M rs r hr hS => ?_
  have hB := Ex.refl H
  obtain ⟨m, d, rfl, hl, rfl⟩ := hS
  cases hs : areSteps d with
  | false =>
    rw [show isRun m d = false by unfold isRun; rw [hs]; rfl]
    exact (xb_cons (xs_retR (xe_andF (xe_call (ok_are_steps T) hr (xa_cons (xe_var 1) xa_nil) ⟨d, rfl, hl, by rw [hs]⟩)) hB) xb_dead)
  | true =>
    rw [show isRun m d = follow m 0 (dIxs d) by unfold isRun; rw [hs]; rfl]
    obtain ⟨ds, rfl, ha⟩ := areSteps_t hs
    have hl := hl ds rfl
    exact (xb_cons (xs_retR (xe_andT (xe_call (ok_are_steps T) hr (xa_cons (xe_var 1) xa_nil) ⟨_, rfl, fun _ h => by cases h; exact hl, by rw [hs]⟩) (xe_one (xe_call (ok_do_follow T) hr (xa_cons (xe_var 0) (xa_cons (xe_lc1 (f := fun d => TL.rI (stIx d)) (own := [("wait", 2), ("door", 3)]) nd (blkOk_by (N := ["machine", "value", "wait", "door"]) (by rfl)) (xi_tup ((xe_var 1).cast (rD_tup _))) (fun x hx => by
      obtain ⟨w, i, rfl, h0, _⟩ := isStep_t (ha x hx)
      exact ⟨_, _, by decide, fun _ _ _ _ _ => ⟨XG_cast (xg_tup (xgs_cons (p := rD w) (xg_name 2 nd) (xgs_cons (p := TL.rI i) (xg_name 3 nd) xgs_nil))) (by rw [rD_tup]; show _ = rT [rD w, rD (.int i)]; rw [rD_int]), xts_nil, fun _ => (xe_var 3)⟩⟩) (by show _ < 2 ^ 24; omega)) xa_nil)) ⟨m, ds.map stIx, by rw [List.map_map]; rfl, fun i hi => by
        obtain ⟨x, hx, rfl⟩ := List.mem_map.mp hi
        obtain ⟨w, i, rfl, h0, _⟩ := isStep_t (ha x hx)
        exact h0, rfl⟩))) hB) xb_dead)
def isStay (m : Mach) : D → Bool
  | .tup [r, w] => isRun m r && isMar w
  | _ => false
def ShortRun (d : D) : Prop := ∀ r w ds, d = .tup [r, w] → r = .tup ds → ds.length < 20000
def S_is_stay_of (rs : List Vp) (r : Vp) : Prop := ∃ m d, rs = [rM m, rD d] ∧ ShortRun d ∧ r = rB (isStay m d)
theorem ok_is_stay_of (T : Txt mg) : Fn P w mg base "is_stay_of" 8 (spF S_is_stay_of) := by
  obtain ⟨fd, F⟩ := T.fd_is_stay_of
  have nd : (["machine", "value"] : List Str).Nodup := by decide +kernel
  refine fn_ok (N := ["machine", "value"]) (ps := ["machine", "value"]) F T.g_is_stay_of (fun _ _ _ _ _ _ us hl => match us, hl with | [_, _], _ => rfl) ⟨rfl, rfl, rfl, nd, rfl, by decide +kernel, by decide +kernel⟩ (by decide)
    (by intro rs r hS; obtain ⟨m, d, rfl, hl, rfl⟩ := hS <;> rfl) fun cdv A outer s H E M rs r hr hS => ?_
  have hB := Ex.refl H
  obtain ⟨m, d, rfl, hl, rfl⟩ := hS
  rcases tup_or d with ⟨ds, rfl⟩ | ⟨hk, hn⟩
  · rcases two_or ds with ⟨x, y, rfl⟩ | ⟨h2, h3⟩
    · exact xb_ifF (XW.t (xw_orF (xt_yt T ((xe_var 1).cast (rD_tup _))) (xw_or1 ((xt_ne (xe_len T.f_len ((xe_var 1).cast (rD_tup _))) (xe_gi T.i_PAIR_nets)).cast rfl))))
        (xb_cons (xs_retR (xe_and (l := isMar y) (xe_call (ok_is_run_of T) hr (xa_cons (xe_var 0) (xa_cons (xe_ixT ((xe_var 1).cast (rD_tup _)) xe_int) xa_nil)) ⟨m, x, rfl, fun ds h => hl _ _ ds rfl h, rfl⟩) fun _ => (xe_one (xe_call (ok_is_margin T) hr (xa_cons (xe_ixT ((xe_var 1).cast (rD_tup _)) xe_int) xa_nil) ⟨y, rfl, rfl⟩))) hB) xb_dead)
    · have e : isStay m (.tup ds) = false := by
        unfold isStay
        split
        · rename_i h; cases h; exact absurd rfl (h3 _ _)
        · rfl
      rw [e]
      exact xb_ifT (XW.t (xw_orF (xt_yt T ((xe_var 1).cast (rD_tup _))) (xw_or1 ((xt_ne (xe_len T.f_len ((xe_var 1).cast (rD_tup _))) (xe_gi T.i_PAIR_nets)).cast (ne2 h2))))) (xb_cons (xs_retR xe_bl hB) xb_dead)
  · have e : isStay m d = false := by
      unfold isStay
      split
      · exact absurd rfl (hn _)
      · rfl
    rw [e]
    exact xb_ifT (XW.t (xw_orT (xt_nt T (xe_var 1) hk))) (xb_cons (xs_retR xe_bl hB) xb_dead)
end
end M33
namespace M33
open PySem PySem.Spec PyProof.Rows L2 TL
section
variable [KK] {P : Program} {w : World} {mg : Str → Option Value} {base : Heap}
/-! ### seams -/
theorem zipP_map {α β : Type} {f : α → Vp} {g : β → Vp} (l : List α) (m : List β) : zipP (l.map f) (m.map g) = (l.zip m).map fun p => rT [f p.1, g p.2] := by
  unfold zipP
  induction l generalizing m with
  | nil => rfl
  | cons x l ih =>
    cases m with
    | nil => rfl
    | cons y m => simp only [List.map_cons, List.zipWith_cons_cons, List.zip_cons_cons]; rw [ih]
theorem enumP_map {α : Type} {f : α → Vp} (l : List α) : enumP (l.map f) = l.zipIdx.map fun q => rT [TL.rI (q.2 : Int), f q.1] := by
  unfold enumP
  rw [List.zipIdx_map, List.map_map]
  rfl
theorem cut1 {α : Type} {f : α → Vp} (l : List α) : cutP (l.map f) (some 1) none = l.tail.map f := by
  unfold cutP
  rw [HT.sIx_none]
  cases l with
  | nil => rfl
  | cons x l =>
    have e : HT.sIx ((x :: l).map f).length 0 (some 1) = 1 := by
      show HT.sIx _ 0 (some ((1 : Nat) : Int)) = 1
      rw [HT.sIx_nat, List.length_map, List.length_cons]
      omega
    rw [e, List.map_cons, List.drop_succ_cons, List.drop_zero, List.length_cons, List.length_map, List.tail_cons]
    rw [List.take_of_length_le (by rw [List.length_map]; omega)]
section
variable {X : Cx} {G : En} {e a : Expr} {pos ps : Pos}
theorem xe_allT {α : Type} {l : List α} (hm : X.mg "all" = none) (ha : XE X e G (rL (l.map fun _ => rB true))) (hc : X.calm = true := by rfl) (hg : Gl X "all" := by rfl) (hs : starEach [e] X.env = [(false, eval e X.env)] := by rfl) : XE X (.Call (.Name "all" ps) [e] [] pos) G (rB true) :=
  (xe_all (bs := l.map fun _ => true) hm (ha.cast (by rw [List.map_map]; rfl)) hc hg hs).cast (by rw [show (l.map fun _ => true).all id = true from List.all_eq_true.mpr fun x hx => by obtain ⟨_, _, rfl⟩ := List.mem_map.mp hx; rfl])
theorem xt_notT (h : XT X a G true) : XT X (.UnaryOp .Not a pos) G false := (xt_not h).cast rfl
end
omit [TL.KK] in
theorem lt_of_len {α : Type} {l : List α} (h : l.length ≤ 1000) : l.length < sizeLine := by show _ < 2 ^ 24; omega
def S_are_limits (rs : List Vp) (r : Vp) : Prop := ∃ (c : Nat) (l : List Int), rs = [TL.rI c, rLim l] ∧ l.length = c ∧ c ≤ 3 ∧ (∀ x ∈ l, 0 ≤ x ∧ x ≤ 4) ∧ r = rB true
theorem ok_are_limits (T : Txt mg) : Fn P w mg base "are_limits" 3 (spF S_are_limits) := by
  obtain ⟨fd, F⟩ := T.fd_are_limits
  have nd : (["clocks", "value", "number"] : List Str).Nodup := by decide +kernel
  refine fn_ok (N := ["clocks", "value", "number"]) (ps := ["clocks", "value"]) F T.g_are_limits (fun _ _ _ _ _ _ us hl => match us, hl with | [_, _], _ => rfl) ⟨rfl, rfl, rfl, nd, rfl, by decide +kernel, by decide +kernel⟩ (by decide)
    (by intro rs r hS; obtain ⟨c, l, rfl, hl, h3, hx, rfl⟩ := hS <;> rfl) fun cdv A outer s H E M rs r hr hS => ?_
  have hB := Ex.refl H
  obtain ⟨c, l, rfl, hl, h3, hx, rfl⟩ := hS
  exact xb_ifF (XW.t (xw_orF (xt_yt T (xe_var 1)) (xw_or1 ((xt_ne (xe_len T.f_len (xe_var 1)) (xe_var 0)).cast (by rw [List.length_map, hl]; simp)))))
    (xb_cons (xs_retR (xe_allT T.f_all (xe_lc1 (f := fun _ => rB true) (own := [("number", 2)]) nd (blkOk_by (N := ["clocks", "value", "number"]) (by rfl)) (xi_tup (xe_var 1)) (fun x hx' => ⟨_, _, by decide, fun _ _ _ _ _ => ⟨(xg_name 2 nd), xts_nil, fun _ => (xe_call (ok_is_from T) hr (xa_cons (xe_var 2) (xa_cons xe_int (xa_cons (xe_gi T.i_MOST_NUMBER) xa_nil))) (sI_from (hx x hx').1 (hx x hx').2))⟩⟩) (lt_of_len (by omega)))) hB) xb_dead)
def GdOk (g : Int × Int) : Prop := 0 ≤ g.1 ∧ g.1 ≤ g.2 ∧ g.2 ≤ 4
def S_is_guard (rs : List Vp) (r : Vp) : Prop := ∃ g, rs = [rG g] ∧ GdOk g ∧ r = rB true
theorem ok_is_guard (T : Txt mg) : Fn P w mg base "is_guard" 3 (spF S_is_guard) := by
  obtain ⟨fd, F⟩ := T.fd_is_guard
  have nd : (["value"] : List Str).Nodup := by decide +kernel
  refine fn_ok (N := ["value"]) (ps := ["value"]) F T.g_is_guard (fun _ _ _ _ _ _ us hl => match us, hl with | [_], _ => rfl) ⟨rfl, rfl, rfl, nd, rfl, by decide +kernel, by decide +kernel⟩ (by decide)
    (by intro rs r hS; obtain ⟨g, rfl, ⟨h0, h1, h2⟩, rfl⟩ := hS <;> rfl) fun cdv A outer s H E M rs r hr hS => ?_
  have hB := Ex.refl H
  obtain ⟨g, rfl, ⟨h0, h1, h2⟩, rfl⟩ := hS
  exact xb_ifF (XW.t (xw_orF (xt_yt T (xe_var 0)) (xw_orF ((xt_ne (xe_len T.f_len (xe_var 0)) (xe_gi T.i_PAIR_machines)).cast rfl) (xw_or1 (xt_notT (xt_val (xe_call (ok_is_from T) hr (xa_cons (xe_ixT (xe_var 0) xe_int) (xa_cons xe_int (xa_cons (xe_gi T.i_MOST_NUMBER) xa_nil))) (sI_from h0 (by omega)))))))))
    (xb_cons (xs_retR (xe_call (ok_is_from T) hr (xa_cons (xe_ixT (xe_var 0) xe_int) (xa_cons (xe_ixT (xe_var 0) xe_int) (xa_cons (xe_gi T.i_MOST_NUMBER) xa_nil))) (sI_from h1 h2)) hB) xb_dead)
def S_are_guards (rs : List Vp) (r : Vp) : Prop := ∃ (c : Nat) (l : List (Int × Int)), rs = [TL.rI c, rT (l.map rG)] ∧ l.length = c ∧ c ≤ 3 ∧ (∀ x ∈ l, GdOk x) ∧ r = rB true
theorem ok_are_guards (T : Txt mg) : Fn P w mg base "are_guards" 4 (spF S_are_guards) := by
  obtain ⟨fd, F⟩ := T.fd_are_guards
  have nd : (["clocks", "value", "guard"] : List Str).Nodup := by decide +kernel
  refine fn_ok (N := ["clocks", "value", "guard"]) (ps := ["clocks", "value"]) F T.g_are_guards (fun _ _ _ _ _ _ us hl => match us, hl with | [_, _], _ => rfl) ⟨rfl, rfl, rfl, nd, rfl, by decide +kernel, by decide +kernel⟩ (by decide)
    (by intro rs r hS; obtain ⟨c, l, rfl, hl, h3, hx, rfl⟩ := hS <;> rfl) fun cdv A outer s H E M rs r hr hS => ?_
  have hB := Ex.refl H
  obtain ⟨c, l, rfl, hl, h3, hx, rfl⟩ := hS
  exact (xb_cons (xs_retR (xe_andT (xe_yt T (xe_var 1)) (xe_andT ((xe_eq (xe_len T.f_len (xe_var 1)) (xe_var 0)).cast (by rw [List.length_map, hl]; simp)) (xe_one (xe_allT T.f_all (xe_lc1 (f := fun _ => rB true) (own := [("guard", 2)]) nd (blkOk_by (N := ["clocks", "value", "guard"]) (by rfl)) (xi_tup (xe_var 1)) (fun x hx' => ⟨_, _, by decide, fun _ _ _ _ _ => ⟨(xg_name 2 nd), xts_nil, fun _ => (xe_call (ok_is_guard T) hr (xa_cons (xe_var 2) xa_nil) ⟨x, rfl, hx x hx', rfl⟩)⟩⟩) (lt_of_len (by omega))))))) hB) xb_dead)
def S_is_ascending (rs : List Vp) (r : Vp) : Prop := ∃ (l : List Int) (c : Nat), rs = [rT (l.map TL.rI), TL.rI c] ∧ l.length ≤ 3 ∧ (∀ x ∈ l, 0 ≤ x ∧ x < c) ∧ l.Pairwise (· < ·) ∧ r = rB true
omit [TL.KK] in
theorem pw_zip : ∀ {l : List Int}, l.Pairwise (· < ·) → ∀ p ∈ l.zip l.tail, p.1 < p.2
  | [], _, _, h => nomatch h
  | [_], _, _, h => nomatch h
  | x :: y :: l, hp, p, h => by
    rw [List.tail_cons, List.zip_cons_cons] at h
    cases hp with
    | cons h1 h2 =>
      rcases List.mem_cons.mp h with rfl | h
      · exact h1 y List.mem_cons_self
      · exact pw_zip h2 p h
theorem ok_is_ascending (T : Txt mg) : Fn P w mg base "is_ascending" 3 (spF S_is_ascending) := by
  obtain ⟨fd, F⟩ := T.fd_is_ascending
  have nd : (["value", "many", "one", "other"] : List Str).Nodup := by decide +kernel
  refine fn_ok (N := ["value", "many", "one", "other"]) (ps := ["value", "many"]) F T.g_is_ascending (fun _ _ _ _ _ _ us hl => match us, hl with | [_, _], _ => rfl) ⟨rfl, rfl, rfl, nd, rfl, by decide +kernel, by decide +kernel⟩ (by decide)
    (by intro rs r hS; obtain ⟨l, c, rfl, h3, hx, hp, rfl⟩ := hS <;> rfl) fun cdv A outer s H E M rs r hr hS => ?_
  have hB := Ex.refl H
  obtain ⟨l, c, rfl, h3, hx, hp, rfl⟩ := hS
  exact xb_ifF (XW.t (xw_orF (xt_yt T (xe_var 0)) (xw_or1 (xt_notT (xt_val (xe_allT T.f_all (xe_lc1 (f := fun _ => rB true) (own := [("one", 2)]) nd (blkOk_by (N := ["value", "many", "one", "other"]) (by rfl)) (xi_tup (xe_var 0)) (fun x hx' => ⟨_, _, by decide, fun _ _ _ _ _ => ⟨(xg_name 2 nd), xts_nil, fun _ => (xe_call (ok_is_from T) hr (xa_cons (xe_var 2) (xa_cons xe_int (xa_cons (xe_sub (xe_var 1) xe_int) xa_nil))) (sI_from (hx x hx').1 (by have := (hx x hx').2; omega)))⟩⟩) (lt_of_len (by omega)))))))))
    (xb_cons (xs_retR (xe_allT T.f_all (xe_lc1 (f := fun _ => rB true) (own := [("one", 2), ("other", 3)]) nd (blkOk_by (N := ["value", "many", "one", "other"]) (by rfl)) ((xi_zipT T.f_zip (xe_var 0) (xe_slT (xe_var 0) (xo_some xe_int) xo_none)).cast (by rw [cut1, zipP_map])) (fun x hx' => ⟨_, _, by decide, fun _ _ _ _ _ => ⟨(xg_tup (xgs_cons (xg_name 2 nd) (xgs_cons (xg_name 3 nd) xgs_nil))), xts_nil, fun _ => ((xe_lt (xe_var 2) (xe_var 3)).cast (by rw [decide_eq_true (pw_zip hp x hx')]))⟩⟩) (lt_of_len (by rw [List.length_zip]; omega)))) hB) xb_dead)
def S_is_door_in (rs : List Vp) (r : Vp) : Prop := ∃ (c n : Nat) (d : Door), rs = [TL.rI c, TL.rI n, rDoor d] ∧ c ≤ 3 ∧ DoorOk c n d ∧ r = rB true
omit [TL.KK] in
theorem pw_len {c : Nat} : ∀ {l : List Int} {a : Int}, l.Pairwise (· < ·) → (∀ x ∈ l, a ≤ x ∧ x < c) → (l.length : Int) ≤ max 0 (c - a)
  | [], a, _, _ => by simp; omega
  | x :: l, a, hp, h => by
    cases hp with
    | cons h1 h2 =>
      have h3 := pw_len (a := x + 1) h2 fun y hy => ⟨h1 y hy, (h y (List.mem_cons_of_mem _ hy)).2⟩
      have h4 := h x List.mem_cons_self
      rw [List.length_cons]
      omega
theorem ok_is_door_in (T : Txt mg) : Fn P w mg base "is_door_in" 5 (spF S_is_door_in) := by
  obtain ⟨fd, F⟩ := T.fd_is_door_in
  have nd : (["clocks", "rooms", "value"] : List Str).Nodup := by decide +kernel
  refine fn_ok (N := ["clocks", "rooms", "value"]) (ps := ["clocks", "rooms", "value"]) F T.g_is_door_in (fun _ _ _ _ _ _ us hl => match us, hl with | [_, _, _], _ => rfl) ⟨rfl, rfl, rfl, nd, rfl, by decide +kernel, by decide +kernel⟩ (by decide)
    (by intro rs r hS; obtain ⟨c, n, d, rfl, h3, hd, rfl⟩ := hS <;> rfl) fun cdv A outer s H E M rs r hr hS => ?_
  have hB := Ex.refl H
  obtain ⟨c, n, d, rfl, h3, hd, rfl⟩ := hS
  have hl : d.rs.length ≤ 3 := by
    have := pw_len hd.asc hd.rs
    omega
  exact xb_ifF (XW.t (xw_orF (xt_yt T (xe_var 2)) (xw_orF ((xt_ne (xe_len T.f_len (xe_var 2)) (xe_gi T.i_DOOR_SIZE)).cast rfl) (xw_or1 (xt_notT (xt_val (xe_call (ok_is_from T) hr (xa_cons (xe_ixT (xe_var 2) xe_int) (xa_cons xe_int (xa_cons (xe_sub (xe_var 1) xe_int) xa_nil))) (sI_from hd.r0 (by have := hd.r1; omega)))))))))
    (xb_ifF (XW.t (xw_orF (xt_notT (xt_val (xe_call (ok_are_guards T) hr (xa_cons (xe_var 0) (xa_cons (xe_ixT (xe_var 2) xe_int) xa_nil)) ⟨c, d.gs, rfl, hd.gl, h3, hd.g, rfl⟩))) (xw_or1 (xt_notT (xt_val (xe_call (ok_is_ascending T) hr (xa_cons (xe_ixT (xe_var 2) xe_int) (xa_cons (xe_var 0) xa_nil)) ⟨d.rs, c, rfl, hl, hd.rs, hd.asc, rfl⟩))))))
    (xb_cons (xs_retR (xe_call (ok_is_from T) hr (xa_cons (xe_ixT (xe_var 2) xe_int) (xa_cons xe_int (xa_cons (xe_sub (xe_var 1) xe_int) xa_nil))) (sI_from hd.o0 (by have := hd.o1; omega))) hB) xb_dead))
theorem eqv_nil : PyData.eqv (.list []) (.list []) = true := by decide +kernel
theorem xt_neNil {X : Cx} {G : En} {a : Expr} {p1 pos : Pos} {k : Nat} (hr : Room k X.A) (ha : XE X a G (rL [])) (hK : X.K = KK.K := by rfl) : XT X (.Compare a [.NotEq] [.List [] p1] pos) G false :=
  (xt_neD hr ha (xe_lst xa_nil) rfl rfl hK).cast (by rw [eqv_nil]; rfl)
def S_rooms_fault (rs : List Vp) (r : Vp) : Prop := ∃ (c : Nat) (ls : List (List Int)), rs = [TL.rI c, rLims ls] ∧ c ≤ 3 ∧ 1 ≤ ls.length ∧ ls.length ≤ 6 ∧ (∀ l ∈ ls, l.length = c) ∧ (∀ l ∈ ls, ∀ x ∈ l, 0 ≤ x ∧ x ≤ 4) ∧ r = rN
omit [TL.KK] in
theorem zi_mem {α : Type} {l : List α} {q : α × Nat} (h : q ∈ l.zipIdx) : q.1 ∈ l := by
  obtain ⟨x, i⟩ := q
  exact List.fst_mem_of_mem_zipIdx h
omit [TL.KK] in
theorem filt_nil {α : Type} (l : List α) : l.filter (fun _ => false) = [] := by simp
theorem ok_rooms_fault (T : Txt mg) : Fn P w mg base "rooms_fault" 4 (spF S_rooms_fault) := by
  obtain ⟨fd, F⟩ := T.fd_rooms_fault
  have nd : (["clocks", "limits", "wrong", "room", "value"] : List Str).Nodup := by decide +kernel
  refine fn_ok (N := ["clocks", "limits", "wrong", "room", "value"]) (ps := ["clocks", "limits"]) F T.g_rooms_fault (fun _ _ _ _ _ _ us hl => match us, hl with | [_, _], _ => rfl) ⟨rfl, rfl, rfl, nd, rfl, by decide +kernel, by decide +kernel⟩ (by decide)
    (by intro rs r hS; obtain ⟨c, ls, rfl, h3, h1, h6, hl, hx, rfl⟩ := hS <;> rfl) fun cdv A outer s H E M rs r hr hS => ?_
  have hB := Ex.refl H
  obtain ⟨c, ls, rfl, h3, h1, h6, hl, hx, rfl⟩ := hS
  exact xb_ifF (XW.t (xw_orF (xt_yt T (xe_var 1)) (xw_or1 (xt_notT ((xt_lele xe_int (xe_len T.f_len (xe_var 1)) (xe_gi T.i_MOST_ROOMS)).cast (by rw [List.length_map, decide_eq_true (by omega), decide_eq_true (by omega)]; rfl))))))
    (xb_cons (xs_setLc 2 (xs := ls.zipIdx) (bf := fun _ => false) (f := fun q => TL.rI (q.2 : Int)) (own := [("room", 3), ("value", 4)]) nd (blkOk_by (N := ["clocks", "limits", "wrong", "room", "value"]) (by rfl)) ((xi_enumT T.f_enumerate (xe_var 1)).cast (enumP_map ls)) (fun x hx' => ⟨_, _, by decide, fun _ _ _ _ _ => ⟨(xg_tup (xgs_cons (xg_name 3 nd) (xgs_cons (xg_name 4 nd) xgs_nil))), xts_one (xt_notT (xt_val (xe_call (ok_are_limits T) hr (xa_cons (xe_var 0) (xa_cons (xe_var 4) xa_nil)) ⟨c, x.1, rfl, hl _ (zi_mem hx'), h3, hx _ (zi_mem hx'), rfl⟩))), fun _ => (xe_var 3)⟩⟩) (lt_of_len (by rw [List.length_zipIdx]; omega)))
    (xb_cons (xs_retR (xe_if (xt_neNil hr ((xe_var 2).cast (by rw [filt_nil]; rfl))) (fun h => nomatch h) (fun _ => xe_non)) hB) xb_dead))
def S_doors_fault (rs : List Vp) (r : Vp) : Prop := ∃ (c n : Nat) (ds : List Door), rs = [TL.rI c, TL.rI n, rDoors ds] ∧ c ≤ 3 ∧ ds.length ≤ 12 ∧ (∀ d ∈ ds, DoorOk c n d) ∧ r = rN
theorem ok_doors_fault (T : Txt mg) : Fn P w mg base "doors_fault" 6 (spF S_doors_fault) := by
  obtain ⟨fd, F⟩ := T.fd_doors_fault
  have nd : (["clocks", "rooms", "doors", "wrong", "index", "value"] : List Str).Nodup := by decide +kernel
  refine fn_ok (N := ["clocks", "rooms", "doors", "wrong", "index", "value"]) (ps := ["clocks", "rooms", "doors"]) F T.g_doors_fault (fun _ _ _ _ _ _ us hl => match us, hl with | [_, _, _], _ => rfl) ⟨rfl, rfl, rfl, nd, rfl, by decide +kernel, by decide +kernel⟩ (by decide)
    (by intro rs r hS; obtain ⟨c, n, ds, rfl, h3, h12, hx, rfl⟩ := hS <;> rfl) fun cdv A outer s H E M rs r hr hS => ?_
  have hB := Ex.refl H
  obtain ⟨c, n, ds, rfl, h3, h12, hx, rfl⟩ := hS
  exact xb_ifF (XW.t (xw_orF (xt_yt T (xe_var 2)) (xw_or1 ((xt_gt (xe_len T.f_len (xe_var 2)) (xe_gi T.i_MOST_DOORS)).cast (decide_eq_false (by rw [List.length_map]; omega))))))
    (xb_cons (xs_setLc 3 (xs := ds.zipIdx) (bf := fun _ => false) (f := fun q => TL.rI (q.2 : Int)) (own := [("index", 4), ("value", 5)]) nd (blkOk_by (N := ["clocks", "rooms", "doors", "wrong", "index", "value"]) (by rfl)) ((xi_enumT T.f_enumerate (xe_var 2)).cast (enumP_map ds)) (fun x hx' => ⟨_, _, by decide, fun _ _ _ _ _ => ⟨(xg_tup (xgs_cons (xg_name 4 nd) (xgs_cons (xg_name 5 nd) xgs_nil))), xts_one (xt_notT (xt_val (xe_call (ok_is_door_in T) hr (xa_cons (xe_var 0) (xa_cons (xe_var 1) (xa_cons (xe_var 5) xa_nil))) ⟨c, n, x.1, rfl, h3, hx _ (zi_mem hx'), rfl⟩))), fun _ => (xe_var 4)⟩⟩) (lt_of_len (by rw [List.length_zipIdx]; omega)))
    (xb_cons (xs_retR (xe_if (xt_neNil hr ((xe_var 3).cast (by rw [filt_nil]; rfl))) (fun h => nomatch h) (fun _ => xe_non)) hB) xb_dead))
def S_fault_of (rs : List Vp) (r : Vp) : Prop := ∃ m : Mach, rs = [TL.rI m.cl, rLims m.lims, rDoors m.doors] ∧ MachOk m ∧ r = rN
theorem ok_fault_of (T : Txt mg) : Fn P w mg base "fault_of" 7 (spF S_fault_of) := by
  obtain ⟨fd, F⟩ := T.fd_fault_of
  have nd : (["clocks", "limits", "doors", "found"] : List Str).Nodup := by decide +kernel
  refine fn_ok (N := ["clocks", "limits", "doors", "found"]) (ps := ["clocks", "limits", "doors"]) F T.g_fault_of (fun _ _ _ _ _ _ us hl => match us, hl with | [_, _, _], _ => rfl) ⟨rfl, rfl, rfl, nd, rfl, by decide +kernel, by decide +kernel⟩ (by decide)
    (by intro rs r hS; obtain ⟨m, rfl, hm, rfl⟩ := hS <;> rfl) fun cdv A outer s H E M rs r hr hS => ?_
  have hB := Ex.refl H
  obtain ⟨m, rfl, hm, rfl⟩ := hS
  exact xb_ifF (xt_notT (xt_val (xe_call (ok_is_from T) hr (xa_cons (xe_var 0) (xa_cons xe_int (xa_cons (xe_gi T.i_MOST_CLOCKS) xa_nil))) (sI_from (by have := hm.c1; omega) (by have := hm.c3; omega)))))
    (xb_cons (xs_set 3 nd (xe_call (ok_rooms_fault T) hr (xa_cons (xe_var 0) (xa_cons (xe_var 1) xa_nil)) ⟨_, _, rfl, hm.c3, hm.l1, hm.l6, hm.ll, hm.lb, rfl⟩))
    (xb_cons (xs_retR (xe_if ((xt_isnot (xe_var 3) non_n).cast rfl) (fun h => nomatch h) (fun _ => (xe_call (ok_doors_fault T) hr (xa_cons (xe_var 0) (xa_cons ((xe_len T.f_len (xe_var 1)).cast (by rw [List.length_map])) (xa_cons (xe_var 2) xa_nil))) ⟨_, _, _, rfl, hm.c3, hm.d12, hm.dk, rfl⟩))) hB) xb_dead))
/-! ### a machine made -/
def S_Machine_init (rs : List Vp) (fs : En) : Prop := ∃ m : Mach, rs = [TL.rI m.cl, rLims m.lims, rDoors m.doors] ∧ MachOk m ∧ fs = [some (TL.rI m.cl), some (rDoors m.doors), some (rLims m.lims)]
theorem ok_Machine_init (T : Txt mg) : FnI P w mg base (He.ma KK.K (He.ga KK.K "Machine") "__init__") 8 (spI CM S_Machine_init) := by
  obtain ⟨fd, F⟩ := T.fd_Machine_init
  have nd : (["self", "clocks", "limits", "doors"] : List Str).Nodup := by decide +kernel
  refine fnI_ok (N := ["self", "clocks", "limits", "doors"]) (ps := ["self", "clocks", "limits", "doors"]) F (fun _ _ _ _ _ _ us hl => match us, hl with | [_, _, _, _], _ => rfl) ⟨rfl, rfl, rfl, nd, rfl, by decide +kernel, by decide +kernel⟩ (by decide)
    (by intro rs r hS; obtain ⟨m, rfl, hm, rfl⟩ := hS; rfl) fun cdv A outer s H B E M rs fs x dx hr hS fx fd ne hB hM => ?_
  obtain ⟨m, rfl, hm, rfl⟩ := hS
  exact xb_ifF ((xt_isnot (xe_call (ok_fault_of T) hr (xa_cons (xe_var 1) (xa_cons (xe_var 2) (xa_cons (xe_var 3) xa_nil))) ⟨m, rfl, hm, rfl⟩) non_n).cast rfl)
    (XB.pre (xb_cons (xs_slot 0 (scl_ok (ex6 T).m).1 (slt_ok (ex6 T).m0) (xe_var 0) (xe_var 1) (by simp))
    (xb_cons (xs_slot 2 (scl_ok (ex6 T).m).1 (slt_ok (ex6 T).m2) (xe_var 0) (xe_var 2) (by simp))
    (xb_cons (xs_slot 1 (scl_ok (ex6 T).m).1 (slt_ok (ex6 T).m1) (xe_var 0) (xe_var 3) (by simp))
    (xb_nil fun σ H' R => raw_end R (fun i r h => by
      match i, h with
      | 0, h => cases h; simp
      | 1, h => cases h; simp
      | 2, h => cases h; simp
      | i + 3, h => simp at h) (by simp)))))
    fun σ H' E => raw_of hB fx fd ne hM E)
theorem xe_Machine {X : Cx} {G : En} {es : List Expr} {e : Expr} {pos ps : Pos} {m : Mach} {k : Nat} (T : Txt mg) (hr : Room k X.A) (ha : XA X (e :: es) G [TL.rI m.cl, rLims m.lims, rDoors m.doors]) (hm : MachOk m) (hj : 9 ≤ k := by decide) (hg : Gl X "Machine" := by rfl) (hK : X.K = KK.K := by rfl) (hmg : X.mg = mg := by rfl)
    (he : starEach (e :: es) X.env = (false, eval e X.env) :: starEach es X.env := by rfl) (hpl : (backTo pos (starEach es X.env)).any (·.1) = false := by rfl) : XE X (.Call (.Name "Machine" ps) (e :: es) [] pos) G (rM m) :=
  xe_make (C := CM) T.m_Machine (by rw [hmg]; exact ok_Machine_init T) hr (by rw [hmg]; exact T.g_Machine) ha (show S_Machine_init _ _ from ⟨m, rfl, hm, rfl⟩) hj hg hK (by decide) he hpl
theorem kitOk (T : Txt mg) : PySem.W.kitOne KK.K (.ref CM) (.ref CM) = some true ∧ PySem.W.kitOne KK.K (.ref CN) (.ref CN) = some true := by
  have h := (He.ba (He.ba T.c.ex).2).1
  obtain ⟨h1, h2⟩ := He.ba h
  exact ⟨of_decide_eq_true h1, of_decide_eq_true h2⟩
theorem xe_isiM {X : Cx} {G : En} {a : Expr} {p1 p2 pos : Pos} {m : Mach} (T : Txt mg) (ha : XE X a G (rM m)) (hmg : X.mg = mg := by rfl) (hK : X.K = KK.K := by rfl) (hg : Gl X "isinstance" := by rfl) (hg2 : Gl X "Machine" := by rfl) (hs1 : starEach [a, .Name "Machine" p2] X.env = (false, eval a X.env) :: starEach [.Name "Machine" p2] X.env := by rfl)
    (hs2 : starEach [.Name "Machine" p2] X.env = [(false, eval (.Name "Machine" p2) X.env)] := by rfl) : XE X (.Call (.Name "isinstance" p1) [a, .Name "Machine" p2] [] pos) G (rB true) :=
  xe_isiO (by rw [hmg]; exact T.f_isinstance) ha (xe_gl (v := .ref CM) (u := .ref CM) (by rw [hmg]; exact T.g_Machine) rfl (fun _ => rfl) hg2) (scl_ok (ex6 T).m).1 (scl_ok (ex6 T).m).2 (kitOk T).1 hK hg hs1 hs2
theorem xe_isiN {X : Cx} {G : En} {a : Expr} {p1 p2 pos : Pos} {n : Net} (T : Txt mg) (ha : XE X a G (rNet n)) (hmg : X.mg = mg := by rfl) (hK : X.K = KK.K := by rfl) (hg : Gl X "isinstance" := by rfl) (hg2 : Gl X "Net" := by rfl) (hs1 : starEach [a, .Name "Net" p2] X.env = (false, eval a X.env) :: starEach [.Name "Net" p2] X.env := by rfl)
    (hs2 : starEach [.Name "Net" p2] X.env = [(false, eval (.Name "Net" p2) X.env)] := by rfl) : XE X (.Call (.Name "isinstance" p1) [a, .Name "Net" p2] [] pos) G (rB true) :=
  xe_isiO (by rw [hmg]; exact T.f_isinstance) ha (xe_gl (v := .ref CN) (u := .ref CN) (by rw [hmg]; exact T.g_Net) rfl (fun _ => rfl) hg2) (scl_ok (ex6 T).n).1 (scl_ok (ex6 T).n).2 (kitOk T).2 hK hg hs1 hs2
def S_require_machine (rs : List Vp) (r : Vp) : Prop := ∃ m, rs = [rM m] ∧ r = rN
theorem ok_require_machine (T : Txt mg) : Fn P w mg base "require_machine" 1 (spF S_require_machine) := by
  obtain ⟨fd, F⟩ := T.fd_require_machine
  have nd : (["value"] : List Str).Nodup := by decide +kernel
  refine fn_ok (N := ["value"]) (ps := ["value"]) F T.g_require_machine (fun _ _ _ _ _ _ us hl => match us, hl with | [_], _ => rfl) ⟨rfl, rfl, rfl, nd, rfl, by decide +kernel, by decide +kernel⟩ (by decide)
    (by intro rs r hS; obtain ⟨m, rfl, rfl⟩ := hS <;> rfl) fun cdv A outer s H E M rs r hr hS => ?_
  have hB := Ex.refl H
  obtain ⟨m, rfl, rfl⟩ := hS
  exact xb_ifF (xt_notT (xt_val (xe_isiM T (xe_var 0)))) (xb_endN hB)
def S_require_net (rs : List Vp) (r : Vp) : Prop := ∃ n, rs = [rNet n] ∧ r = rN
theorem ok_require_net (T : Txt mg) : Fn P w mg base "require_net" 1 (spF S_require_net) := by
  obtain ⟨fd, F⟩ := T.fd_require_net
  have nd : (["value"] : List Str).Nodup := by decide +kernel
  refine fn_ok (N := ["value"]) (ps := ["value"]) F T.g_require_net (fun _ _ _ _ _ _ us hl => match us, hl with | [_], _ => rfl) ⟨rfl, rfl, rfl, nd, rfl, by decide +kernel, by decide +kernel⟩ (by decide)
    (by intro rs r hS; obtain ⟨n, rfl, rfl⟩ := hS <;> rfl) fun cdv A outer s H E M rs r hr hS => ?_
  have hB := Ex.refl H
  obtain ⟨n, rfl, rfl⟩ := hS
  exact xb_ifF (xt_notT (xt_val (xe_isiN T (xe_var 0)))) (xb_endN hB)
end
end M33
namespace M33
open PySem PySem.Spec PyProof.Rows L2 TL
/-! ### plain -/
def grownK (rd : List Int) (w : Int) : List Int := rd.map (· + w)
def putB (rd rs : List Int) : List Int := rd.zipIdx.map fun q => if (q.2 : Int) ∈ rs then 0 else q.1
def abv (k b : Int) : Int := max 0 (k - 12 * b)
def blw (k b : Int) : Int := max 0 (12 * b - k)
def door (m : Mach) (i : Int) : Door := (m.doors[i.toNat]?).getD ⟨0, [], [], 0⟩
def lim (m : Mach) (r : Int) : List Int := (m.lims[r.toNat]?).getD []
def overs (rd ls : List Int) : List Int := (rd.zip ls).map fun p => abv p.1 p.2
def lows (rd : List Int) (gs : List (Int × Int)) : List Int := (rd.zip gs).map fun p => blw p.1 p.2.1
def highs (rd : List Int) (gs : List (Int × Int)) : List Int := (rd.zip gs).map fun p => abv p.1 p.2.2
def stp (m : Mach) (s : Int × List Int) (x : Int × Int) : Int × List Int := ((door m x.2).goal, putB (grownK s.2 x.1) (door m x.2).rs)
def st0 (m : Mach) : Int × List Int := (0, List.replicate m.cl 0)
def stf (m : Mach) (run : List (Int × Int)) (i : Nat) : Int × List Int := (run.take i).foldl (stp m) (st0 m)
def mxl : List Int → Int
  | [] => 0
  | k :: ks => mx k ks
def four (m : Mach) (s : Int × List Int) (x : Int × Int) : List (List Int) :=
  [overs (grownK s.2 x.1) (lim m s.1), lows (grownK s.2 x.1) (door m x.2).gs, highs (grownK s.2 x.1) (door m x.2).gs, overs (stp m s x).2 (lim m (stp m s x).1)]
def need (m : Mach) (run : List (Int × Int)) : Int := run.zipIdx.foldl (fun acc q => mx acc ((four m (stf m run q.2) q.1).map mxl)) 0
structure RunOk (m : Mach) (run : List (Int × Int)) : Prop where
  len : run.length ≤ 100
  w : ∀ x ∈ run, 0 ≤ x.1 ∧ x.1 ≤ 1000
  d : ∀ x ∈ run, 0 ≤ x.2 ∧ x.2.toNat < m.doors.length
structure SOk (m : Mach) (s : Int × List Int) (t : Int) : Prop where
  r0 : 0 ≤ s.1
  r1 : s.1.toNat < m.lims.length
  l : s.2.length = m.cl
  b : ∀ k ∈ s.2, 0 ≤ k ∧ k ≤ t
theorem door_get {m : Mach} {i : Int} (h : i.toNat < m.doors.length) : m.doors[i.toNat]? = some (door m i) := by
  unfold door
  rw [List.getElem?_eq_getElem h]
  rfl
theorem lim_get {m : Mach} {i : Int} (h : i.toNat < m.lims.length) : m.lims[i.toNat]? = some (lim m i) := by
  unfold lim
  rw [List.getElem?_eq_getElem h]
  rfl
theorem door_ok {m : Mach} (hm : MachOk m) {i : Int} (h : i.toNat < m.doors.length) : DoorOk m.cl m.lims.length (door m i) := hm.dk _ (List.mem_of_getElem? (door_get h))
theorem lim_len {m : Mach} (hm : MachOk m) {i : Int} (h : i.toNat < m.lims.length) : (lim m i).length = m.cl := hm.ll _ (List.mem_of_getElem? (lim_get h))
theorem lim_b {m : Mach} (hm : MachOk m) {i : Int} (h : i.toNat < m.lims.length) : ∀ x ∈ lim m i, 0 ≤ x ∧ x ≤ 4 := hm.lb _ (List.mem_of_getElem? (lim_get h))
theorem putB_len {rd rs : List Int} : (putB rd rs).length = rd.length := by simp [putB]
theorem grownK_len {rd : List Int} {w : Int} : (grownK rd w).length = rd.length := by simp [grownK]
theorem grownK_b {rd : List Int} {w t : Int} (h : ∀ k ∈ rd, 0 ≤ k ∧ k ≤ t) (h0 : 0 ≤ w) : ∀ k ∈ grownK rd w, 0 ≤ k ∧ k ≤ t + w := by
  intro k hk
  obtain ⟨x, hx, rfl⟩ := List.mem_map.mp hk
  have := h x hx
  constructor <;> omega
theorem putB_b {rd rs : List Int} {t : Int} (h : ∀ k ∈ rd, 0 ≤ k ∧ k ≤ t) (ht : 0 ≤ t) : ∀ k ∈ putB rd rs, 0 ≤ k ∧ k ≤ t := by
  intro k hk
  obtain ⟨q, hq, rfl⟩ := List.mem_map.mp hk
  have := h q.1 (zi_mem hq)
  show 0 ≤ (if (q.2 : Int) ∈ rs then 0 else q.1) ∧ (if (q.2 : Int) ∈ rs then 0 else q.1) ≤ t
  split <;> constructor <;> omega
theorem stp_ok {m : Mach} (hm : MachOk m) {s : Int × List Int} {t : Int} (hs : SOk m s t) {x : Int × Int} (h0 : 0 ≤ x.1) (ht : 0 ≤ t) (hd : x.2.toNat < m.doors.length) : SOk m (stp m s x) (t + x.1) := by
  have hk := door_ok hm hd
  refine ⟨hk.o0, by have := hk.o0; have := hk.o1; show (door m x.2).goal.toNat < _; omega, ?_, ?_⟩
  · show (putB _ _).length = _
    rw [putB_len, grownK_len, hs.l]
  · exact putB_b (grownK_b hs.b h0) (by omega)
theorem st0_ok {m : Mach} (hm : MachOk m) : SOk m (st0 m) 0 := by
  refine ⟨Int.le_refl _, by have := hm.l1; show (0 : Int).toNat < _; simp; omega, by simp [st0], fun k hk => ?_⟩
  have := List.eq_of_mem_replicate hk
  omega
theorem stf_succ {m : Mach} {run : List (Int × Int)} {i : Nat} {x : Int × Int} (h : run[i]? = some x) : stf m run (i + 1) = stp m (stf m run i) x := by
  unfold stf
  rw [take_snoc h, List.foldl_append]
  rfl
theorem stf_ok {m : Mach} (hm : MachOk m) {run : List (Int × Int)} (hr : RunOk m run) : ∀ i, i ≤ run.length → SOk m (stf m run i) (1000 * i) := by
  intro i
  induction i with
  | zero => intro _; exact st0_ok hm
  | succ i ih =>
    intro hi
    have hx : run[i]? = some run[i] := List.getElem?_eq_getElem (by omega)
    rw [stf_succ hx]
    have hw := hr.w _ (List.getElem_mem (by omega : i < run.length))
    have h1 := stp_ok hm (ih (by omega)) hw.1 (by omega) (hr.d _ (List.getElem_mem (by omega : i < run.length))).2
    exact ⟨h1.r0, h1.r1, h1.l, fun k hk => by have := h1.b k hk; constructor <;> omega⟩
theorem bk_of {k t : Int} (h : 0 ≤ k ∧ k ≤ t) (ht : t < 1000000) : Bk k := by constructor <;> omega
theorem fnum_gt (k : Int) : 0 < fnum k ↔ 0 < k := by
  have h1 := fnum_mul k
  have h2 := g12_pos k
  constructor
  · intro h
    have : 0 < fnum k * g12 k := Int.mul_pos h h2
    omega
  · intro h
    by_cases q : 0 < fnum k
    · exact q
    · have : fnum k * g12 k ≤ 0 := Int.mul_nonpos_of_nonpos_of_nonneg (by omega) (by omega)
      omega
theorem f12 (b : Int) : fnum (12 * b) = b ∧ fden (12 * b) = 1 := by
  have h : g12 (12 * b) = 12 := by
    unfold g12
    rw [Int.gcd_eq_right (by decide) (Int.dvd_mul_right 12 b)]
  unfold fnum fden
  rw [h]
  exact ⟨Int.mul_ediv_cancel_left b (by decide), rfl⟩
section
variable [KK] {P : Program} {w : World} {mg : Str → Option Value} {base : Heap}
def rRd (rd : List Int) : Vp := rT (rd.map rF)
def rSt (s : Int × List Int) : Vp := rT [TL.rI s.1, rRd s.2]
theorem rF12 (b : Int) : rT [TL.rI b, TL.rI 1] = rF (12 * b) := by
  unfold rF
  rw [(f12 b).1, (f12 b).2]
def S_grown (rs : List Vp) (r : Vp) : Prop := ∃ rd w, rs = [rRd rd, rF w] ∧ (∀ k ∈ rd, Bk k) ∧ Bk w ∧ rd.length ≤ 1000 ∧ r = rRd (grownK rd w)
theorem ok_grown (T : Txt mg) : Fn P w mg base "grown" 4 (spF S_grown) := by
  obtain ⟨fd, F⟩ := T.fd_grown
  have nd : (["readings", "wait", "reading"] : List Str).Nodup := by decide +kernel
  refine fn_ok (N := ["readings", "wait", "reading"]) (ps := ["readings", "wait"]) F T.g_grown (fun _ _ _ _ _ _ us hl => match us, hl with | [_, _], _ => rfl) ⟨rfl, rfl, rfl, nd, rfl, by decide +kernel, by decide +kernel⟩ (by decide)
    (by intro rs r hS; obtain ⟨rd, w, rfl, hb, hw, hl, rfl⟩ := hS <;> rfl) fun cdv A outer s H E M rs r hr hS => ?_
  have hB := Ex.refl H
  obtain ⟨rd, w, rfl, hb, hw, hl, rfl⟩ := hS
  exact (xb_cons (xs_retR ((xe_tuple T.f_tuple (xe_lc1 (f := fun k => rF (k + w)) (own := [("reading", 2)]) nd (blkOk_by (N := ["readings", "wait", "reading"]) (by rfl)) (xi_tup (xe_var 0)) (fun x hx => ⟨_, _, by decide, fun _ _ _ _ _ => ⟨(xg_name 2 nd), xts_nil, fun _ => (xe_call (ok_sum_in T) hr (xa_cons (xe_var 2) (xa_cons (xe_var 1) xa_nil)) ⟨x, w, rfl, hb x hx, hw, rfl⟩)⟩⟩) (lt_of_len hl))).cast (by unfold rRd grownK; rw [List.map_map]; rfl)) hB) xb_dead)
def S_put_back_in (rs : List Vp) (r : Vp) : Prop := ∃ rd rz, rs = [rRd rd, rT (rz.map TL.rI)] ∧ rd.length ≤ 1000 ∧ r = rRd (putB rd rz)
theorem ok_put_back_in (T : Txt mg) : Fn P w mg base "put_back_in" 1 (spF S_put_back_in) := by
  obtain ⟨fd, F⟩ := T.fd_put_back_in
  have nd : (["readings", "resets", "clock", "reading"] : List Str).Nodup := by decide +kernel
  refine fn_ok (N := ["readings", "resets", "clock", "reading"]) (ps := ["readings", "resets"]) F T.g_put_back_in (fun _ _ _ _ _ _ us hl => match us, hl with | [_, _], _ => rfl) ⟨rfl, rfl, rfl, nd, rfl, by decide +kernel, by decide +kernel⟩ (by decide)
    (by intro rs r hS; obtain ⟨rd, rz, rfl, hl, rfl⟩ := hS <;> rfl) fun cdv A outer s H E M rs r hr hS => ?_
  have hB := Ex.refl H
  obtain ⟨rd, rz, rfl, hl, rfl⟩ := hS
  exact (xb_cons (xs_retR ((xe_tuple T.f_tuple (xe_lc1 (f := fun q => rF (if (q.2 : Int) ∈ rz then 0 else q.1)) (own := [("clock", 2), ("reading", 3)]) nd (blkOk_by (N := ["readings", "resets", "clock", "reading"]) (by rfl)) ((xi_enumT T.f_enumerate (xe_var 0)).cast (enumP_map rd)) (fun x hx => ⟨_, _, by decide, fun _ _ _ _ _ => ⟨(xg_tup (xgs_cons (xg_name 2 nd) (xgs_cons (xg_name 3 nd) xgs_nil))), xts_nil, fun _ => (xe_if (xt_inT (xe_var 2) (xe_var 1)) (fun h => (xe_gt_ZERO T).cast (by rw [if_pos (of_decide_eq_true h)])) (fun h => (xe_var 3).cast (by rw [if_neg (of_decide_eq_false h)])))⟩⟩) (lt_of_len (by rw [List.length_zipIdx]; exact hl)))).cast (by unfold rRd putB; rw [List.map_map]; rfl)) hB) xb_dead)
def S_above (rs : List Vp) (r : Vp) : Prop := ∃ k b, rs = [rF k, TL.rI b] ∧ Bk k ∧ 0 ≤ b ∧ b ≤ 1000 ∧ r = rF (abv k b)
theorem ok_above (T : Txt mg) : Fn P w mg base "above" 4 (spF S_above) := by
  obtain ⟨fd, F⟩ := T.fd_above
  have nd : (["reading", "bound", "lack"] : List Str).Nodup := by decide +kernel
  refine fn_ok (N := ["reading", "bound", "lack"]) (ps := ["reading", "bound"]) F T.g_above (fun _ _ _ _ _ _ us hl => match us, hl with | [_, _], _ => rfl) ⟨rfl, rfl, rfl, nd, rfl, by decide +kernel, by decide +kernel⟩ (by decide)
    (by intro rs r hS; obtain ⟨k, b, rfl, hk, h0, h1, rfl⟩ := hS <;> rfl) fun cdv A outer s H E M rs r hr hS => ?_
  have hB := Ex.refl H
  obtain ⟨k, b, rfl, hk, h0, h1, rfl⟩ := hS
  exact (xb_cons (xs_set 2 nd (xe_call (ok_less_in T) hr (xa_cons (xe_var 0) (xa_cons ((xe_tup (xa_cons (xe_var 1) (xa_cons xe_int xa_nil))).cast (rF12 b)) xa_nil)) ⟨k, 12 * b, rfl, hk, by constructor <;> omega, rfl⟩))
  (xb_cons (xs_retR (xe_if (xt_gt (xe_ixT (xe_var 2) xe_int) xe_int) (fun h => (xe_var 2).cast (by have := (fnum_gt _).mp (of_decide_eq_true h); unfold abv; rw [show max 0 (k - 12 * b) = k - 12 * b by omega])) (fun h => (xe_gt_ZERO T).cast (by have : ¬ 0 < k - 12 * b := fun z => of_decide_eq_false h ((fnum_gt _).mpr z); unfold abv; rw [show max 0 (k - 12 * b) = 0 by omega]))) hB) xb_dead))
def S_below (rs : List Vp) (r : Vp) : Prop := ∃ k b, rs = [rF k, TL.rI b] ∧ Bk k ∧ 0 ≤ b ∧ b ≤ 1000 ∧ r = rF (blw k b)
theorem ok_below (T : Txt mg) : Fn P w mg base "below" 4 (spF S_below) := by
  obtain ⟨fd, F⟩ := T.fd_below
  have nd : (["reading", "bound", "lack"] : List Str).Nodup := by decide +kernel
  refine fn_ok (N := ["reading", "bound", "lack"]) (ps := ["reading", "bound"]) F T.g_below (fun _ _ _ _ _ _ us hl => match us, hl with | [_, _], _ => rfl) ⟨rfl, rfl, rfl, nd, rfl, by decide +kernel, by decide +kernel⟩ (by decide)
    (by intro rs r hS; obtain ⟨k, b, rfl, hk, h0, h1, rfl⟩ := hS <;> rfl) fun cdv A outer s H E M rs r hr hS => ?_
  have hB := Ex.refl H
  obtain ⟨k, b, rfl, hk, h0, h1, rfl⟩ := hS
  exact (xb_cons (xs_set 2 nd (xe_call (ok_less_in T) hr (xa_cons ((xe_tup (xa_cons (xe_var 1) (xa_cons xe_int xa_nil))).cast (rF12 b)) (xa_cons (xe_var 0) xa_nil)) ⟨12 * b, k, rfl, by constructor <;> omega, hk, rfl⟩))
  (xb_cons (xs_retR (xe_if (xt_gt (xe_ixT (xe_var 2) xe_int) xe_int) (fun h => (xe_var 2).cast (by have := (fnum_gt _).mp (of_decide_eq_true h); unfold blw; rw [show max 0 (12 * b - k) = 12 * b - k by omega])) (fun h => (xe_gt_ZERO T).cast (by have : ¬ 0 < 12 * b - k := fun z => of_decide_eq_false h ((fnum_gt _).mpr z); unfold blw; rw [show max 0 (12 * b - k) = 0 by omega]))) hB) xb_dead))
def S_standings_of (rs : List Vp) (r : Vp) : Prop := ∃ m run, rs = [rM m, rRun run] ∧ MachOk m ∧ RunOk m run ∧ r = rL ((List.range (run.length + 1)).map fun j => rSt (stf m run j))
theorem st0_rt (m : Mach) : rT (List.replicate m.cl (rF 0)) = rRd (st0 m).2 := by
  unfold rRd st0
  rw [List.map_replicate]
theorem rst_eq {s : Int × List Int} {a : Int} {b : List Int} (h1 : s.1 = a) (h2 : s.2 = b) : rT [TL.rI a, rRd b] = rSt s := by subst h1 h2; rfl
theorem ok_standings_of (T : Txt mg) : Fn P w mg base "standings_of" 5 (spF S_standings_of) := by
  obtain ⟨fd, F⟩ := T.fd_standings_of
  have nd : (["machine", "run", "room", "readings", "found", "wait", "index", "door"] : List Str).Nodup := by decide +kernel
  refine fn_ok (N := ["machine", "run", "room", "readings", "found", "wait", "index", "door"]) (ps := ["machine", "run"]) F T.g_standings_of (fun _ _ _ _ _ _ us hl => match us, hl with | [_, _], _ => rfl) ⟨rfl, rfl, rfl, nd, rfl, by decide +kernel, by decide +kernel⟩ (by decide)
    (by intro rs r hS; obtain ⟨m, run, rfl, hm, hrun, rfl⟩ := hS <;> rfl) fun cdv A outer s H E M rs r hr hS => ?_
  have hB := Ex.refl H
  obtain ⟨m, run, rfl, hm, hrun, rfl⟩ := hS
  refine (xb_cons (xs_par 2 3 nd (xa_cons xe_int (xa_cons ((xe_repT (xe_tup (xa_cons (xe_gt_ZERO T) xa_nil)) (sl_cl T (xe_var 0)) hm.c1 (by have := hm.c3; omega)).cast (st0_rt m)) xa_nil)))
    (xb_cons (xs_setM 4 nd (xa_cons (xe_tup (xa_cons (xe_var 2) (xa_cons (xe_var 3) xa_nil))) xa_nil)) (xb_ex fun a => ?_)))
  refine (xb_cons (Mid := TL.Env H M [] [none, none, none, none, some (rL ((List.range (run.length + 1)).map fun j => rSt (stf m run j))), none, none, none] [])
    (xs_for (fun i (_ : Unit) => True) (fun i _ => [some (rM m), none, some (TL.rI (stf m run i).1), some (rRd (stf m run i).2), some (rA a), none, none, none]) (fun i _ => [(a, (List.range (i + 1)).map fun j => rSt (stf m run j))]) (xi_tup (xe_var 1)) () trivial ⟨rfl, rfl, rfl, rfl, trivial⟩ rfl (fun B1 i p _ hB1 hp _ => ?_) (fun _ _ σ H' E => ?_))
    (xb_cons (xs_retR (xe_var 4) hB) xb_dead))
  · obtain ⟨x, hx, rfl⟩ := map_at hp
    have hi : i < run.length := (List.getElem?_eq_some_iff.mp hx).1
    have hd := hrun.d x (mem_at hx)
    have hw := hrun.w x (mem_at hx)
    have hs := stf_ok hm hrun i (by omega)
    have hlen := hrun.len
    have e := stf_succ (m := m) hx
    have hat : atI (m.doors.map rDoor) x.2 = some (rDoor (door m x.2)) := atI_int hd.1 (map_at' (door_get hd.2))
    exact ⟨_, _, (xg_tup (xgs_cons (xg_name 5 nd) (xgs_cons (xg_name 6 nd) xgs_nil))),
      (xb_cons (xs_set 7 nd (xe_ixT (sl_do T (xe_var 0)) (xe_var 6) hat))
      (xb_cons (xs_par 2 3 nd (xa_cons (xe_ixT (xe_var 7) xe_int) (xa_cons (xe_call (ok_put_back_in T) hr (xa_cons (xe_call (ok_grown T) hr (xa_cons (xe_var 3) (xa_cons (xe_var 5) xa_nil)) ⟨_, x.1, rfl, fun k hk => bk_of (hs.b k hk) (by omega), bk_of hw (by omega), by rw [hs.l]; have := hm.c3; omega, rfl⟩) (xa_cons (xe_ixT (xe_var 7) xe_int) xa_nil)) ⟨_, _, rfl, by rw [grownK_len, hs.l]; have := hm.c3; omega, rfl⟩) xa_nil)))
      (xb_cons (xs_app 0 (xe_var 4) ((xe_tup (xa_cons (xe_var 2) (xa_cons (xe_var 3) xa_nil))).cast (rst_eq (s := stf m run (i + 1)) (by rw [e]; rfl) (by rw [e]; rfl))) rfl (by rw [List.length_map, List.length_range]; show _ < 2 ^ 24; omega))
      (xb_nil fun σ H' E => ⟨(), trivial, by
        show TL.Env B1 M [] [some (rM m), none, some (TL.rI (stf m run (i + 1)).1), some (rRd (stf m run (i + 1)).2), some (rA a), none, none, none] [(a, (List.range (i + 1 + 1)).map fun j => rSt (stf m run j))] σ H'
        rw [List.range_succ, List.map_append, e]
        exact E.sub ⟨rfl, rfl, rfl, rfl, trivial⟩⟩))))⟩
  · rw [List.length_map] at E
    exact (Env.frz (Ms := []) (i := 4) E rfl).sub ⟨rfl, trivial⟩
end
end M33
namespace M33
open PySem PySem.Spec PyProof.Rows L2 TL
/-! ### plain -/
theorem zip_b {α β : Type} {l : List α} {m : List β} {p : α × β} (h : p ∈ l.zip m) : p.1 ∈ l ∧ p.2 ∈ m := ⟨(List.of_mem_zip h).1, (List.of_mem_zip h).2⟩
def words (m : Mach) (s : Int × List Int) (x : Int × Int) : List (Str × List Int) :=
  [("stay", overs (grownK s.2 x.1) (lim m s.1)), ("low", lows (grownK s.2 x.1) (door m x.2).gs), ("high", highs (grownK s.2 x.1) (door m x.2).gs), ("enter", overs (stp m s x).2 (lim m (stp m s x).1))]
theorem words_four (m : Mach) (s : Int × List Int) (x : Int × Int) : (words m s x).map (fun p => mxl p.2) = (four m s x).map mxl := rfl
theorem abv_b {k b t : Int} (h : 0 ≤ k ∧ k ≤ t) (hb : 0 ≤ b) : 0 ≤ abv k b ∧ abv k b ≤ t := by unfold abv; constructor <;> omega
theorem blw_b {k b : Int} (h : 0 ≤ k) (hb : b ≤ 4) : 0 ≤ blw k b ∧ blw k b ≤ 48 := by unfold blw; constructor <;> omega
theorem overs_len {rd ls : List Int} {c : Nat} (h1 : rd.length = c) (h2 : ls.length = c) : (overs rd ls).length = c := by simp [overs, h1, h2]
theorem lows_len {rd : List Int} {gs : List (Int × Int)} {c : Nat} (h1 : rd.length = c) (h2 : gs.length = c) : (lows rd gs).length = c := by simp [lows, h1, h2]
theorem highs_len {rd : List Int} {gs : List (Int × Int)} {c : Nat} (h1 : rd.length = c) (h2 : gs.length = c) : (highs rd gs).length = c := by simp [highs, h1, h2]
theorem overs_b {rd ls : List Int} {t : Int} (h : ∀ k ∈ rd, 0 ≤ k ∧ k ≤ t) (hl : ∀ x ∈ ls, 0 ≤ x ∧ x ≤ 4) : ∀ k ∈ overs rd ls, 0 ≤ k ∧ k ≤ t := by
  intro k hk
  obtain ⟨p, hp, rfl⟩ := List.mem_map.mp hk
  exact abv_b (h _ (zip_b hp).1) (hl _ (zip_b hp).2).1
theorem lows_b {rd : List Int} {gs : List (Int × Int)} {t : Int} (h : ∀ k ∈ rd, 0 ≤ k ∧ k ≤ t) (hl : ∀ g ∈ gs, 0 ≤ g.1 ∧ g.1 ≤ g.2 ∧ g.2 ≤ 4) : ∀ k ∈ lows rd gs, 0 ≤ k ∧ k ≤ 48 := by
  intro k hk
  obtain ⟨p, hp, rfl⟩ := List.mem_map.mp hk
  have := hl _ (zip_b hp).2
  exact blw_b (h _ (zip_b hp).1).1 (by omega)
theorem highs_b {rd : List Int} {gs : List (Int × Int)} {t : Int} (h : ∀ k ∈ rd, 0 ≤ k ∧ k ≤ t) (hl : ∀ g ∈ gs, 0 ≤ g.1 ∧ g.1 ≤ g.2 ∧ g.2 ≤ 4) : ∀ k ∈ highs rd gs, 0 ≤ k ∧ k ≤ t := by
  intro k hk
  obtain ⟨p, hp, rfl⟩ := List.mem_map.mp hk
  have := hl _ (zip_b hp).2
  exact abv_b (h _ (zip_b hp).1) (by omega)
/-- what a step asks for -/
structure StpIn (m : Mach) (s : Int × List Int) (x : Int × Int) (t : Int) : Prop where
  hm : MachOk m
  hs : SOk m s t
  w0 : 0 ≤ x.1
  w1 : x.1 ≤ 1000
  d0 : 0 ≤ x.2
  d1 : x.2.toNat < m.doors.length
  t0 : 0 ≤ t
  t1 : t ≤ 200000
theorem words_ok {m : Mach} {s : Int × List Int} {x : Int × Int} {t : Int} (h : StpIn m s x t) : ∀ p ∈ words m s x, p.2.length = m.cl ∧ ∀ k ∈ p.2, 0 ≤ k ∧ k ≤ 300000 := by
  have hk := door_ok h.hm h.d1
  have hs2 := stp_ok h.hm h.hs h.w0 h.t0 h.d1
  have hg := grownK_b h.hs.b h.w0
  have hgl : (grownK s.2 x.1).length = m.cl := by rw [grownK_len, h.hs.l]
  have w1 := h.w1
  have t1 := h.t1
  intro p hp
  simp only [words, List.mem_cons, List.not_mem_nil, or_false] at hp
  rcases hp with rfl | rfl | rfl | rfl
  · exact ⟨overs_len hgl (lim_len h.hm h.hs.r1), fun k hk => by have := overs_b hg (lim_b h.hm h.hs.r1) k hk; constructor <;> omega⟩
  · exact ⟨lows_len hgl hk.gl, fun k hk' => by have := lows_b hg hk.g k hk'; constructor <;> omega⟩
  · exact ⟨highs_len hgl hk.gl, fun k hk' => by have := highs_b hg hk.g k hk'; constructor <;> omega⟩
  · exact ⟨overs_len hs2.l (lim_len h.hm hs2.r1), fun k hk' => by have := overs_b hs2.b (lim_b h.hm hs2.r1) k hk'; constructor <;> omega⟩
theorem mxl_b {l : List Int} {t : Int} (ht : 0 ≤ t) (h : ∀ k ∈ l, 0 ≤ k ∧ k ≤ t) : 0 ≤ mxl l ∧ mxl l ≤ t := by
  have aux : ∀ (ks : List Int) (k : Int), (0 ≤ k ∧ k ≤ t) → (∀ x ∈ ks, 0 ≤ x ∧ x ≤ t) → 0 ≤ mx k ks ∧ mx k ks ≤ t := by
    intro ks
    induction ks with
    | nil => intro k h _; exact h
    | cons x ks ih =>
      intro k h1 h2
      refine ih (max k x) ?_ fun y hy => h2 y (List.mem_cons_of_mem _ hy)
      have := h2 x List.mem_cons_self
      constructor <;> omega
  cases l with
  | nil => exact ⟨Int.le_refl _, ht⟩
  | cons k ks => exact aux ks k (h k List.mem_cons_self) fun x hx => h x (List.mem_cons_of_mem _ hx)
def sd (p : Option Int × Option Int) (s : Bool) : Option Int := if s then p.2 else p.1
def sdAt (sides : List (Option Int × Option Int)) (i : Int) : Option Int × Option Int := (sides[i.toNat]?).getD (none, none)
def stepSide (sides : List (Option Int × Option Int)) (s : Bool) (a : List (Int × Int) × Int) (x : Int × Int) : List (Int × Int) × Int :=
  match sd (sdAt sides x.2) s with
  | some i => (a.1 ++ [(a.2 + x.1, i)], 0)
  | none => (a.1, a.2 + x.1)
def sideStay (sides : List (Option Int × Option Int)) (s : Bool) (st : List (Int × Int) × Int) : List (Int × Int) × Int :=
  ((st.1.foldl (stepSide sides s) ([], 0)).1, (st.1.foldl (stepSide sides s) ([], 0)).2 + st.2)
def stayNeed (m : Mach) (st : List (Int × Int) × Int) : Int := mx (need m st.1) (overs (grownK (stf m st.1 st.1.length).2 st.2) (lim m (stf m st.1 st.1.length).1))
def stayLen (st : List (Int × Int) × Int) : Int := (st.1.map (·.1)).sum + st.2
structure StayOk (m : Mach) (st : List (Int × Int) × Int) : Prop where
  r : RunOk m st.1
  w0 : 0 ≤ st.2
  w1 : st.2 ≤ 1000
theorem four_b {m : Mach} {s : Int × List Int} {x : Int × Int} {t : Int} (h : StpIn m s x t) : ∀ k ∈ (four m s x).map mxl, 0 ≤ k ∧ k ≤ 300000 := by
  intro k hk
  rw [← words_four] at hk
  obtain ⟨p, hp, rfl⟩ := List.mem_map.mp hk
  exact mxl_b (by decide) (words_ok h p hp).2
theorem stpIn_at {m : Mach} (hm : MachOk m) {run : List (Int × Int)} (hr : RunOk m run) {i : Nat} {x : Int × Int} (hx : run[i]? = some x) : StpIn m (stf m run i) x (1000 * i) := by
  have hi : i < run.length := (List.getElem?_eq_some_iff.mp hx).1
  have hl := hr.len
  have hw := hr.w x (mem_at hx)
  have hd := hr.d x (mem_at hx)
  exact ⟨hm, stf_ok hm hr i (by omega), hw.1, hw.2, hd.1, hd.2, by omega, by omega⟩
theorem zi_at {α : Type} {l : List α} {q : α × Nat} (h : q ∈ l.zipIdx) : l[q.2]? = some q.1 := by
  have := List.mem_zipIdx_iff_getElem?.mp (show (q.1, q.2) ∈ l.zipIdx from h)
  exact this
theorem need_fold_b {m : Mach} (hm : MachOk m) {run : List (Int × Int)} (hr : RunOk m run) : ∀ (l : List ((Int × Int) × Nat)) (a : Int), (∀ q ∈ l, q ∈ run.zipIdx) → (0 ≤ a ∧ a ≤ 300000) →
    0 ≤ l.foldl (fun acc q => mx acc ((four m (stf m run q.2) q.1).map mxl)) a ∧ l.foldl (fun acc q => mx acc ((four m (stf m run q.2) q.1).map mxl)) a ≤ 300000
  | [], a, _, h => h
  | q :: l, a, hl, h => by
    refine need_fold_b hm hr l _ (fun q hq => hl q (List.mem_cons_of_mem _ hq)) ?_
    have h4 := four_b (stpIn_at hm hr (zi_at (hl q List.mem_cons_self)))
    exact mxl_b (l := a :: (four m (stf m run q.2) q.1).map mxl) (by decide) fun k hk => by
      rcases List.mem_cons.mp hk with rfl | hk
      · exact h
      · exact h4 k hk
theorem need_b {m : Mach} (hm : MachOk m) {run : List (Int × Int)} (hr : RunOk m run) : 0 ≤ need m run ∧ need m run ≤ 300000 := need_fold_b hm hr _ 0 (fun q hq => hq) (by decide)
section
variable [KK] {P : Program} {w : World} {mg : Str → Option Value} {base : Heap}
def tld (m : Mach) (s : Int × List Int) (x : Int × Int) : Vp := rDc ((words m s x).map fun p => (p.1, rRd p.2))
theorem bks {l : List Int} {t : Int} (h : ∀ k ∈ l, 0 ≤ k ∧ k ≤ t) (ht : t < 1000000) : ∀ k ∈ l, Bk k := fun k hk => bk_of (h k hk) ht
def S_misses_at (rs : List Vp) (r : Vp) : Prop := ∃ m s x t, rs = [rM m, rSt s, rStep x] ∧ StpIn m s x t ∧ r = rT [tld m s x, rSt (stp m s x)]
theorem ok_misses_at (T : Txt mg) : Fn P w mg base "misses_at" 5 (spF S_misses_at) := by
  obtain ⟨fd, F⟩ := T.fd_misses_at
  have nd : (["machine", "standing", "step", "room", "readings", "wait", "index", "door", "there", "behind", "found", "reading", "guard", "most"] : List Str).Nodup := by decide +kernel
  refine fn_ok (N := ["machine", "standing", "step", "room", "readings", "wait", "index", "door", "there", "behind", "found", "reading", "guard", "most"]) (ps := ["machine", "standing", "step"]) F T.g_misses_at (fun _ _ _ _ _ _ us hl => match us, hl with | [_, _, _], _ => rfl) ⟨rfl, rfl, rfl, nd, rfl, by decide +kernel, by decide +kernel⟩ (by decide)
    (by intro rs r hS; obtain ⟨m, s', x, t, rfl, h, rfl⟩ := hS <;> rfl) fun cdv A outer s H E M rs r hr hS => ?_
  have hB := Ex.refl H
  obtain ⟨m, s', x, t, rfl, h, rfl⟩ := hS
  have hk := door_ok h.hm h.d1
  have hg := grownK_b h.hs.b h.w0
  have hs2 := stp_ok h.hm h.hs h.w0 h.t0 h.d1
  have w1 := h.w1
  have t1 := h.t1
  have c3 := h.hm.c3
  have hl := h.hs.l
  have hat : atI (m.doors.map rDoor) x.2 = some (rDoor (door m x.2)) := atI_int h.d0 (map_at' (door_get h.d1))
  have hlim : atI (m.lims.map rLim) s'.1 = some (rLim (lim m s'.1)) := atI_int h.hs.r0 (map_at' (lim_get h.hs.r1))
  have hlim2 : atI (m.lims.map rLim) (door m x.2).goal = some (rLim (lim m (door m x.2).goal)) := atI_int hs2.r0 (map_at' (lim_get hs2.r1))
  have b2 : ∀ k ∈ (stp m s' x).2, Bk k := bks hs2.b (by omega)
  have b1 : ∀ k ∈ grownK s'.2 x.1, Bk k := bks hg (by omega)
  refine (xb_cons (xs_asg (xe_tup (xa_cons (xe_var 1) (xa_cons (xe_var 2) xa_nil))) (xg_tup (xgs_cons (xg_tup (xgs_cons (xg_name 3 nd) (xgs_cons (xg_name 4 nd) xgs_nil))) (xgs_cons (xg_tup (xgs_cons (xg_name 5 nd) (xgs_cons (xg_name 6 nd) xgs_nil))) xgs_nil))))
  (xb_cons (xs_par 7 8 nd (xa_cons (xe_ixT (sl_do T (xe_var 0)) (xe_var 6) hat) (xa_cons (xe_call (ok_grown T) hr (xa_cons (xe_var 4) (xa_cons (xe_var 5) xa_nil)) ⟨s'.2, x.1, rfl, bks h.hs.b (by omega), bk_of ⟨h.w0, h.w1⟩ (by decide), by omega, rfl⟩) xa_nil)))
  (xb_cons (xs_set 9 nd (xe_call (ok_put_back_in T) hr (xa_cons (xe_var 8) (xa_cons (xe_ixT (xe_var 7) xe_int) xa_nil)) ⟨_, _, rfl, by rw [grownK_len]; omega, rfl⟩))
  (xb_cons (xs_dnew 10 nd (xe_gs T.s_STAY) ((xe_tuple T.f_tuple (xe_lc1 (f := fun p => rF (abv p.1 p.2)) (own := [("reading", 11), ("most", 13)]) nd (blkOk_by (N := ["machine", "standing", "step", "room", "readings", "wait", "index", "door", "there", "behind", "found", "reading", "guard", "most"]) (by rfl)) ((xi_zipT T.f_zip (xe_var 8) (xe_ixT (sl_li T (xe_var 0)) (xe_var 3) hlim)).cast (zipP_map _ _)) (fun p hp => ⟨_, _, by decide, fun _ _ _ _ _ => ⟨(xg_tup (xgs_cons (xg_name 11 nd) (xgs_cons (xg_name 13 nd) xgs_nil))), xts_nil, fun _ => (xe_call (ok_above T) hr (xa_cons (xe_var 11) (xa_cons (xe_var 13) xa_nil)) ⟨p.1, p.2, rfl, b1 _ (zip_b hp).1, (lim_b h.hm h.hs.r1 _ (zip_b hp).2).1, by have := (lim_b h.hm h.hs.r1 _ (zip_b hp).2).2; omega, rfl⟩)⟩⟩) (lt_of_len (by rw [List.length_zip, grownK_len]; omega)))).cast (show _ = rRd (overs (grownK s'.2 x.1) (lim m s'.1)) by unfold rRd overs; rw [List.map_map]; rfl))) (xb_ex fun a => ?_)))))
  refine (xb_cons (xs_dput hr (xe_var 10) (xe_gs T.s_LOW) ((xe_tuple T.f_tuple (xe_lc1 (f := fun p : Int × (Int × Int) => rF (blw p.1 p.2.1)) (own := [("reading", 11), ("guard", 12)]) nd (blkOk_by (N := ["machine", "standing", "step", "room", "readings", "wait", "index", "door", "there", "behind", "found", "reading", "guard", "most"]) (by rfl)) ((xi_zipT T.f_zip (xe_var 8) (xe_ixT (xe_var 7) xe_int)).cast (zipP_map _ _)) (fun p hp => ⟨_, _, by decide, fun _ _ _ _ _ => ⟨(xg_tup (xgs_cons (xg_name 11 nd) (xgs_cons (xg_name 12 nd) xgs_nil))), xts_nil, fun _ => (xe_call (ok_below T) hr (xa_cons (xe_var 11) (xa_cons (xe_ixT (xe_var 12) xe_int) xa_nil)) ⟨p.1, p.2.1, rfl, b1 _ (zip_b hp).1, (hk.g _ (zip_b hp).2).1, by have := hk.g _ (zip_b hp).2; omega, rfl⟩)⟩⟩) (lt_of_len (by rw [List.length_zip, grownK_len]; omega)))).cast (show _ = rRd (lows (grownK s'.2 x.1) (door m x.2).gs) by unfold rRd lows; rw [List.map_map]; rfl)) (by rfl) (Nat.le_of_ble_eq_true rfl))
  (xb_cons (xs_dput hr (xe_var 10) (xe_gs T.s_HIGH) ((xe_tuple T.f_tuple (xe_lc1 (f := fun p : Int × (Int × Int) => rF (abv p.1 p.2.2)) (own := [("reading", 11), ("guard", 12)]) nd (blkOk_by (N := ["machine", "standing", "step", "room", "readings", "wait", "index", "door", "there", "behind", "found", "reading", "guard", "most"]) (by rfl)) ((xi_zipT T.f_zip (xe_var 8) (xe_ixT (xe_var 7) xe_int)).cast (zipP_map _ _)) (fun p hp => ⟨_, _, by decide, fun _ _ _ _ _ => ⟨(xg_tup (xgs_cons (xg_name 11 nd) (xgs_cons (xg_name 12 nd) xgs_nil))), xts_nil, fun _ => (xe_call (ok_above T) hr (xa_cons (xe_var 11) (xa_cons (xe_ixT (xe_var 12) xe_int) xa_nil)) ⟨p.1, p.2.2, rfl, b1 _ (zip_b hp).1, by have := hk.g _ (zip_b hp).2; omega, by have := hk.g _ (zip_b hp).2; omega, rfl⟩)⟩⟩) (lt_of_len (by rw [List.length_zip, grownK_len]; omega)))).cast (show _ = rRd (highs (grownK s'.2 x.1) (door m x.2).gs) by unfold rRd highs; rw [List.map_map]; rfl)) (by rfl) (Nat.le_of_ble_eq_true rfl))
  (xb_cons (xs_dput hr (xe_var 10) (xe_gs T.s_ENTER) ((xe_tuple T.f_tuple (xe_lc1 (f := fun p => rF (abv p.1 p.2)) (own := [("reading", 11), ("most", 13)]) nd (blkOk_by (N := ["machine", "standing", "step", "room", "readings", "wait", "index", "door", "there", "behind", "found", "reading", "guard", "most"]) (by rfl)) ((xi_zipT T.f_zip (xe_var 9) (xe_ixT (sl_li T (xe_var 0)) (xe_ixT (xe_var 7) xe_int) hlim2)).cast (zipP_map _ _)) (fun p hp => ⟨_, _, by decide, fun _ _ _ _ _ => ⟨(xg_tup (xgs_cons (xg_name 11 nd) (xgs_cons (xg_name 13 nd) xgs_nil))), xts_nil, fun _ => (xe_call (ok_above T) hr (xa_cons (xe_var 11) (xa_cons (xe_var 13) xa_nil)) ⟨p.1, p.2, rfl, b2 _ (zip_b hp).1, (lim_b h.hm hs2.r1 _ (zip_b hp).2).1, by have := (lim_b h.hm hs2.r1 _ (zip_b hp).2).2; omega, rfl⟩)⟩⟩) (lt_of_len (by rw [List.length_zip, hs2.l]; omega)))).cast (show _ = rRd (overs (stp m s' x).2 (lim m (stp m s' x).1)) by unfold rRd overs; rw [List.map_map]; rfl)) (by rfl) (Nat.le_of_ble_eq_true rfl))
  (XB.pre (xb_cons (xs_retR (xe_tup (xa_cons (xe_var 10) (xa_cons (xe_tup (xa_cons (xe_ixT (xe_var 7) xe_int) (xa_cons (xe_var 9) xa_nil))) xa_nil))) hB) xb_dead) (fun σ H' R => R.frz (j := 10) rfl)))))
def S_misses_of (rs : List Vp) (r : Vp) : Prop := ∃ m run, rs = [rM m, rRun run] ∧ MachOk m ∧ RunOk m run ∧ r = rL (run.zipIdx.map fun q => tld m (stf m run q.2) q.1)
theorem ok_misses_of (T : Txt mg) : Fn P w mg base "misses_of" 6 (spF S_misses_of) := by
  obtain ⟨fd, F⟩ := T.fd_misses_of
  have nd : (["machine", "run", "standing", "found", "step", "told"] : List Str).Nodup := by decide +kernel
  refine fn_ok (N := ["machine", "run", "standing", "found", "step", "told"]) (ps := ["machine", "run"]) F T.g_misses_of (fun _ _ _ _ _ _ us hl => match us, hl with | [_, _], _ => rfl) ⟨rfl, rfl, rfl, nd, rfl, by decide +kernel, by decide +kernel⟩ (by decide)
    (by intro rs r hS; obtain ⟨m, run, rfl, hm, hrun, rfl⟩ := hS <;> rfl) fun cdv A outer s H E M rs r hr hS => ?_
  have hB := Ex.refl H
  obtain ⟨m, run, rfl, hm, hrun, rfl⟩ := hS
  refine (xb_cons (xs_par_vm 2 3 nd ((xe_tup (xa_cons xe_int (xa_cons ((xe_repT (xe_tup (xa_cons (xe_gt_ZERO T) xa_nil)) (sl_cl T (xe_var 0)) hm.c1 (by have := hm.c3; omega)).cast (st0_rt m)) xa_nil))).cast (show _ = rSt (stf m run 0) from rfl))) (xb_ex fun a => ?_))
  refine (xb_cons (Mid := TL.Env H M [] [none, none, none, some (rL (run.zipIdx.map fun q => tld m (stf m run q.2) q.1)), none, none] [])
    (xs_for (fun i (_ : Unit) => True) (fun i _ => [some (rM m), none, some (rSt (stf m run i)), some (rA a), none, none]) (fun i _ => [(a, (run.take i).zipIdx.map fun q => tld m (stf m run q.2) q.1)]) (xi_tup (xe_var 1)) () trivial ⟨rfl, rfl, rfl, trivial⟩ rfl (fun B1 i p _ hB1 hp _ => ?_) (fun _ _ σ H' E => ?_))
    (xb_cons (xs_retR (xe_var 3) hB) xb_dead))
  · obtain ⟨x, hx, rfl⟩ := map_at hp
    have hi : i < run.length := (List.getElem?_eq_some_iff.mp hx).1
    have hlen := hrun.len
    have e := stf_succ (m := m) hx
    have hti : (run.take i).length = i := by rw [List.length_take]; omega
    exact ⟨_, _, (xg_name 4 nd),
      (xb_cons (xs_asg (xe_call (ok_misses_at T) hr (xa_cons (xe_var 0) (xa_cons (xe_var 2) (xa_cons (xe_var 4) xa_nil))) ⟨m, _, x, _, rfl, stpIn_at hm hrun hx, rfl⟩) (xg_tup (xgs_cons (xg_name 5 nd) (xgs_cons (xg_name 2 nd) xgs_nil))))
      (xb_cons (xs_app 0 (xe_var 3) (xe_var 5) rfl (by rw [List.length_map, List.length_zipIdx, hti]; show _ < 2 ^ 24; omega))
      (xb_nil fun σ H' E => ⟨(), trivial, by
        show TL.Env B1 M [] [some (rM m), none, some (rSt (stf m run (i + 1))), some (rA a), none, none] [(a, (run.take (i + 1)).zipIdx.map fun q => tld m (stf m run q.2) q.1)] σ H'
        rw [take_snoc hx, List.zipIdx_append, List.map_append, e, hti, Nat.zero_add]
        exact E.sub ⟨rfl, rfl, rfl, trivial⟩⟩)))⟩
  · rw [List.length_map, List.take_length] at E
    exact (Env.frz (Ms := []) (i := 3) E rfl).sub ⟨rfl, trivial⟩
theorem sg {l : List Int} (hl : l ≠ []) (hb : ∀ k ∈ l, Bk k) : S_greatest_in [rRd l] (rF (mxl l)) := by
  cases l with
  | nil => exact absurd rfl hl
  | cons k ks => exact ⟨k, ks, .inr rfl, hb, rfl⟩
theorem ne_of_len {α : Type} {l : List α} {c : Nat} (h : l.length = c) (hc : 1 ≤ c) : l ≠ [] := by
  intro e
  subst e
  simp at h
  omega
theorem look_words {m : Mach} {s : Int × List Int} {x : Int × Int} {p : Str × List Int} (hp : p ∈ words m s x) : look p.1 ((words m s x).map fun p => (p.1, rRd p.2)) = some (rRd p.2) := by
  simp only [words, List.mem_cons, List.not_mem_nil, or_false] at hp
  rcases hp with rfl | rfl | rfl | rfl <;> rfl
def S_needed_of (rs : List Vp) (r : Vp) : Prop := ∃ m run, rs = [rM m, rRun run] ∧ MachOk m ∧ RunOk m run ∧ r = rF (need m run)
theorem ok_needed_of (T : Txt mg) : Fn P w mg base "needed_of" 7 (spF S_needed_of) := by
  obtain ⟨fd, F⟩ := T.fd_needed_of
  have nd : (["machine", "run", "found", "told", "word"] : List Str).Nodup := by decide +kernel
  refine fn_ok (N := ["machine", "run", "found", "told", "word"]) (ps := ["machine", "run"]) F T.g_needed_of (fun _ _ _ _ _ _ us hl => match us, hl with | [_, _], _ => rfl) ⟨rfl, rfl, rfl, nd, rfl, by decide +kernel, by decide +kernel⟩ (by decide)
    (by intro rs r hS; obtain ⟨m, run, rfl, hm, hrun, rfl⟩ := hS <;> rfl) fun cdv A outer s H E M rs r hr hS => ?_
  have hB := Ex.refl H
  obtain ⟨m, run, rfl, hm, hrun, rfl⟩ := hS
  refine (xb_cons (xs_set 2 nd (xe_gt_ZERO T))
    (xb_cons (Mid := TL.Env H M [] [none, none, some (rF (need m run)), none, none] [])
    (xs_for (fun i a => a = (run.zipIdx.take i).foldl (fun acc q => mx acc ((four m (stf m run q.2) q.1).map mxl)) 0) (fun i a => [none, none, some (rF a), none, none]) (fun _ _ => []) (xi_list (xe_call (ok_misses_of T) hr (xa_cons (xe_var 0) (xa_cons (xe_var 1) xa_nil)) ⟨m, run, rfl, hm, hrun, rfl⟩)) 0 rfl ⟨rfl, trivial⟩ rfl (fun B1 i p a hB1 hp hI => ?_) (fun a hI σ H' E => ?_))
    (xb_cons (xs_retR (xe_var 2) hB) xb_dead)))
  · obtain ⟨q, hq, rfl⟩ := map_at hp
    have hs := stpIn_at hm hrun (zi_at (mem_at hq))
    have hw := words_ok hs
    have ha : 0 ≤ a ∧ a ≤ 300000 := by rw [hI]; exact need_fold_b hm hrun _ 0 (fun q hq => List.mem_of_mem_take hq) (by decide)
    have h4 := four_b hs
    exact ⟨_, _, (xg_name 3 nd),
      (xb_cons (xs_set 2 nd (xe_call (ok_greatest_in T) hr (xa_cons (xe_lst ((xa_cons (xe_var 2) (xa_starL (xe_lc1 (xs := words m (stf m run q.2) q.1) (f := fun p => rF (mxl p.2)) (own := [("word", 4)]) nd (blkOk_by (N := ["machine", "run", "found", "told", "word"]) (by rfl)) ((xi_tup (xe_gt_WORDS T)).cast (show _ = (words m (stf m run q.2) q.1).map (fun p => rS p.1) from rfl)) (fun p hp => ⟨_, _, by decide, fun _ _ _ _ _ => ⟨(xg_name 4 nd), xts_nil, fun _ => (xe_call (ok_greatest_in T) hr (xa_cons (xe_dsub hr (xe_var 3) (xe_var 4) (look_words hp)) xa_nil) (sg (ne_of_len (hw p hp).1 hm.c1) (bks (hw p hp).2 (by decide))))⟩⟩) (by show 4 < 2 ^ 24; omega)) xa_nil)).cast (show _ = (a :: (four m (stf m run q.2) q.1).map mxl).map rF from rfl)) (Nat.le_of_ble_eq_true rfl)) xa_nil) ⟨a, _, .inl rfl, fun k hk => by
          rcases List.mem_cons.mp hk with rfl | hk
          · exact bk_of ha (by decide)
          · exact bk_of (h4 k hk) (by decide), rfl⟩))
      (xb_nil fun σ H' E => ⟨_, by show _ = List.foldl _ _ _; rw [take_snoc hq, List.foldl_append, ← hI]; rfl, E.sub ⟨rfl, trivial⟩⟩))⟩
  · rw [List.length_map, List.take_length] at hI
    rw [show need m run = a from hI.symm]
    exact E
def S_length_of (rs : List Vp) (r : Vp) : Prop := ∃ m st, rs = [rStay st] ∧ StayOk m st ∧ r = rF (stayLen st)
theorem sum_b {l : List Int} (h : ∀ k ∈ l, 0 ≤ k ∧ k ≤ 1000) : 0 ≤ l.sum ∧ l.sum ≤ 1000 * l.length := by
  induction l with
  | nil => simp
  | cons k l ih =>
    have h1 := h k List.mem_cons_self
    have h2 := ih fun x hx => h x (List.mem_cons_of_mem _ hx)
    rw [List.sum_cons, List.length_cons]
    constructor <;> omega
theorem ok_length_of (T : Txt mg) : Fn P w mg base "length_of" 5 (spF S_length_of) := by
  obtain ⟨fd, F⟩ := T.fd_length_of
  have nd : (["stay", "wait", "door"] : List Str).Nodup := by decide +kernel
  refine fn_ok (N := ["stay", "wait", "door"]) (ps := ["stay"]) F T.g_length_of (fun _ _ _ _ _ _ us hl => match us, hl with | [_], _ => rfl) ⟨rfl, rfl, rfl, nd, rfl, by decide +kernel, by decide +kernel⟩ (by decide)
    (by intro rs r hS; obtain ⟨m, st, rfl, hst, rfl⟩ := hS <;> rfl) fun cdv A outer s H E M rs r hr hS => ?_
  have hB := Ex.refl H
  obtain ⟨m, st, rfl, hst, rfl⟩ := hS
  have hw : ∀ k ∈ st.1.map (·.1), 0 ≤ k ∧ k ≤ 1000 := fun k hk => by obtain ⟨x, hx, rfl⟩ := List.mem_map.mp hk; exact hst.r.w x hx
  have hlen := hst.r.len
  have h1 := sum_b hw
  rw [List.length_map] at h1
  exact (xb_cons (xs_retR (xe_call (ok_sum_in T) hr (xa_cons (xe_call (ok_total_in T) hr (xa_cons ((xe_lc1 (xs := st.1) (f := fun x => rF x.1) (own := [("wait", 1), ("door", 2)]) nd (blkOk_by (N := ["stay", "wait", "door"]) (by rfl)) (xi_tup (xe_ixT (xe_var 0) xe_int)) (fun x hx => ⟨_, _, by decide, fun _ _ _ _ _ => ⟨(xg_tup (xgs_cons (xg_name 1 nd) (xgs_cons (xg_name 2 nd) xgs_nil))), xts_nil, fun _ => (xe_var 1)⟩⟩) (lt_of_len (by omega))).cast (show _ = rL ((st.1.map (·.1)).map rF) by rw [List.map_map]; rfl)) xa_nil) ⟨_, rfl, fun i => by
      have h2 := sum_b (l := (st.1.map (·.1)).take i) fun k hk => hw k (List.mem_of_mem_take hk)
      have h3 : ((st.1.map (·.1)).take i).length ≤ 100 := by rw [List.length_take, List.length_map]; omega
      exact bk_of (t := 100000) (by constructor <;> omega) (by decide), bks hw (by decide), rfl⟩) (xa_cons (xe_ixT (xe_var 0) xe_int) xa_nil)) ⟨_, st.2, rfl, bk_of (t := 100000) (by constructor <;> omega) (by decide), bk_of ⟨hst.w0, hst.w1⟩ (by decide), rfl⟩) hB) xb_dead)
end
end M33
namespace M33
open PySem PySem.Spec PyProof.Rows L2 TL
def dF (k : Int) : D := .tup [.int (fnum k), .int (fden k)]
def dStep (x : Int × Int) : D := .tup [dF x.1, .int x.2]
def dRun (r : List (Int × Int)) : D := .tup (r.map dStep)
def dStay (s : List (Int × Int) × Int) : D := .tup [dRun s.1, dF s.2]
theorem shortRun {m : Mach} {st : List (Int × Int) × Int} (h : StayOk m st) : ShortRun (dStay st) := by
  intro r w ds h1 h2
  have hl := h.r.len
  unfold dStay dRun at h1
  simp only [D.tup.injEq, List.cons.injEq, and_true] at h1
  obtain ⟨rfl, _⟩ := h1
  simp only [D.tup.injEq] at h2
  subst h2
  rw [List.length_map]
  omega
/-- the sides of a net's doors -/
structure SideOk (sides : List (Option Int × Option Int)) (run : List (Int × Int)) : Prop where
  d : ∀ x ∈ run, 0 ≤ x.2 ∧ x.2.toNat < sides.length
theorem sdAt_get {sides : List (Option Int × Option Int)} {i : Int} (h : i.toNat < sides.length) : sides[i.toNat]? = some (sdAt sides i) := by
  unfold sdAt
  rw [List.getElem?_eq_getElem h]
  rfl
def sdf (sides : List (Option Int × Option Int)) (s : Bool) (run : List (Int × Int)) (i : Nat) : List (Int × Int) × Int := (run.take i).foldl (stepSide sides s) ([], 0)
theorem sdf_succ {sides : List (Option Int × Option Int)} {s : Bool} {run : List (Int × Int)} {i : Nat} {x : Int × Int} (h : run[i]? = some x) : sdf sides s run (i + 1) = stepSide sides s (sdf sides s run i) x := by
  unfold sdf
  rw [take_snoc h, List.foldl_append]
  rfl
theorem sdf_all {sides : List (Option Int × Option Int)} {s : Bool} {run : List (Int × Int)} : sdf sides s run run.length = run.foldl (stepSide sides s) ([], 0) := by
  unfold sdf
  rw [List.take_length]
theorem sdf_b {sides : List (Option Int × Option Int)} {s : Bool} {run : List (Int × Int)} (hw : ∀ x ∈ run, 0 ≤ x.1 ∧ x.1 ≤ 1000) : ∀ i, i ≤ run.length → 0 ≤ (sdf sides s run i).2 ∧ (sdf sides s run i).2 ≤ 1000 * i ∧ (sdf sides s run i).1.length ≤ i := by
  intro i
  induction i with
  | zero => intro _; exact ⟨Int.le_refl _, Int.le_refl _, Nat.le_refl _⟩
  | succ i ih =>
    intro hi
    have hx : run[i]? = some run[i] := List.getElem?_eq_getElem (by omega)
    have h1 := ih (by omega)
    have h2 := hw _ (List.getElem_mem (by omega : i < run.length))
    rw [sdf_succ hx]
    unfold stepSide
    split
    · exact ⟨Int.le_refl _, by show (0 : Int) ≤ _; omega, by show (_ ++ [_]).length ≤ _; rw [List.length_append, List.length_singleton]; omega⟩
    · exact ⟨by dsimp only; omega, by dsimp only; omega, by dsimp only; omega⟩
section
variable [KK] {P : Program} {w : World} {mg : Str → Option Value} {base : Heap}
theorem rF_D (k : Int) : rF k = rD (dF k) := by
  unfold dF
  rw [rD_tup]
  show _ = rT [rD (.int _), rD (.int _)]
  rw [rD_int, rD_int]
  rfl
theorem rStep_D (x : Int × Int) : rStep x = rD (dStep x) := by
  unfold dStep rStep
  rw [rD_tup, rF_D]
  show _ = rT [rD _, rD (.int _)]
  rw [rD_int]
theorem rRun_D (r : List (Int × Int)) : rRun r = rD (dRun r) := by
  unfold dRun rRun
  rw [rD_tup, List.map_map]
  congr 1
theorem rStay_D (s : List (Int × Int) × Int) : rStay s = rD (dStay s) := by
  unfold dStay rStay
  rw [rD_tup, rRun_D, rF_D]
  rfl
def S_stay_needed_of (rs : List Vp) (r : Vp) : Prop := ∃ m st, rs = [rM m, rStay st] ∧ MachOk m ∧ StayOk m st ∧ r = rF (stayNeed m st)
theorem ok_stay_needed_of (T : Txt mg) : Fn P w mg base "stay_needed_of" 8 (spF S_stay_needed_of) := by
  obtain ⟨fd, F⟩ := T.fd_stay_needed_of
  have nd : (["machine", "stay", "room", "readings", "there", "lacks", "reading", "most"] : List Str).Nodup := by decide +kernel
  refine fn_ok (N := ["machine", "stay", "room", "readings", "there", "lacks", "reading", "most"]) (ps := ["machine", "stay"]) F T.g_stay_needed_of (fun _ _ _ _ _ _ us hl => match us, hl with | [_, _], _ => rfl) ⟨rfl, rfl, rfl, nd, rfl, by decide +kernel, by decide +kernel⟩ (by decide)
    (by intro rs r hS; obtain ⟨m, st, rfl, hm, hst, rfl⟩ := hS <;> rfl) fun cdv A outer s H E M rs r hr hS => ?_
  have hB := Ex.refl H
  obtain ⟨m, st, rfl, hm, hst, rfl⟩ := hS
  have hs := stf_ok hm hst.r st.1.length (Nat.le_refl _)
  have hlen := hst.r.len
  have c3 := hm.c3
  have hl := hs.l
  have hg := grownK_b hs.b hst.w0
  have w1 := hst.w1
  have hn := need_b hm hst.r
  have hlim : atI (m.lims.map rLim) (stf m st.1 st.1.length).1 = some (rLim (lim m (stf m st.1 st.1.length).1)) := atI_int hs.r0 (map_at' (lim_get hs.r1))
  have ho := overs_b hg (lim_b hm hs.r1)
  exact (xb_cons (xs_asg (xe_ixL ((xe_call (ok_standings_of T) hr (xa_cons (xe_var 0) (xa_cons (xe_ixT (xe_var 1) xe_int) xa_nil)) ⟨m, st.1, rfl, hm, hst.r, rfl⟩).cast (by rw [List.range_succ, List.map_append]; rfl)) (xe_neg xe_int) atI_last) (xg_tup (xgs_cons (xg_name 2 nd) (xgs_cons (xg_name 3 nd) xgs_nil))))
  (xb_cons (xs_set 4 nd (xe_call (ok_grown T) hr (xa_cons (xe_var 3) (xa_cons (xe_ixT (xe_var 1) xe_int) xa_nil)) ⟨_, st.2, rfl, bks hs.b (by omega), bk_of ⟨hst.w0, hst.w1⟩ (by decide), by omega, rfl⟩))
  (xb_cons (xs_setLc1 5 (f := fun p => rF (abv p.1 p.2)) (own := [("reading", 6), ("most", 7)]) nd (blkOk_by (N := ["machine", "stay", "room", "readings", "there", "lacks", "reading", "most"]) (by rfl)) ((xi_zipT T.f_zip (xe_var 4) (xe_ixT (sl_li T (xe_var 0)) (xe_var 2) hlim)).cast (zipP_map _ _)) (fun p hp => ⟨_, _, by decide, fun _ _ _ _ _ => ⟨(xg_tup (xgs_cons (xg_name 6 nd) (xgs_cons (xg_name 7 nd) xgs_nil))), xts_nil, fun _ => (xe_call (ok_above T) hr (xa_cons (xe_var 6) (xa_cons (xe_var 7) xa_nil)) ⟨p.1, p.2, rfl, bk_of (hg _ (zip_b hp).1) (by omega), (lim_b hm hs.r1 _ (zip_b hp).2).1, by have := (lim_b hm hs.r1 _ (zip_b hp).2).2; omega, rfl⟩)⟩⟩) (lt_of_len (by rw [List.length_zip, grownK_len]; omega)))
  (xb_cons (xs_retR (xe_call (ok_greatest_in T) hr (xa_cons (xe_lst ((xa_cons (xe_call (ok_needed_of T) hr (xa_cons (xe_var 0) (xa_cons (xe_ixT (xe_var 1) xe_int) xa_nil)) ⟨m, st.1, rfl, hm, hst.r, rfl⟩) (xa_starL (xe_var 5) xa_nil)).cast (show _ = (need m st.1 :: overs (grownK (stf m st.1 st.1.length).2 st.2) (lim m (stf m st.1 st.1.length).1)).map rF by rw [List.append_nil, List.map_cons]; unfold overs; rw [List.map_map]; rfl)) (by rw [List.length_map, List.length_cons, overs_len (by rw [grownK_len, hl]) (lim_len hm hs.r1)]; show _ ≤ 2 ^ 24; omega)) xa_nil) ⟨_, _, .inl rfl, fun k hk => by
      rcases List.mem_cons.mp hk with rfl | hk
      · exact bk_of hn (by decide)
      · exact bk_of (ho k hk) (by omega), rfl⟩) hB) xb_dead))))
def rOp (o : Option Int) : Vp := match o with | some i => TL.rI i | none => rN
theorem sd_at (p : Option Int × Option Int) (s : Bool) : atI [rOp p.1, rOp p.2] (if s then 1 else 0) = some (rOp (sd p s)) := by cases s <;> rfl
def S_side_stay (rs : List Vp) (r : Vp) : Prop := ∃ n st s m, rs = [rNet n, rStay st, TL.rI (if s then 1 else 0)] ∧ StayOk m st ∧ SideOk n.sides st.1 ∧ r = rStay (sideStay n.sides s st)
theorem ok_side_stay (T : Txt mg) : Fn P w mg base "side_stay" 4 (spF S_side_stay) := by
  obtain ⟨fd, F⟩ := T.fd_side_stay
  have nd : (["net", "stay", "side", "found", "wait", "more", "door", "mine"] : List Str).Nodup := by decide +kernel
  refine fn_ok (N := ["net", "stay", "side", "found", "wait", "more", "door", "mine"]) (ps := ["net", "stay", "side"]) F T.g_side_stay (fun _ _ _ _ _ _ us hl => match us, hl with | [_, _, _], _ => rfl) ⟨rfl, rfl, rfl, nd, rfl, by decide +kernel, by decide +kernel⟩ (by decide)
    (by intro rs r hS; obtain ⟨n, st, s', m, rfl, hst, hsd, rfl⟩ := hS <;> rfl) fun cdv A outer s H E M rs r hr hS => ?_
  have hB := Ex.refl H
  obtain ⟨n, st, s', m, rfl, hst, hsd, rfl⟩ := hS
  have hlen := hst.r.len
  refine (xb_cons (xs_par_mv 3 4 nd (xe_gt_ZERO T)) (xb_ex fun a => ?_))
  refine (xb_cons (Mid := TL.Env H M [] [none, some (rStay st), none, some (rL ((sideStay n.sides s' st).1.map rStep)), some (rF (st.1.foldl (stepSide n.sides s') ([], 0)).2), none, none, none] [])
    (xs_for (fun i (_ : Unit) => True) (fun i _ => [some (rNet n), some (rStay st), some (TL.rI (if s' then 1 else 0)), some (rA a), some (rF (sdf n.sides s' st.1 i).2), none, none, none]) (fun i _ => [(a, (sdf n.sides s' st.1 i).1.map rStep)]) (xi_tup (xe_ixT (xe_var 1) xe_int)) () trivial ⟨rfl, rfl, rfl, rfl, rfl, trivial⟩ rfl (fun B1 i p _ hB1 hp _ => ?_) (fun _ _ σ H' E => ?_))
    (xb_cons (xs_retR (xe_tup (xa_cons (xe_tuple T.f_tuple (xe_var 3)) (xa_cons (xe_call (ok_sum_in T) hr (xa_cons (xe_var 4) (xa_cons (xe_ixT (xe_var 1) xe_int) xa_nil)) ⟨_, st.2, rfl, ?_, bk_of ⟨hst.w0, hst.w1⟩ (by decide), rfl⟩) xa_nil))) hB) xb_dead))
  · obtain ⟨x, hx, rfl⟩ := map_at hp
    have hi : i < st.1.length := (List.getElem?_eq_some_iff.mp hx).1
    have hd := hsd.d x (mem_at hx)
    have hw := hst.r.w x (mem_at hx)
    have hb := sdf_b (sides := n.sides) (s := s') hst.r.w i (by omega)
    have e := sdf_succ (sides := n.sides) (s := s') hx
    have hat : atI (n.sides.map rSide) x.2 = some (rSide (sdAt n.sides x.2)) := atI_int hd.1 (map_at' (sdAt_get hd.2))
    refine ⟨_, _, (xg_tup (xgs_cons (xg_name 5 nd) (xgs_cons (xg_name 6 nd) xgs_nil))),
      (xb_cons (xs_set 4 nd (xe_call (ok_sum_in T) hr (xa_cons (xe_var 4) (xa_cons (xe_var 5) xa_nil)) ⟨_, x.1, rfl, bk_of (t := 100000) (by constructor <;> omega) (by decide), bk_of hw (by decide), rfl⟩))
      (xb_cons (xs_set 7 nd (xe_ixT ((xe_ixT (sl_si T (xe_var 0)) (xe_var 6) hat).cast (show rSide _ = rT [rOp _, rOp _] from rfl)) (xe_var 2) (sd_at _ _))) ?_))⟩
    cases hq : sd (sdAt n.sides x.2) s' with
    | none =>
      rw [show stepSide n.sides s' (sdf n.sides s' st.1 i) x = ((sdf n.sides s' st.1 i).1, (sdf n.sides s' st.1 i).2 + x.1) by unfold stepSide; rw [hq]] at e
      exact xb_ifF ((xt_isnot (xe_var 7) non_n).cast rfl) (xb_nil fun σ H' E => ⟨(), trivial, by
        show TL.Env B1 M [] [some (rNet n), some (rStay st), some (TL.rI (if s' then 1 else 0)), some (rA a), some (rF (sdf n.sides s' st.1 (i + 1)).2), none, none, none] [(a, (sdf n.sides s' st.1 (i + 1)).1.map rStep)] σ H'
        rw [e]
        exact E.sub ⟨rfl, rfl, rfl, rfl, rfl, trivial⟩⟩)
    | some j =>
      rw [show stepSide n.sides s' (sdf n.sides s' st.1 i) x = ((sdf n.sides s' st.1 i).1 ++ [((sdf n.sides s' st.1 i).2 + x.1, j)], 0) by unfold stepSide; rw [hq]] at e
      exact (xb_cons (xs_ifT ((xt_isnot (xe_var 7) non_i).cast rfl) (xb_cons (xs_app 0 (xe_var 3) ((xe_tup (xa_cons (xe_var 4) (xa_cons (xe_var 7) xa_nil))).cast (show _ = rStep ((sdf n.sides s' st.1 i).2 + x.1, j) from rfl)) rfl (by rw [List.length_map]; show _ < 2 ^ 24; omega)) (xb_cons (xs_set 4 nd (xe_gt_ZERO T)) (xb_nil fun σ H' E => E)))) (xb_nil fun σ H' E => ⟨(), trivial, by
        show TL.Env B1 M [] [some (rNet n), some (rStay st), some (TL.rI (if s' then 1 else 0)), some (rA a), some (rF (sdf n.sides s' st.1 (i + 1)).2), none, none, none] [(a, (sdf n.sides s' st.1 (i + 1)).1.map rStep)] σ H'
        rw [e, List.map_append]
        exact E.sub ⟨rfl, rfl, rfl, rfl, rfl, trivial⟩⟩))
  · rw [List.length_map] at E
    rw [sdf_all] at E
    exact (Env.frz (Ms := []) (i := 3) E rfl).sub ⟨rfl, rfl, rfl, trivial⟩
  · have hb := sdf_b (sides := n.sides) (s := s') hst.r.w st.1.length (Nat.le_refl _)
    rw [sdf_all] at hb
    exact bk_of (t := 100000) (by constructor <;> omega) (by decide)
def S_require_stay (rs : List Vp) (r : Vp) : Prop := ∃ m d, rs = [rM m, rD d] ∧ ShortRun d ∧ isStay m d = true ∧ r = rN
theorem ok_require_stay (T : Txt mg) : Fn P w mg base "require_stay" 9 (spF S_require_stay) := by
  obtain ⟨fd, F⟩ := T.fd_require_stay
  have nd : (["machine", "value"] : List Str).Nodup := by decide +kernel
  refine fn_ok (N := ["machine", "value"]) (ps := ["machine", "value"]) F T.g_require_stay (fun _ _ _ _ _ _ us hl => match us, hl with | [_, _], _ => rfl) ⟨rfl, rfl, rfl, nd, rfl, by decide +kernel, by decide +kernel⟩ (by decide)
    (by intro rs r hS; obtain ⟨m, d, rfl, hd, hs, rfl⟩ := hS <;> rfl) fun cdv A outer s H E M rs r hr hS => ?_
  have hB := Ex.refl H
  obtain ⟨m, d, rfl, hd, hs, rfl⟩ := hS
  exact xb_ifF (xt_notT (xt_val (xe_call (ok_is_stay_of T) hr (xa_cons (xe_var 0) (xa_cons (xe_var 1) xa_nil)) ⟨m, d, rfl, hd, by rw [hs]⟩))) (xb_endN hB)
def S_is_stay (rs : List Vp) (r : Vp) : Prop := ∃ m d, rs = [rM m, rD d] ∧ ShortRun d ∧ r = rB (isStay m d)
theorem ok_is_stay (T : Txt mg) : Fn P w mg base "is_stay" 9 (spF S_is_stay) := by
  obtain ⟨fd, F⟩ := T.fd_is_stay
  have nd : (["machine", "value"] : List Str).Nodup := by decide +kernel
  refine fn_ok (N := ["machine", "value"]) (ps := ["machine", "value"]) F T.g_is_stay (fun _ _ _ _ _ _ us hl => match us, hl with | [_, _], _ => rfl) ⟨rfl, rfl, rfl, nd, rfl, by decide +kernel, by decide +kernel⟩ (by decide)
    (by intro rs r hS; obtain ⟨m, d, rfl, hd, rfl⟩ := hS <;> rfl) fun cdv A outer s H E M rs r hr hS => ?_
  have hB := Ex.refl H
  obtain ⟨m, d, rfl, hd, rfl⟩ := hS
  exact (xb_cons (xs_expr (xe_call (ok_require_machine T) hr (xa_cons (xe_var 0) xa_nil) ⟨m, rfl, rfl⟩))
  (xb_cons (xs_retR (xe_call (ok_is_stay_of T) hr (xa_cons (xe_var 0) (xa_cons (xe_var 1) xa_nil)) ⟨m, d, rfl, hd, rfl⟩) hB) xb_dead))
def S_stay_length (rs : List Vp) (r : Vp) : Prop := ∃ m st, rs = [rM m, rStay st] ∧ StayOk m st ∧ isStay m (dStay st) = true ∧ r = rF (stayLen st)
theorem ok_stay_length (T : Txt mg) : Fn P w mg base "stay_length" 10 (spF S_stay_length) := by
  obtain ⟨fd, F⟩ := T.fd_stay_length
  have nd : (["machine", "stay"] : List Str).Nodup := by decide +kernel
  refine fn_ok (N := ["machine", "stay"]) (ps := ["machine", "stay"]) F T.g_stay_length (fun _ _ _ _ _ _ us hl => match us, hl with | [_, _], _ => rfl) ⟨rfl, rfl, rfl, nd, rfl, by decide +kernel, by decide +kernel⟩ (by decide)
    (by intro rs r hS; obtain ⟨m, st, rfl, h, hs, rfl⟩ := hS <;> rfl) fun cdv A outer s H E M rs r hr hS => ?_
  have hB := Ex.refl H
  obtain ⟨m, st, rfl, h, hs, rfl⟩ := hS
  exact (xb_cons (xs_expr (xe_call (ok_require_machine T) hr (xa_cons (xe_var 0) xa_nil) ⟨m, rfl, rfl⟩))
  (xb_cons (xs_expr (xe_call (ok_require_stay T) hr (xa_cons (xe_var 0) (xa_cons (xe_var 1) xa_nil)) ⟨m, dStay st, by rw [rStay_D], shortRun h, hs, rfl⟩))
  (xb_cons (xs_retR (xe_call (ok_length_of T) hr (xa_cons (xe_var 1) xa_nil) ⟨m, st, rfl, h, rfl⟩) hB) xb_dead)))
def S_stay_needed (rs : List Vp) (r : Vp) : Prop := ∃ m st, rs = [rM m, rStay st] ∧ MachOk m ∧ StayOk m st ∧ isStay m (dStay st) = true ∧ r = rF (stayNeed m st)
theorem ok_stay_needed (T : Txt mg) : Fn P w mg base "stay_needed" 10 (spF S_stay_needed) := by
  obtain ⟨fd, F⟩ := T.fd_stay_needed
  have nd : (["machine", "stay"] : List Str).Nodup := by decide +kernel
  refine fn_ok (N := ["machine", "stay"]) (ps := ["machine", "stay"]) F T.g_stay_needed (fun _ _ _ _ _ _ us hl => match us, hl with | [_, _], _ => rfl) ⟨rfl, rfl, rfl, nd, rfl, by decide +kernel, by decide +kernel⟩ (by decide)
    (by intro rs r hS; obtain ⟨m, st, rfl, hm, h, hs, rfl⟩ := hS <;> rfl) fun cdv A outer s H E M rs r hr hS => ?_
  have hB := Ex.refl H
  obtain ⟨m, st, rfl, hm, h, hs, rfl⟩ := hS
  exact (xb_cons (xs_expr (xe_call (ok_require_machine T) hr (xa_cons (xe_var 0) xa_nil) ⟨m, rfl, rfl⟩))
  (xb_cons (xs_expr (xe_call (ok_require_stay T) hr (xa_cons (xe_var 0) (xa_cons (xe_var 1) xa_nil)) ⟨m, dStay st, by rw [rStay_D], shortRun h, hs, rfl⟩))
  (xb_cons (xs_retR (xe_call (ok_stay_needed_of T) hr (xa_cons (xe_var 0) (xa_cons (xe_var 1) xa_nil)) ⟨m, st, rfl, hm, h, rfl⟩) hB) xb_dead)))
def S_split (rs : List Vp) (r : Vp) : Prop := ∃ n st, rs = [rNet n, rStay st] ∧ StayOk n.m st ∧ isStay n.m (dStay st) = true ∧ SideOk n.sides st.1 ∧ r = rT [rStay (sideStay n.sides false st), rStay (sideStay n.sides true st)]
theorem ok_split (T : Txt mg) : Fn P w mg base "split" 10 (spF S_split) := by
  obtain ⟨fd, F⟩ := T.fd_split
  have nd : (["net", "stay"] : List Str).Nodup := by decide +kernel
  refine fn_ok (N := ["net", "stay"]) (ps := ["net", "stay"]) F T.g_split (fun _ _ _ _ _ _ us hl => match us, hl with | [_, _], _ => rfl) ⟨rfl, rfl, rfl, nd, rfl, by decide +kernel, by decide +kernel⟩ (by decide)
    (by intro rs r hS; obtain ⟨n, st, rfl, h, hs, hd, rfl⟩ := hS <;> rfl) fun cdv A outer s H E M rs r hr hS => ?_
  have hB := Ex.refl H
  obtain ⟨n, st, rfl, h, hs, hd, rfl⟩ := hS
  exact (xb_cons (xs_expr (xe_call (ok_require_net T) hr (xa_cons (xe_var 0) xa_nil) ⟨n, rfl, rfl⟩))
  (xb_cons (xs_expr (xe_call (ok_require_stay T) hr (xa_cons (sl_ma T (xe_var 0)) (xa_cons (xe_var 1) xa_nil)) ⟨n.m, dStay st, by rw [rStay_D], shortRun h, hs, rfl⟩))
  (xb_cons (xs_retR (xe_tup (xa_cons (xe_call (ok_side_stay T) hr (xa_cons (xe_var 0) (xa_cons (xe_var 1) (xa_cons xe_int xa_nil))) ⟨n, st, false, n.m, rfl, h, hd, rfl⟩) (xa_cons (xe_call (ok_side_stay T) hr (xa_cons (xe_var 0) (xa_cons (xe_var 1) (xa_cons xe_int xa_nil))) ⟨n, st, true, n.m, rfl, h, hd, rfl⟩) xa_nil))) hB) xb_dead)))
end
end M33
namespace M33
open PySem PySem.Spec PyProof.Rows L2 TL
/-! ### the net, plain -/
def freeG (n : Nat) : List (Int × Int) := List.replicate n (0, 4)
def shiftK (c : Nat) (rs : List Int) : List Int := rs.map (· + (c : Int))
def firstD (one other : Mach) (i : Int) : List Door := (List.range other.lims.length).map fun t : Nat =>
  ⟨(door one i).room * (other.lims.length : Int) + (t : Int), (door one i).gs ++ freeG other.cl, (door one i).rs, (door one i).goal * (other.lims.length : Int) + (t : Int)⟩
def lastD (one other : Mach) (i : Int) : List Door := (List.range one.lims.length).map fun h : Nat =>
  ⟨(h : Int) * (other.lims.length : Int) + (door other i).room, freeG one.cl ++ (door other i).gs, shiftK one.cl (door other i).rs, (h : Int) * (other.lims.length : Int) + (door other i).goal⟩
def bothD (one other : Mach) (p : Int × Int) : Door :=
  ⟨(door one p.1).room * (other.lims.length : Int) + (door other p.2).room, (door one p.1).gs ++ (door other p.2).gs, (door one p.1).rs ++ shiftK one.cl (door other p.2).rs, (door one p.1).goal * (other.lims.length : Int) + (door other p.2).goal⟩
def dA (one other : Mach) (sh : List (Int × Int)) (n : Nat) : List Door := (List.range n).flatMap fun i : Nat => if (i : Int) ∈ sh.map (·.1) then [] else firstD one other i
def sA (one other : Mach) (sh : List (Int × Int)) (n : Nat) : List (Option Int × Option Int) := (List.range n).flatMap fun i : Nat => if (i : Int) ∈ sh.map (·.1) then [] else List.replicate other.lims.length (some (i : Int), none)
def dB (one other : Mach) (sh : List (Int × Int)) (n : Nat) : List Door := (List.range n).flatMap fun i : Nat => if (i : Int) ∈ sh.map (·.2) then [] else lastD one other i
def sB (one other : Mach) (sh : List (Int × Int)) (n : Nat) : List (Option Int × Option Int) := (List.range n).flatMap fun i : Nat => if (i : Int) ∈ sh.map (·.2) then [] else List.replicate one.lims.length (none, some (i : Int))
def nDoors (one other : Mach) (sh : List (Int × Int)) : List Door := (dA one other sh one.doors.length ++ dB one other sh other.doors.length) ++ sh.map (bothD one other)
def nSides (one other : Mach) (sh : List (Int × Int)) : List (Option Int × Option Int) := (sA one other sh one.doors.length ++ sB one other sh other.doors.length) ++ sh.map fun p => (some p.1, some p.2)
def nLims (one other : Mach) : List (List Int) := one.lims.flatMap fun h => other.lims.map fun t => h ++ t
def nMach (one other : Mach) (sh : List (Int × Int)) : Mach := ⟨one.cl + other.cl, nLims one other, nDoors one other sh⟩
def nNet (one other : Mach) (sh : List (Int × Int)) : Net := ⟨nMach one other sh, one, other, sh, nSides one other sh⟩
def PLt (p q : Int × Int) : Prop := HT.lexLt [p.1, p.2] [q.1, q.2] = true
structure NetIn (one other : Mach) (sh : List (Int × Int)) : Prop where
  h1 : MachOk one
  h2 : MachOk other
  c : one.cl + other.cl ≤ 3
  l : one.lims.length * other.lims.length ≤ 6
  d : one.doors.length * other.lims.length + other.doors.length * one.lims.length + sh.length ≤ 12
  s1 : ∀ p ∈ sh, 0 ≤ p.1 ∧ p.1.toNat < one.doors.length
  s2 : ∀ p ∈ sh, 0 ≤ p.2 ∧ p.2.toNat < other.doors.length
  asc : sh.Pairwise PLt
theorem pw_zip' {α : Type} {R : α → α → Prop} : ∀ {l : List α}, l.Pairwise R → ∀ p ∈ l.zip l.tail, R p.1 p.2
  | [], _, _, h => nomatch h
  | [_], _, _, h => nomatch h
  | x :: y :: l, hp, p, h => by
    rw [List.tail_cons, List.zip_cons_cons] at h
    cases hp with
    | cons h1 h2 =>
      rcases List.mem_cons.mp h with rfl | h
      · exact h1 y List.mem_cons_self
      · exact pw_zip' h2 p h
theorem dA_succ {one other : Mach} {sh : List (Int × Int)} {n : Nat} : dA one other sh (n + 1) = dA one other sh n ++ (if (n : Int) ∈ sh.map (·.1) then [] else firstD one other n) := by
  unfold dA
  rw [List.range_succ, List.flatMap_append]
  simp
theorem sA_succ {one other : Mach} {sh : List (Int × Int)} {n : Nat} : sA one other sh (n + 1) = sA one other sh n ++ (if (n : Int) ∈ sh.map (·.1) then [] else List.replicate other.lims.length (some (n : Int), none)) := by
  unfold sA
  rw [List.range_succ, List.flatMap_append]
  simp
theorem dB_succ {one other : Mach} {sh : List (Int × Int)} {n : Nat} : dB one other sh (n + 1) = dB one other sh n ++ (if (n : Int) ∈ sh.map (·.2) then [] else lastD one other n) := by
  unfold dB
  rw [List.range_succ, List.flatMap_append]
  simp
theorem sB_succ {one other : Mach} {sh : List (Int × Int)} {n : Nat} : sB one other sh (n + 1) = sB one other sh n ++ (if (n : Int) ∈ sh.map (·.2) then [] else List.replicate one.lims.length (none, some (n : Int))) := by
  unfold sB
  rw [List.range_succ, List.flatMap_append]
  simp
theorem dA_len {one other : Mach} {sh : List (Int × Int)} : ∀ n, (dA one other sh n).length ≤ n * other.lims.length
  | 0 => by simp [dA]
  | n + 1 => by
    have := dA_len (one := one) (other := other) (sh := sh) n
    rw [dA_succ, List.length_append, Nat.succ_mul]
    split
    · simp; omega
    · simp [firstD]; omega
theorem sA_len {one other : Mach} {sh : List (Int × Int)} : ∀ n, (sA one other sh n).length = (dA one other sh n).length
  | 0 => by simp [dA, sA]
  | n + 1 => by
    have := sA_len (one := one) (other := other) (sh := sh) n
    rw [sA_succ, dA_succ, List.length_append, List.length_append, this]
    split <;> simp [firstD]
theorem dB_len {one other : Mach} {sh : List (Int × Int)} : ∀ n, (dB one other sh n).length ≤ n * one.lims.length
  | 0 => by simp [dB]
  | n + 1 => by
    have := dB_len (one := one) (other := other) (sh := sh) n
    rw [dB_succ, List.length_append, Nat.succ_mul]
    split
    · simp; omega
    · simp [lastD]; omega
theorem sB_len {one other : Mach} {sh : List (Int × Int)} : ∀ n, (sB one other sh n).length = (dB one other sh n).length
  | 0 => by simp [dB, sB]
  | n + 1 => by
    have := sB_len (one := one) (other := other) (sh := sh) n
    rw [sB_succ, dB_succ, List.length_append, List.length_append, this]
    split <;> simp [lastD]
theorem nSides_len {one other : Mach} {sh : List (Int × Int)} : (nSides one other sh).length = (nDoors one other sh).length := by
  unfold nSides nDoors
  simp [sA_len, sB_len]
theorem nDoors_len {one other : Mach} {sh : List (Int × Int)} (h : NetIn one other sh) : (nDoors one other sh).length ≤ 12 := by
  have h1 := dA_len (one := one) (other := other) (sh := sh) one.doors.length
  have h2 := dB_len (one := one) (other := other) (sh := sh) other.doors.length
  have h3 := h.d
  unfold nDoors
  rw [List.length_append, List.length_append, List.length_map]
  omega
section
variable [KK] {P : Program} {w : World} {mg : Str → Option Value} {base : Heap}
theorem rDoor_eq (d : Door) : rT [TL.rI d.room, rT (d.gs.map rG), rT (d.rs.map TL.rI), TL.rI d.goal] = rDoor d := rfl
theorem cm_nat {a : Int} {n : Nat} (h : n ≤ 1000) : CMul a (n : Int) := .inr (by constructor <;> omega)
def S_are_shared (rs : List Vp) (r : Vp) : Prop := ∃ one other sh, rs = [rM one, rM other, rT (sh.map rPr)] ∧ NetIn one other sh ∧ r = rB true
theorem kit_int : L2.kitB "int" "int" = some true ∧ L2.kitB "int" "bool" = some false := by decide +kernel
theorem ok_are_shared (T : Txt mg) : Fn P w mg base "are_shared" 1 (spF S_are_shared) := by
  obtain ⟨fd, F⟩ := T.fd_are_shared
  have nd : (["one", "other", "value", "first", "last", "index", "machine", "pair", "later"] : List Str).Nodup := by decide +kernel
  refine fn_ok (N := ["one", "other", "value", "first", "last", "index", "machine", "pair", "later"]) (ps := ["one", "other", "value"]) F T.g_are_shared (fun _ _ _ _ _ _ us hl => match us, hl with | [_, _, _], _ => rfl) ⟨rfl, rfl, rfl, nd, rfl, by decide +kernel, by decide +kernel⟩ (by decide)
    (by intro rs r hS; obtain ⟨one, other, sh, rfl, h, rfl⟩ := hS <;> rfl) fun cdv A outer s H E M rs r hr hS => ?_
  have hB := Ex.refl H
  obtain ⟨one, other, sh, rfl, h, rfl⟩ := hS
  have hd := h.d
  have hl : sh.length ≤ 1000 := by omega
  refine xb_ifF (XW.t (xw_orF (xt_yt T (xe_var 2)) (xw_or1 (xt_notT (xt_val (xe_allT T.f_all (xe_lc1 (f := fun _ => rB true) (own := [("pair", 7)]) nd (blkOk_by (N := ["one", "other", "value", "first", "last", "index", "machine", "pair", "later"]) (by rfl)) (xi_tup (xe_var 2)) (fun x hx => ⟨_, _, by decide, fun _ _ _ _ _ => ⟨(xg_name 7 nd), xts_nil, fun _ => (xe_andT (xe_yt T (xe_var 7)) (xe_one ((xe_eq (xe_len T.f_len (xe_var 7)) (xe_gi T.i_PAIR_nets)).cast rfl)))⟩⟩) (lt_of_len hl))))))))
    (xb_cons (Mid := TL.Env H M [] [none, none, some (rT (sh.map rPr)), none, none, none, none, none, none] []) (xs_for (fun i (_ : Unit) => True) (fun i _ => [some (rM one), some (rM other), some (rT (sh.map rPr)), none, none, none, none, none, none]) (fun _ _ => []) (xi_tup (xe_var 2)) () trivial ⟨rfl, rfl, rfl, trivial⟩ rfl (fun B1 i p a hB1 hp hI => ?_) (fun _ _ σ H' E => E.sub ⟨rfl, trivial⟩))
    (xb_cons (xs_retR (xe_allT T.f_all (xe_lc1 (xs := sh.zip sh.tail) (f := fun _ => rB true) (own := [("pair", 7), ("later", 8)]) nd (blkOk_by (N := ["one", "other", "value", "first", "last", "index", "machine", "pair", "later"]) (by rfl)) ((xi_zipT T.f_zip (xe_var 2) (xe_slT (xe_var 2) (xo_some xe_int) xo_none)).cast (by rw [cut1, zipP_map])) (fun x hx => ⟨_, _, by decide, fun _ _ _ _ _ => ⟨(xg_tup (xgs_cons (xg_name 7 nd) (xgs_cons (xg_name 8 nd) xgs_nil))), xts_nil, fun _ => ((xe_ltT (ns := [x.1.1, x.1.2]) (ms := [x.2.1, x.2.2]) hr (xe_var 7) (xe_var 8)).cast (by rw [show HT.lexLt [x.1.1, x.1.2] [x.2.1, x.2.2] = true from pw_zip' h.asc x hx]))⟩⟩) (lt_of_len (by rw [List.length_zip]; omega)))) hB) xb_dead))
  obtain ⟨x, hx, rfl⟩ := map_at hp
  have hs1 := h.s1 x (mem_at hx)
  have hs2 := h.s2 x (mem_at hx)
  refine ⟨_, _, (xg_tup (xgs_cons (xg_name 3 nd) (xgs_cons (xg_name 4 nd) xgs_nil))),
    (xb_cons (Mid := TL.Env B1 M [] [some (rM one), some (rM other), some (rT (sh.map rPr)), none, none, none, none, none, none] []) (xs_for (fun i (_ : Unit) => True) (fun i _ => [some (rM one), some (rM other), some (rT (sh.map rPr)), none, none, none, none, none, none]) (fun _ _ => []) (xi_tup (xe_tup (xa_cons (xe_tup (xa_cons (xe_var 3) (xa_cons (xe_var 0) xa_nil))) (xa_cons (xe_tup (xa_cons (xe_var 4) (xa_cons (xe_var 1) xa_nil))) xa_nil)))) () trivial ⟨rfl, rfl, rfl, trivial⟩ rfl (fun B2 j q b hB2 hq _ => ?_) (fun _ _ σ H' E => E))
    (xb_nil fun σ H' E => ⟨(), trivial, E⟩))⟩
  have hz : ∃ (i : Int) (mm : Mach), q = rT [TL.rI i, rM mm] ∧ 0 ≤ i ∧ i < mm.doors.length := by
    match j, hq with
    | 0, hq => exact ⟨x.1, one, (Option.some.inj hq).symm, hs1.1, by omega⟩
    | 1, hq => exact ⟨x.2, other, (Option.some.inj hq).symm, hs2.1, by omega⟩
    | j + 2, hq => simp at hq
  obtain ⟨i', mm, rfl, h0, h1⟩ := hz
  exact ⟨_, _, (xg_tup (xgs_cons (xg_name 5 nd) (xgs_cons (xg_name 6 nd) xgs_nil))),
      xb_ifF (XW.t (xw_orF (xt_notT (xt_val (xe_isi T.f_isinstance (xe_var 5) (xe_ty T.f_int boot_int) kit_int.1))) (xw_orF (xt_val (xe_isi T.f_isinstance (xe_var 5) (xe_ty T.f_bool boot_bool) kit_int.2)) (xw_or1 (xt_notT ((xt_lelt xe_int (xe_var 5) (xe_len T.f_len (sl_do T (xe_var 6)))).cast (by rw [List.length_map, decide_eq_true h0, decide_eq_true h1]; rfl)))))))
      (xb_nil fun σ H' E => ⟨(), trivial, E.sub ⟨rfl, rfl, rfl, trivial⟩⟩)⟩
def S_shifted (rs : List Vp) (r : Vp) : Prop := ∃ m rz, rs = [rM m, rT (rz.map TL.rI)] ∧ rz.length ≤ 1000 ∧ r = rT ((shiftK m.cl rz).map TL.rI)
theorem ok_shifted (T : Txt mg) : Fn P w mg base "shifted" 1 (spF S_shifted) := by
  obtain ⟨fd, F⟩ := T.fd_shifted
  have nd : (["one", "resets", "clock"] : List Str).Nodup := by decide +kernel
  refine fn_ok (N := ["one", "resets", "clock"]) (ps := ["one", "resets"]) F T.g_shifted (fun _ _ _ _ _ _ us hl => match us, hl with | [_, _], _ => rfl) ⟨rfl, rfl, rfl, nd, rfl, by decide +kernel, by decide +kernel⟩ (by decide)
    (by intro rs r hS; obtain ⟨m, rz, rfl, hl, rfl⟩ := hS <;> rfl) fun cdv A outer s H E M rs r hr hS => ?_
  have hB := Ex.refl H
  obtain ⟨m, rz, rfl, hl, rfl⟩ := hS
  exact (xb_cons (xs_retR ((xe_tuple T.f_tuple (xe_lc1 (f := fun c => TL.rI (c + (m.cl : Int))) (own := [("clock", 2)]) nd (blkOk_by (N := ["one", "resets", "clock"]) (by rfl)) (xi_tup (xe_var 1)) (fun x hx => ⟨_, _, by decide, fun _ _ _ _ _ => ⟨(xg_name 2 nd), xts_nil, fun _ => (xe_add (xe_var 2) (sl_cl T (xe_var 0)))⟩⟩) (lt_of_len hl))).cast (by unfold shiftK; rw [List.map_map]; rfl)) hB) xb_dead)
def S_first_doors (rs : List Vp) (r : Vp) : Prop := ∃ one other i, rs = [rM one, rM other, TL.rI i] ∧ MachOk one ∧ MachOk other ∧ 0 ≤ i ∧ i.toNat < one.doors.length ∧ r = rL ((firstD one other i).map rDoor)
theorem gs_len (d : Door) {c n : Nat} (h : DoorOk c n d) : d.gs.length = c := h.gl
theorem ok_first_doors (T : Txt mg) : Fn P w mg base "first_doors" 1 (spF S_first_doors) := by
  obtain ⟨fd, F⟩ := T.fd_first_doors
  have nd : (["one", "other", "index", "room", "guards", "resets", "goal", "many", "free", "there"] : List Str).Nodup := by decide +kernel
  refine fn_ok (N := ["one", "other", "index", "room", "guards", "resets", "goal", "many", "free", "there"]) (ps := ["one", "other", "index"]) F T.g_first_doors (fun _ _ _ _ _ _ us hl => match us, hl with | [_, _, _], _ => rfl) ⟨rfl, rfl, rfl, nd, rfl, by decide +kernel, by decide +kernel⟩ (by decide)
    (by intro rs r hS; obtain ⟨one, other, i, rfl, h1, h2, h0, hi, rfl⟩ := hS <;> rfl) fun cdv A outer s H E M rs r hr hS => ?_
  have hB := Ex.refl H
  obtain ⟨one, other, i, rfl, h1, h2, h0, hi, rfl⟩ := hS
  have hat : atI (one.doors.map rDoor) i = some (rDoor (door one i)) := atI_int h0 (map_at' (door_get hi))
  have hk := door_ok h1 hi
  have l6 := h2.l6
  have c1 := h1.c3
  have c2 := h2.c3
  have e1 : (other.lims.map rLim).length = other.lims.length := List.length_map ..
  exact (xb_cons (xs_asg (xe_ixT (sl_do T (xe_var 0)) (xe_var 2) hat) (xg_tup (xgs_cons (xg_name 3 nd) (xgs_cons (xg_name 4 nd) (xgs_cons (xg_name 5 nd) (xgs_cons (xg_name 6 nd) xgs_nil))))))
  (xb_cons (xs_asg (xe_tup (xa_cons ((xe_len T.f_len (sl_li T (xe_var 1))).cast (by rw [e1])) (xa_cons ((xe_repT (xe_tup (xa_cons (xe_gt_ALL T) xa_nil)) (sl_cl T (xe_var 1)) h2.c1 (by omega)).cast (show _ = rT ((freeG other.cl).map rG) by unfold freeG; rw [List.map_replicate])) xa_nil))) (xg_tup (xgs_cons (xg_name 7 nd) (xgs_cons (xg_name 8 nd) xgs_nil))))
  (xb_cons (xs_retR ((xe_lc1 (f := fun t : Nat => rDoor ⟨(door one i).room * (other.lims.length : Int) + (t : Int), (door one i).gs ++ freeG other.cl, (door one i).rs, (door one i).goal * (other.lims.length : Int) + (t : Int)⟩) (own := [("there", 9)]) nd (blkOk_by (N := ["one", "other", "index", "room", "guards", "resets", "goal", "many", "free", "there"]) (by rfl)) (xi_range T.f_range (xe_var 7) (by omega)) (fun x hx => ⟨_, _, by decide, fun _ _ _ _ _ => ⟨(xg_name 9 nd), xts_nil, fun _ => ((xe_tup (xa_cons (xe_add (xe_mul (xe_var 3) (xe_var 7) (cm_nat (by omega))) (xe_var 9)) (xa_cons ((xe_tup (xa_star (xe_var 4) (xa_star (xe_var 8) xa_nil)) (by rw [List.length_append, List.length_append, List.length_map, List.length_map, hk.gl]; unfold freeG; rw [List.length_replicate]; show _ ≤ 2 ^ 24; simp; omega)).cast (show _ = rT (((door one i).gs ++ freeG other.cl).map rG) by rw [List.append_nil, List.map_append])) (xa_cons (xe_var 5) (xa_cons (xe_add (xe_mul (xe_var 6) (xe_var 7) (cm_nat (by omega))) (xe_var 9)) xa_nil))))))⟩⟩) (lt_of_len (by rw [List.length_range]; omega))).cast (by unfold firstD; rw [List.map_map]; rfl)) hB) xb_dead)))
def S_last_doors (rs : List Vp) (r : Vp) : Prop := ∃ one other i, rs = [rM one, rM other, TL.rI i] ∧ MachOk one ∧ MachOk other ∧ 0 ≤ i ∧ i.toNat < other.doors.length ∧ r = rL ((lastD one other i).map rDoor)
theorem rs_len {c n : Nat} {d : Door} (hd : DoorOk c n d) (hc : c ≤ 3) : d.rs.length ≤ 3 := by
  have := pw_len hd.asc hd.rs
  omega
theorem ok_last_doors (T : Txt mg) : Fn P w mg base "last_doors" 2 (spF S_last_doors) := by
  obtain ⟨fd, F⟩ := T.fd_last_doors
  have nd : (["one", "other", "index", "room", "guards", "resets", "goal", "many", "free", "told", "here"] : List Str).Nodup := by decide +kernel
  refine fn_ok (N := ["one", "other", "index", "room", "guards", "resets", "goal", "many", "free", "told", "here"]) (ps := ["one", "other", "index"]) F T.g_last_doors (fun _ _ _ _ _ _ us hl => match us, hl with | [_, _, _], _ => rfl) ⟨rfl, rfl, rfl, nd, rfl, by decide +kernel, by decide +kernel⟩ (by decide)
    (by intro rs r hS; obtain ⟨one, other, i, rfl, h1, h2, h0, hi, rfl⟩ := hS <;> rfl) fun cdv A outer s H E M rs r hr hS => ?_
  have hB := Ex.refl H
  obtain ⟨one, other, i, rfl, h1, h2, h0, hi, rfl⟩ := hS
  have hat : atI (other.doors.map rDoor) i = some (rDoor (door other i)) := atI_int h0 (map_at' (door_get hi))
  have hk := door_ok h2 hi
  have hrl := rs_len hk h2.c3
  have l6 := h2.l6
  have l61 := h1.l6
  have c1 := h1.c3
  have c2 := h2.c3
  have e1 : (other.lims.map rLim).length = other.lims.length := List.length_map ..
  have e2 : (one.lims.map rLim).length = one.lims.length := List.length_map ..
  exact (xb_cons (xs_asg (xe_ixT (sl_do T (xe_var 1)) (xe_var 2) hat) (xg_tup (xgs_cons (xg_name 3 nd) (xgs_cons (xg_name 4 nd) (xgs_cons (xg_name 5 nd) (xgs_cons (xg_name 6 nd) xgs_nil))))))
  (xb_cons (xs_asg (xe_tup (xa_cons ((xe_len T.f_len (sl_li T (xe_var 1))).cast (by rw [e1])) (xa_cons ((xe_repT (xe_tup (xa_cons (xe_gt_ALL T) xa_nil)) (sl_cl T (xe_var 0)) h1.c1 (by omega)).cast (show _ = rT ((freeG one.cl).map rG) by unfold freeG; rw [List.map_replicate])) (xa_cons (xe_call (ok_shifted T) hr (xa_cons (xe_var 0) (xa_cons (xe_var 5) xa_nil)) ⟨one, (door other i).rs, rfl, by omega, rfl⟩) xa_nil)))) (xg_tup (xgs_cons (xg_name 7 nd) (xgs_cons (xg_name 8 nd) (xgs_cons (xg_name 9 nd) xgs_nil)))))
  (xb_cons (xs_retR ((xe_lc1 (f := fun t : Nat => rDoor ⟨(t : Int) * (other.lims.length : Int) + (door other i).room, freeG one.cl ++ (door other i).gs, shiftK one.cl (door other i).rs, (t : Int) * (other.lims.length : Int) + (door other i).goal⟩) (own := [("here", 10)]) nd (blkOk_by (N := ["one", "other", "index", "room", "guards", "resets", "goal", "many", "free", "told", "here"]) (by rfl)) (xi_range T.f_range ((xe_len T.f_len (sl_li T (xe_var 0))).cast (by rw [e2])) (by omega)) (fun x hx => ⟨_, _, by decide, fun _ _ _ _ _ => ⟨(xg_name 10 nd), xts_nil, fun _ => ((xe_tup (xa_cons (xe_add (xe_mul (xe_var 10) (xe_var 7) (cm_nat (by omega))) (xe_var 3)) (xa_cons ((xe_tup (xa_star (xe_var 8) (xa_star (xe_var 4) xa_nil)) (by rw [List.length_append, List.length_append, List.length_map, List.length_map, hk.gl]; unfold freeG; rw [List.length_replicate]; show _ ≤ 2 ^ 24; simp; omega)).cast (show _ = rT ((freeG one.cl ++ (door other i).gs).map rG) by rw [List.append_nil, List.map_append])) (xa_cons (xe_var 9) (xa_cons (xe_add (xe_mul (xe_var 10) (xe_var 7) (cm_nat (by omega))) (xe_var 6)) xa_nil))))))⟩⟩) (lt_of_len (by rw [List.length_range]; omega))).cast (by unfold lastD; rw [List.map_map]; rfl)) hB) xb_dead)))
def S_both_door (rs : List Vp) (r : Vp) : Prop := ∃ one other p, rs = [rM one, rM other, rPr p] ∧ MachOk one ∧ MachOk other ∧ (0 ≤ p.1 ∧ p.1.toNat < one.doors.length) ∧ (0 ≤ p.2 ∧ p.2.toNat < other.doors.length) ∧ r = rDoor (bothD one other p)
theorem ok_both_door (T : Txt mg) : Fn P w mg base "both_door" 2 (spF S_both_door) := by
  obtain ⟨fd, F⟩ := T.fd_both_door
  have nd : (["one", "other", "pair", "first", "last", "many", "guards", "resets"] : List Str).Nodup := by decide +kernel
  refine fn_ok (N := ["one", "other", "pair", "first", "last", "many", "guards", "resets"]) (ps := ["one", "other", "pair"]) F T.g_both_door (fun _ _ _ _ _ _ us hl => match us, hl with | [_, _, _], _ => rfl) ⟨rfl, rfl, rfl, nd, rfl, by decide +kernel, by decide +kernel⟩ (by decide)
    (by intro rs r hS; obtain ⟨one, other, p, rfl, h1, h2, hp1, hp2, rfl⟩ := hS <;> rfl) fun cdv A outer s H E M rs r hr hS => ?_
  have hB := Ex.refl H
  obtain ⟨one, other, p, rfl, h1, h2, hp1, hp2, rfl⟩ := hS
  have hat1 : atI (one.doors.map rDoor) p.1 = some (rDoor (door one p.1)) := atI_int hp1.1 (map_at' (door_get hp1.2))
  have hat2 : atI (other.doors.map rDoor) p.2 = some (rDoor (door other p.2)) := atI_int hp2.1 (map_at' (door_get hp2.2))
  have hk1 := door_ok h1 hp1.2
  have hk2 := door_ok h2 hp2.2
  have hrl1 := rs_len hk1 h1.c3
  have hrl := rs_len hk2 h2.c3
  have l6 := h2.l6
  have c1 := h1.c3
  have c2 := h2.c3
  have g1 := hk1.gl
  have g2 := hk2.gl
  have e1 : (other.lims.map rLim).length = other.lims.length := List.length_map ..
  exact (xb_cons (xs_par3 3 4 5 nd (xa_cons (xe_ixT (sl_do T (xe_var 0)) (xe_ixT (xe_var 2) xe_int) hat1) (xa_cons (xe_ixT (sl_do T (xe_var 1)) (xe_ixT (xe_var 2) xe_int) hat2) (xa_cons ((xe_len T.f_len (sl_li T (xe_var 1))).cast (by rw [e1])) xa_nil))))
  (xb_cons (xs_par 6 7 nd (xa_cons ((xe_tup (xa_star (xe_ixT (xe_var 3) xe_int) (xa_star (xe_ixT (xe_var 4) xe_int) xa_nil)) (by simp only [List.length_append, List.length_map, List.length_nil]; show _ ≤ 2 ^ 24; omega)).cast (show _ = rT ((bothD one other p).gs.map rG) by unfold bothD; rw [List.append_nil, List.map_append])) (xa_cons ((xe_tup (xa_star (xe_ixT (xe_var 3) xe_int) (xa_star (xe_call (ok_shifted T) hr (xa_cons (xe_var 0) (xa_cons (xe_ixT (xe_var 4) xe_int) xa_nil)) ⟨one, (door other p.2).rs, rfl, by omega, rfl⟩) xa_nil)) (by simp only [List.length_append, List.length_map, List.length_nil, shiftK]; show _ ≤ 2 ^ 24; omega)).cast (show _ = rT ((bothD one other p).rs.map TL.rI) by unfold bothD; rw [List.append_nil, List.map_append])) xa_nil)))
  (xb_cons (xs_retR (xe_tup (xa_cons (xe_add (xe_mul (xe_ixT (xe_var 3) xe_int) (xe_var 5) (cm_nat (by omega))) (xe_ixT (xe_var 4) xe_int)) (xa_cons (xe_var 6) (xa_cons (xe_var 7) (xa_cons (xe_add (xe_mul (xe_ixT (xe_var 3) xe_int) (xe_var 5) (cm_nat (by omega))) (xe_ixT (xe_var 4) xe_int)) xa_nil))))) hB) xb_dead)))
end
end M33
namespace M33
open PySem PySem.Spec PyProof.Rows L2 TL
section
variable [KK] {P : Program} {w : World} {mg : Str → Option Value} {base : Heap}
theorem rSide_op (p : Option Int × Option Int) : rT [rOp p.1, rOp p.2] = rSide p := rfl
theorem notIn_t {i : Int} {l : List Int} (h : ¬ i ∈ l) : (!decide (i ∈ l)) = true := by simp [h]
theorem notIn_f {i : Int} {l : List Int} (h : i ∈ l) : (!decide (i ∈ l)) = false := by simp [h]
def S_doors_and_sides (rs : List Vp) (r : Vp) : Prop := ∃ one other sh, rs = [rM one, rM other, rT (sh.map rPr)] ∧ NetIn one other sh ∧ r = rT [rL ((nDoors one other sh).map rDoor), rL ((nSides one other sh).map rSide)]
theorem ok_doors_and_sides (T : Txt mg) : Fn P w mg base "doors_and_sides" 3 (spF S_doors_and_sides) := by
  obtain ⟨fd, F⟩ := T.fd_doors_and_sides
  have nd : (["one", "other", "shared", "doors", "sides", "index", "some", "first", "last", "pair"] : List Str).Nodup := by decide +kernel
  refine fn_ok (N := ["one", "other", "shared", "doors", "sides", "index", "some", "first", "last", "pair"]) (ps := ["one", "other", "shared"]) F T.g_doors_and_sides (fun _ _ _ _ _ _ us hl => match us, hl with | [_, _, _], _ => rfl) ⟨rfl, rfl, rfl, nd, rfl, by decide +kernel, by decide +kernel⟩ (by decide)
    (by intro rs r hS; obtain ⟨one, other, sh, rfl, h, rfl⟩ := hS <;> rfl) fun cdv A outer s H E M rs r hr hS => ?_
  have hB := Ex.refl H
  obtain ⟨one, other, sh, rfl, h, rfl⟩ := hS
  have hd := h.d
  have l6 := h.h2.l6
  have l61 := h.h1.l6
  have d1 := h.h1.d12
  have d2 := h.h2.d12
  have hsh : sh.length ≤ 1000 := by omega
  have lA : ∀ n, n ≤ 12 → (dA one other sh n).length ≤ 72 := fun n hn => Nat.le_trans (dA_len n) (Nat.le_trans (Nat.mul_le_mul hn l6) (by decide))
  have lB : ∀ n, n ≤ 12 → (dB one other sh n).length ≤ 72 := fun n hn => Nat.le_trans (dB_len n) (Nat.le_trans (Nat.mul_le_mul hn l61) (by decide))
  have e1 : (one.doors.map rDoor).length = one.doors.length := List.length_map ..
  have e2 : (other.doors.map rDoor).length = other.doors.length := List.length_map ..
  refine (xb_cons (xs_par 3 4 nd (xa_cons (xe_lst xa_nil) (xa_cons (xe_lst xa_nil) xa_nil)))
  (xb_cons (Mid := TL.Env H M [] [some (rM one), some (rM other), some (rT (sh.map rPr)), some (rL ((dA one other sh one.doors.length).map rDoor)), some (rL ((sA one other sh one.doors.length).map rSide)), none, none, none, none, none] [])
    (xs_for (fun i (_ : Unit) => True) (fun i _ => [some (rM one), some (rM other), some (rT (sh.map rPr)), some (rL ((dA one other sh i).map rDoor)), some (rL ((sA one other sh i).map rSide)), none, none, none, none, none]) (fun _ _ => []) (xi_range T.f_range ((xe_len T.f_len (sl_do T (xe_var 0))).cast (by rw [e1])) (by omega)) () trivial ⟨rfl, rfl, rfl, rfl, rfl, trivial⟩ rfl (fun B1 i p a hB1 hp hI => ?_) (fun _ _ σ H' E => by
      rw [List.length_map, List.length_range] at E
      exact E))
  (xb_cons (Mid := TL.Env H M [] [some (rM one), some (rM other), some (rT (sh.map rPr)), some (rL ((dA one other sh one.doors.length ++ dB one other sh other.doors.length).map rDoor)), some (rL ((sA one other sh one.doors.length ++ sB one other sh other.doors.length).map rSide)), none, none, none, none, none] [])
    (xs_for (fun i (_ : Unit) => True) (fun i _ => [some (rM one), some (rM other), some (rT (sh.map rPr)), some (rL ((dA one other sh one.doors.length ++ dB one other sh i).map rDoor)), some (rL ((sA one other sh one.doors.length ++ sB one other sh i).map rSide)), none, none, none, none, none]) (fun _ _ => []) (xi_range T.f_range ((xe_len T.f_len (sl_do T (xe_var 1))).cast (by rw [e2])) (by omega)) () trivial ⟨rfl, rfl, rfl, by simp [dB], by simp [sB], trivial⟩ rfl (fun B1 i p a hB1 hp hI => ?_) (fun _ _ σ H' E => by
      rw [List.length_map, List.length_range] at E
      exact E))
  (xb_cons (xs_retR (xe_tup (xa_cons ((xe_catL (xe_var 3) (xe_lc1 (f := fun p => rDoor (bothD one other p)) (own := [("pair", 9)]) nd (blkOk_by (N := ["one", "other", "shared", "doors", "sides", "index", "some", "first", "last", "pair"]) (by rfl)) (xi_tup (xe_var 2)) (fun x hx => ⟨_, _, by decide, fun _ _ _ _ _ => ⟨(xg_name 9 nd), xts_nil, fun _ => (xe_call (ok_both_door T) hr (xa_cons (xe_var 0) (xa_cons (xe_var 1) (xa_cons (xe_var 9) xa_nil))) ⟨one, other, x, rfl, h.h1, h.h2, h.s1 x hx, h.s2 x hx, rfl⟩)⟩⟩) (lt_of_len hsh)) (by
      have a1 := lA _ d1
      have a2 := lB _ d2
      rw [List.length_map, List.length_append, List.length_map]; show _ ≤ 2 ^ 24; omega)).cast (show _ = rL ((nDoors one other sh).map rDoor) by unfold nDoors; rw [List.map_append (l₂ := sh.map _), List.map_map]; rfl)) (xa_cons ((xe_catL (xe_var 4) (xe_list T.f_list (xe_var 2)) (by
      have a1 := lA _ d1
      have a2 := lB _ d2
      rw [List.length_map, List.length_append, sA_len, sB_len, List.length_map]; show _ ≤ 2 ^ 24; omega)).cast (show _ = rL ((nSides one other sh).map rSide) by unfold nSides; rw [List.map_append (l₂ := sh.map _), List.map_map]; rfl)) xa_nil))) hB) xb_dead))))
  · obtain ⟨x, hx, rfl⟩ := map_at hp
    have hxi : x = i ∧ i < one.doors.length := by
      obtain ⟨hl, e⟩ := List.getElem?_eq_some_iff.mp hx
      rw [List.getElem_range] at e
      rw [List.length_range] at hl
      exact ⟨e.symm, hl⟩
    obtain ⟨rfl, hi⟩ := hxi
    refine ⟨_, _, (xg_name 5 nd), ?_⟩
    by_cases hin : (x : Int) ∈ sh.map (·.1)
    · exact (xb_cons (xs_ifF ((xt_notInL (xe_var 5) ((xe_lc1 (f := fun p : Int × Int => TL.rI p.1) (own := [("first", 7), ("last", 8)]) nd (blkOk_by (N := ["one", "other", "shared", "doors", "sides", "index", "some", "first", "last", "pair"]) (by rfl)) (xi_tup (xe_var 2)) (fun x hx => ⟨_, _, by decide, fun _ _ _ _ _ => ⟨(xg_tup (xgs_cons (xg_name 7 nd) (xgs_cons (xg_name 8 nd) xgs_nil))), xts_nil, fun _ => (xe_var 7)⟩⟩) (lt_of_len hsh)).cast (show _ = rL ((sh.map (·.1)).map TL.rI) by rw [List.map_map]; rfl))).cast (notIn_f hin)) (xb_nil fun σ H' E => E))
        (xb_nil fun σ H' E => ⟨(), trivial, by
          show TL.Env B1 M [] [some (rM one), some (rM other), some (rT (sh.map rPr)), some (rL ((dA one other sh (x + 1)).map rDoor)), some (rL ((sA one other sh (x + 1)).map rSide)), none, none, none, none, none] [] σ H'
          rw [dA_succ, sA_succ, if_pos hin, if_pos hin, List.append_nil, List.append_nil]
          exact E.sub ⟨rfl, rfl, rfl, rfl, rfl, trivial⟩⟩))
    · have a1 := lA x (by omega)
      have hfl : (firstD one other x).length = other.lims.length := by simp [firstD]
      exact (xb_cons (xs_ifT ((xt_notInL (xe_var 5) ((xe_lc1 (f := fun p : Int × Int => TL.rI p.1) (own := [("first", 7), ("last", 8)]) nd (blkOk_by (N := ["one", "other", "shared", "doors", "sides", "index", "some", "first", "last", "pair"]) (by rfl)) (xi_tup (xe_var 2)) (fun x hx => ⟨_, _, by decide, fun _ _ _ _ _ => ⟨(xg_tup (xgs_cons (xg_name 7 nd) (xgs_cons (xg_name 8 nd) xgs_nil))), xts_nil, fun _ => (xe_var 7)⟩⟩) (lt_of_len hsh)).cast (show _ = rL ((sh.map (·.1)).map TL.rI) by rw [List.map_map]; rfl))).cast (notIn_t hin)) 
        (xb_cons (xs_set 6 nd (xe_call (ok_first_doors T) hr (xa_cons (xe_var 0) (xa_cons (xe_var 1) (xa_cons (xe_var 5) xa_nil))) ⟨one, other, x, rfl, h.h1, h.h2, by omega, by simpa using hi, rfl⟩))
        (xb_cons (xs_par 3 4 nd (xa_cons (xe_catL (xe_var 3) (xe_var 6) (by rw [List.length_map, List.length_map, hfl]; show _ ≤ 2 ^ 24; omega)) (xa_cons (xe_catL (xe_var 4) (xe_repL (n := other.lims.length) (xe_lst (xa_cons (xe_tup (xa_cons (xe_var 5) (xa_cons xe_non xa_nil))) xa_nil)) ((xe_lenL T.f_len (xe_var 6)).cast (by rw [List.length_map, hfl])) (by omega)) (by rw [List.length_map, List.length_replicate, sA_len]; show _ ≤ 2 ^ 24; omega)) xa_nil)))
        (xb_nil fun σ H' E => E))))
        (xb_nil fun σ H' E => ⟨(), trivial, by
          show TL.Env B1 M [] [some (rM one), some (rM other), some (rT (sh.map rPr)), some (rL ((dA one other sh (x + 1)).map rDoor)), some (rL ((sA one other sh (x + 1)).map rSide)), none, none, none, none, none] [] σ H'
          rw [dA_succ, sA_succ, if_neg hin, if_neg hin, List.map_append, List.map_append, List.map_replicate]
          exact E.sub ⟨rfl, rfl, rfl, rfl, rfl, trivial⟩⟩))
  · obtain ⟨x, hx, rfl⟩ := map_at hp
    have hxi : x = i ∧ i < other.doors.length := by
      obtain ⟨hl, e⟩ := List.getElem?_eq_some_iff.mp hx
      rw [List.getElem_range] at e
      rw [List.length_range] at hl
      exact ⟨e.symm, hl⟩
    obtain ⟨rfl, hi⟩ := hxi
    refine ⟨_, _, (xg_name 5 nd), ?_⟩
    have a0 := lA _ d1
    by_cases hin : (x : Int) ∈ sh.map (·.2)
    · exact (xb_cons (xs_ifF ((xt_notInL (xe_var 5) ((xe_lc1 (f := fun p : Int × Int => TL.rI p.2) (own := [("first", 7), ("last", 8)]) nd (blkOk_by (N := ["one", "other", "shared", "doors", "sides", "index", "some", "first", "last", "pair"]) (by rfl)) (xi_tup (xe_var 2)) (fun x hx => ⟨_, _, by decide, fun _ _ _ _ _ => ⟨(xg_tup (xgs_cons (xg_name 7 nd) (xgs_cons (xg_name 8 nd) xgs_nil))), xts_nil, fun _ => (xe_var 8)⟩⟩) (lt_of_len hsh)).cast (show _ = rL ((sh.map (·.2)).map TL.rI) by rw [List.map_map]; rfl))).cast (notIn_f hin)) (xb_nil fun σ H' E => E))
        (xb_nil fun σ H' E => ⟨(), trivial, by
          show TL.Env B1 M [] [some (rM one), some (rM other), some (rT (sh.map rPr)), some (rL ((dA one other sh one.doors.length ++ dB one other sh (x + 1)).map rDoor)), some (rL ((sA one other sh one.doors.length ++ sB one other sh (x + 1)).map rSide)), none, none, none, none, none] [] σ H'
          rw [dB_succ, sB_succ, if_pos hin, if_pos hin, List.append_nil, List.append_nil]
          exact E.sub ⟨rfl, rfl, rfl, rfl, rfl, trivial⟩⟩))
    · have a1 := lB x (by omega)
      have hfl : (lastD one other x).length = one.lims.length := by simp [lastD]
      exact (xb_cons (xs_ifT ((xt_notInL (xe_var 5) ((xe_lc1 (f := fun p : Int × Int => TL.rI p.2) (own := [("first", 7), ("last", 8)]) nd (blkOk_by (N := ["one", "other", "shared", "doors", "sides", "index", "some", "first", "last", "pair"]) (by rfl)) (xi_tup (xe_var 2)) (fun x hx => ⟨_, _, by decide, fun _ _ _ _ _ => ⟨(xg_tup (xgs_cons (xg_name 7 nd) (xgs_cons (xg_name 8 nd) xgs_nil))), xts_nil, fun _ => (xe_var 8)⟩⟩) (lt_of_len hsh)).cast (show _ = rL ((sh.map (·.2)).map TL.rI) by rw [List.map_map]; rfl))).cast (notIn_t hin)) 
        (xb_cons (xs_set 6 nd (xe_call (ok_last_doors T) hr (xa_cons (xe_var 0) (xa_cons (xe_var 1) (xa_cons (xe_var 5) xa_nil))) ⟨one, other, x, rfl, h.h1, h.h2, by omega, by simpa using hi, rfl⟩))
        (xb_cons (xs_par 3 4 nd (xa_cons (xe_catL (xe_var 3) (xe_var 6) (by rw [List.length_map, List.length_map, hfl, List.length_append]; show _ ≤ 2 ^ 24; omega)) (xa_cons (xe_catL (xe_var 4) (xe_repL (n := one.lims.length) (xe_lst (xa_cons (xe_tup (xa_cons xe_non (xa_cons (xe_var 5) xa_nil))) xa_nil)) ((xe_lenL T.f_len (xe_var 6)).cast (by rw [List.length_map, hfl])) (by omega)) (by rw [List.length_map, List.length_replicate, List.length_append, sA_len, sB_len]; show _ ≤ 2 ^ 24; omega)) xa_nil)))
        (xb_nil fun σ H' E => E))))
        (xb_nil fun σ H' E => ⟨(), trivial, by
          show TL.Env B1 M [] [some (rM one), some (rM other), some (rT (sh.map rPr)), some (rL ((dA one other sh one.doors.length ++ dB one other sh (x + 1)).map rDoor)), some (rL ((sA one other sh one.doors.length ++ sB one other sh (x + 1)).map rSide)), none, none, none, none, none] [] σ H'
          rw [dB_succ, sB_succ, if_neg hin, if_neg hin, ← List.append_assoc, ← List.append_assoc, List.map_append (l₂ := lastD _ _ _), List.map_append (l₂ := List.replicate _ _), List.map_replicate]
          exact E.sub ⟨rfl, rfl, rfl, rfl, rfl, trivial⟩⟩))
def S_require_sizes (rs : List Vp) (r : Vp) : Prop := ∃ one other sh, rs = [rM one, rM other, rL ((nDoors one other sh).map rDoor)] ∧ NetIn one other sh ∧ r = rN
theorem ok_require_sizes (T : Txt mg) : Fn P w mg base "require_sizes" 1 (spF S_require_sizes) := by
  obtain ⟨fd, F⟩ := T.fd_require_sizes
  have nd : (["one", "other", "doors"] : List Str).Nodup := by decide +kernel
  refine fn_ok (N := ["one", "other", "doors"]) (ps := ["one", "other", "doors"]) F T.g_require_sizes (fun _ _ _ _ _ _ us hl => match us, hl with | [_, _, _], _ => rfl) ⟨rfl, rfl, rfl, nd, rfl, by decide +kernel, by decide +kernel⟩ (by decide)
    (by intro rs r hS; obtain ⟨one, other, sh, rfl, h, rfl⟩ := hS <;> rfl) fun cdv A outer s H E M rs r hr hS => ?_
  have hB := Ex.refl H
  obtain ⟨one, other, sh, rfl, h, rfl⟩ := hS
  have hc := h.c
  have hl := h.l
  have hn := nDoors_len h
  have l6 := h.h2.l6
  exact xb_ifF ((xt_gt (xe_add (sl_cl T (xe_var 0)) (sl_cl T (xe_var 1))) (xe_gi T.i_MOST_CLOCKS)).cast (decide_eq_false (by omega)))
    (xb_ifF ((xt_gt (xe_mul (xe_len T.f_len (sl_li T (xe_var 0))) (xe_len T.f_len (sl_li T (xe_var 1))) (by rw [List.length_map (as := other.lims)]; exact cm_nat (by omega))) (xe_gi T.i_MOST_ROOMS)).cast (decide_eq_false (by
        rw [List.length_map, List.length_map]
        have : ((one.lims.length : Int) * (other.lims.length : Int)) = ((one.lims.length * other.lims.length : Nat) : Int) := by simp
        omega)))
    (xb_ifF ((xt_gt (xe_lenL T.f_len (xe_var 2)) (xe_gi T.i_MOST_DOORS)).cast (decide_eq_false (by rw [List.length_map]; omega))) (xb_endN hB)))
end
end M33
namespace M33
open PySem PySem.Spec PyProof.Rows L2 TL
theorem lt_mul {a b m n : Int} (h0 : 0 ≤ a) (h1 : a < m) (h2 : 0 ≤ b) (h3 : b < n) : 0 ≤ a * n + b ∧ a * n + b < m * n := by
  have e1 : 0 ≤ a * n := Int.mul_nonneg h0 (by omega)
  have e2 : (a + 1) * n ≤ m * n := Int.mul_le_mul_of_nonneg_right (by omega) (by omega)
  rw [Int.add_mul, Int.one_mul] at e2
  constructor <;> omega
theorem mkDoor {c1 c2 l1 l2 : Nat} {r1 r2 g1 g2 : Int} {gs1 gs2 : List (Int × Int)} {rs1 rs2 : List Int} (a1 : 0 ≤ r1 ∧ r1 < l1) (a2 : 0 ≤ r2 ∧ r2 < l2) (b1 : 0 ≤ g1 ∧ g1 < l1) (b2 : 0 ≤ g2 ∧ g2 < l2)
    (d1 : gs1.length = c1) (d2 : gs2.length = c2) (e1 : ∀ g ∈ gs1, 0 ≤ g.1 ∧ g.1 ≤ g.2 ∧ g.2 ≤ 4) (e2 : ∀ g ∈ gs2, 0 ≤ g.1 ∧ g.1 ≤ g.2 ∧ g.2 ≤ 4) (f1 : ∀ r ∈ rs1, 0 ≤ r ∧ r < c1) (f2 : ∀ r ∈ rs2, 0 ≤ r ∧ r < c2) (p1 : rs1.Pairwise (· < ·)) (p2 : rs2.Pairwise (· < ·)) :
    DoorOk (c1 + c2) (l1 * l2) ⟨r1 * l2 + r2, gs1 ++ gs2, rs1 ++ shiftK c1 rs2, g1 * l2 + g2⟩ := by
  have h1 := lt_mul a1.1 a1.2 a2.1 a2.2
  have h2 := lt_mul b1.1 b1.2 b2.1 b2.2
  refine ⟨h1.1, by simpa using h1.2, by simp [d1, d2], fun g hg => ?_, fun r hr => ?_, ?_, h2.1, by simpa using h2.2⟩
  · rcases List.mem_append.mp hg with hg | hg
    · exact e1 g hg
    · exact e2 g hg
  · rcases List.mem_append.mp hr with hr | hr
    · have := f1 r hr
      constructor <;> omega
    · obtain ⟨x, hx, rfl⟩ := List.mem_map.mp hr
      have := f2 x hx
      constructor <;> omega
  · refine List.pairwise_append.mpr ⟨p1, ?_, fun a ha b hb => ?_⟩
    · exact List.pairwise_map.mpr (p2.imp fun h => by omega)
    · obtain ⟨x, hx, rfl⟩ := List.mem_map.mp hb
      have := f1 a ha
      have := f2 x hx
      omega
theorem free_ok (n : Nat) : ∀ g ∈ freeG n, 0 ≤ g.1 ∧ g.1 ≤ g.2 ∧ g.2 ≤ 4 := fun g hg => by
  have := List.eq_of_mem_replicate hg
  subst this
  decide
theorem fm_len {α β γ : Type} (f : α → β → γ) (l : List α) (m : List β) : (l.flatMap fun h => m.map (f h)).length = l.length * m.length := by
  induction l with
  | nil => simp
  | cons x l ih => rw [List.flatMap_cons, List.length_append, ih, List.length_map, List.length_cons, Nat.succ_mul]; omega
theorem nMach_ok {one other : Mach} {sh : List (Int × Int)} (h : NetIn one other sh) : MachOk (nMach one other sh) := by
  have h1 := h.h1
  have h2 := h.h2
  have hll : (nLims one other).length = one.lims.length * other.lims.length := fm_len (fun h t => h ++ t) _ _
  have a1 := h1.c1
  have a2 := h1.l1
  have a3 := h2.l1
  have hp : 1 * 1 ≤ one.lims.length * other.lims.length := Nat.mul_le_mul a2 a3
  have mem : ∀ l ∈ nLims one other, ∃ x ∈ one.lims, ∃ y ∈ other.lims, l = x ++ y := fun l hl => by
    obtain ⟨x, hx, hl⟩ := List.mem_flatMap.mp hl
    obtain ⟨y, hy, rfl⟩ := List.mem_map.mp hl
    exact ⟨x, hx, y, hy, rfl⟩
  refine ⟨by show 1 ≤ _ + _; omega, h.c, by show 1 ≤ (nLims one other).length; omega, by show (nLims one other).length ≤ 6; rw [hll]; exact h.l, fun l hl => ?_, fun l hl x hx => ?_, nDoors_len h, fun d hd => ?_⟩
  · obtain ⟨x, hx, y, hy, rfl⟩ := mem l hl
    rw [List.length_append, h1.ll x hx, h2.ll y hy]
    rfl
  · obtain ⟨u, hu, v, hv, rfl⟩ := mem l hl
    rcases List.mem_append.mp hx with hx | hx
    · exact h1.lb u hu x hx
    · exact h2.lb v hv x hx
  · show DoorOk (one.cl + other.cl) (nLims one other).length d
    rw [hll]
    rcases List.mem_append.mp hd with hd | hd
    · rcases List.mem_append.mp hd with hd | hd
      · obtain ⟨i, hi, hd⟩ := List.mem_flatMap.mp hd
        rw [List.mem_range] at hi
        split at hd
        · cases hd
        · obtain ⟨t, ht, rfl⟩ := List.mem_map.mp hd
          rw [List.mem_range] at ht
          have hk := door_ok h1 (i := i) (by simpa using hi)
          have := mkDoor (c1 := one.cl) (c2 := other.cl) (l1 := one.lims.length) (l2 := other.lims.length) (r2 := t) (g2 := t) (rs2 := []) ⟨hk.r0, hk.r1⟩ (by constructor <;> omega) ⟨hk.o0, hk.o1⟩ (by constructor <;> omega) hk.gl (by simp [freeG] : (freeG other.cl).length = other.cl) hk.g (free_ok _) hk.rs (fun _ h => nomatch h) hk.asc .nil
          simpa [shiftK] using this
      · obtain ⟨i, hi, hd⟩ := List.mem_flatMap.mp hd
        rw [List.mem_range] at hi
        split at hd
        · cases hd
        · obtain ⟨t, ht, rfl⟩ := List.mem_map.mp hd
          rw [List.mem_range] at ht
          have hk := door_ok h2 (i := i) (by simpa using hi)
          exact mkDoor (c1 := one.cl) (c2 := other.cl) (l1 := one.lims.length) (l2 := other.lims.length) (r1 := t) (g1 := t) (rs1 := []) (by constructor <;> omega) ⟨hk.r0, hk.r1⟩ (by constructor <;> omega) ⟨hk.o0, hk.o1⟩ (by simp [freeG] : (freeG one.cl).length = one.cl) hk.gl (free_ok _) hk.g (fun _ h => nomatch h) hk.rs .nil hk.asc
    · obtain ⟨p, hp, rfl⟩ := List.mem_map.mp hd
      have k1 := door_ok h1 (h.s1 p hp).2
      have k2 := door_ok h2 (h.s2 p hp).2
      exact mkDoor ⟨k1.r0, k1.r1⟩ ⟨k2.r0, k2.r1⟩ ⟨k1.o0, k1.o1⟩ ⟨k2.o0, k2.o1⟩ k1.gl k2.gl k1.g k2.g k1.rs k2.rs k1.asc k2.asc
section
variable [KK] {P : Program} {w : World} {mg : Str → Option Value} {base : Heap}
theorem fnR_ok {S : List Vp → Vp → Prop} {x qual : Str} {st : Stmt} {f : Addr} {fd : FuncData} {N ps : List Str} {k : Nat} (F : FunD KK.K x qual (defArgs st) (defBody st) (defScope st) [] [] f fd)
    (hb : ∀ (kV doc pm : Value) (an : Option Addr) (cdv ct : Value) (us : List Value), us.length = ps.length → bindArgs (PySem.W.fnOf x qual (defArgs st) (defBody st) (defScope st) .none kV doc pm an cdv ct) ⟨us, []⟩ = pure (ps.zip us))
    (sc : FnScope N ps (defScope st)) (hle : ps.length ≤ N.length) (hlen : ∀ rs r, S rs r → rs.length = ps.length)
    (body : ∀ (cdv : Value) (A : Around) (outer : List PySem.Env) (s : Shared) (H : Hp) (E : XK) (M : List Addr) (rs : List Vp) (r : Vp), Room k (A.deeper (envOfC qual (defScope st) s.heap.objs.size f cdv)) → S rs r →
      XB (Cx.nox (cxOf CX0 P w KK.K mg base N qual (defScope st) f cdv A outer s H E)) (defBody st) (TL.Env H M [] (rs.map some ++ List.replicate (N.length - ps.length) none) []) (EndsR H M r)) :
    FnR P w KK.K mg base CX0 (k + 1) f (spF S) := by
  have G : FnOk P w KK.K mg base CX0 (k + 1) f fd ps (spF S) := F.ok sc (fun vs H Q E h => by
    obtain ⟨M, rs, r, hM, hS, hA, hQ⟩ := h
    rw [hA.len, hlen rs r hS]) (fun cdv A outer s H vs Q E hr h => by
    obtain ⟨M, rs, r, hM, hS, hA, hQ⟩ := h
    refine ⟨_, PSs.nox pss_sem, ?_⟩
    have E0 : TL.Env H M [] (rs.map some ++ List.replicate (N.length - ps.length) none) [] (L2.start N vs) H := by
      have hh : hid M [] [] = M := by unfold hid; simp
      refine ⟨?_, fun m hm => (nomatch hm), by simp, Ex.refl _, fun a ha => by simp at ha, hM, fun a ha => (nomatch ha)⟩
      rw [hh]
      exact kn_start (hlen rs r hS) hle hA hM
    exact semB_le ((body cdv A outer s H E M rs r hr hS).to _ H E0) ⟨fun σ H' ⟨h1, h2⟩ => hQ _ H' h1 h2, fun v H' ⟨h1, h2⟩ => hQ v H' h1 h2, fun _ _ h => h, fun _ _ h => h⟩)
  exact (G.raw (F.bindsN hb) .nil).imp fun vs H Q E h => by rw [List.append_nil]; exact h
def S_get (g : Net → Mach) (rs : List Vp) (r : Vp) : Prop := ∃ n, rs = [rNet n] ∧ r = rM (g n)
theorem proB_ok {K : PySem.W.Frag} {x f : Str} (h : proB K x f = true) : PySem.W.findIn K (.ref (He.ga K x)) f = some (some (.ref (He.ma K (He.ga K x) f))) ∧ PySem.W.specialIn K (.ref (He.ma K (He.ga K x) f)) "__get__" = some (some (.builtin "property.__get__")) ∧
    PySem.W.takesIn K (.ref (He.ma K (He.ga K x) f)) = some true ∧ ∃ rest, PySem.W.recIn K (He.ma K (He.ga K x) f) "property" = some (.ref (gtr K x f) :: rest) := by
  unfold proB at h
  obtain ⟨h1, h⟩ := He.ba h
  obtain ⟨h2, h⟩ := He.ba h
  obtain ⟨h3, h4⟩ := He.ba h
  refine ⟨He.eqO_ok h1, He.eqO_ok h2, of_decide_eq_true h3, ?_⟩
  unfold gtr
  split at h4
  · rename_i a rest e
    exact ⟨rest, by rw [e]⟩
  · cases h4
theorem xe_prop {X : Cx} {G : En} {a : Expr} {pos : Pos} {f : Str} {n : Net} {g : Net → Mach} {k : Nat} (T : Txt mg) (hp : proB KK.K "Net" f = true) (F : FnR X.prog X.w KK.K X.mg X.base CX0 1 (gtr KK.K "Net" f) (spF (S_get g))) (hr : Room k X.A) (ha : XE X a G (rNet n)) (hj : 2 ≤ k := by decide) (hK : X.K = KK.K := by rfl)
    (hb : attributeBase a f X.env (eval a X.env) = eval a X.env := by rfl) : XE X (.Attribute a f pos) G (rM (g n)) := by
  obtain ⟨h1, h2, h3, h4⟩ := proB_ok hp
  have hc := (scl_ok (ex6 T).n).1
  rw [← hK] at h1 h2 h3 h4 hc F
  refine XE.of (SlX.pe_propSl (E := L2.E0) pe_sem hc h1 h2 h3 h4 F (hr.mono hj) (fun _ _ _ _ h => h.elim) hb) fun σ H M Q kn hQ => ha.to σ H M _ kn fun v H1 e1 h1 => ?_
  have h1' := h1
  obtain ⟨b, dx, vs, rfl, k1, k2, k3⟩ := h1
  refine ⟨b, dx, vs, rfl, .inr ⟨by rw [hK]; exact hide_le _ _ _ _ k1, hide_le _ _ _ _ k2⟩, M, [rNet n], rM (g n), (kn.ex e1).mu, ⟨n, rfl, rfl⟩, ⟨h1', trivial⟩, fun v H2 e2 h => hQ v H2 (e1.trans e2) h⟩
theorem gtF (T : Txt mg) {i : Nat} {f : Str} {st : Stmt} (hi : gts[i]? = some (f, st)) : ∃ fd, FunD KK.K f (gtQ (f, st)) (defArgs st) (defBody st) (defScope st) [] [] (gtr KK.K "Net" f) fd := by
  have hm : (f, st) ∈ gts := List.mem_of_getElem? hi
  have hok := (He.ba (He.ba T.c.ex).2).2
  have h1 := List.all_eq_true.mp hok _ hm
  have h2 := T.c.gt
  have h3 := congrArg (fun l => l[i]?) h2
  simp only [List.getElem?_map, hi, Option.map_some] at h3
  exact getter_of (Option.some.inj h3) h1
theorem ok_get_one (T : Txt mg) : FnR P w KK.K mg base CX0 1 (gtr KK.K "Net" "one") (spF (S_get Net.one)) := by
  obtain ⟨fd, F⟩ := gtF T (i := 0) (f := "one") (st := s_Net_one) rfl
  have nd : (["self"] : List Str).Nodup := by decide +kernel
  refine fnR_ok (N := ["self"]) (ps := ["self"]) F (fun _ _ _ _ _ _ us hl => match us, hl with | [_], _ => rfl) ⟨rfl, rfl, rfl, nd, rfl, by decide +kernel, by decide +kernel⟩ (by decide) (by rintro rs r ⟨n, rfl, _⟩; rfl) fun cdv A outer s H E M rs r hr hS => ?_
  obtain ⟨n, rfl, rfl⟩ := hS
  exact xb_cons (xs_retR (sl_on T (xe_var 0)) (Ex.refl H)) xb_dead
theorem ok_get_other (T : Txt mg) : FnR P w KK.K mg base CX0 1 (gtr KK.K "Net" "other") (spF (S_get Net.other)) := by
  obtain ⟨fd, F⟩ := gtF T (i := 1) (f := "other") (st := s_Net_other) rfl
  have nd : (["self"] : List Str).Nodup := by decide +kernel
  refine fnR_ok (N := ["self"]) (ps := ["self"]) F (fun _ _ _ _ _ _ us hl => match us, hl with | [_], _ => rfl) ⟨rfl, rfl, rfl, nd, rfl, by decide +kernel, by decide +kernel⟩ (by decide) (by rintro rs r ⟨n, rfl, _⟩; rfl) fun cdv A outer s H E M rs r hr hS => ?_
  obtain ⟨n, rfl, rfl⟩ := hS
  exact xb_cons (xs_retR (sl_ot T (xe_var 0)) (Ex.refl H)) xb_dead
theorem ok_get_machine (T : Txt mg) : FnR P w KK.K mg base CX0 1 (gtr KK.K "Net" "machine") (spF (S_get Net.m)) := by
  obtain ⟨fd, F⟩ := gtF T (i := 2) (f := "machine") (st := s_Net_machine) rfl
  have nd : (["self"] : List Str).Nodup := by decide +kernel
  refine fnR_ok (N := ["self"]) (ps := ["self"]) F (fun _ _ _ _ _ _ us hl => match us, hl with | [_], _ => rfl) ⟨rfl, rfl, rfl, nd, rfl, by decide +kernel, by decide +kernel⟩ (by decide) (by rintro rs r ⟨n, rfl, _⟩; rfl) fun cdv A outer s H E M rs r hr hS => ?_
  obtain ⟨n, rfl, rfl⟩ := hS
  exact xb_cons (xs_retR (sl_ma T (xe_var 0)) (Ex.refl H)) xb_dead
section
variable {X : Cx} {G : En} {a : Expr} {pos : Pos} {n : Net} {k : Nat}
theorem xe_pr_one (T : Txt mg) (hr : Room k X.A) (ha : XE X a G (rNet n)) (hj : 2 ≤ k := by decide) (hm : X.mg = mg := by rfl) (hK : X.K = KK.K := by rfl) (hb : attributeBase a "one" X.env (eval a X.env) = eval a X.env := by rfl) : XE X (.Attribute a "one" pos) G (rM n.one) :=
  xe_prop (g := Net.one) T (ex6 T).p1 (by rw [hm]; exact ok_get_one T) hr ha hj hK hb
theorem xe_pr_other (T : Txt mg) (hr : Room k X.A) (ha : XE X a G (rNet n)) (hj : 2 ≤ k := by decide) (hm : X.mg = mg := by rfl) (hK : X.K = KK.K := by rfl) (hb : attributeBase a "other" X.env (eval a X.env) = eval a X.env := by rfl) : XE X (.Attribute a "other" pos) G (rM n.other) :=
  xe_prop (g := Net.other) T (ex6 T).p2 (by rw [hm]; exact ok_get_other T) hr ha hj hK hb
theorem xe_pr_machine (T : Txt mg) (hr : Room k X.A) (ha : XE X a G (rNet n)) (hj : 2 ≤ k := by decide) (hm : X.mg = mg := by rfl) (hK : X.K = KK.K := by rfl) (hb : attributeBase a "machine" X.env (eval a X.env) = eval a X.env := by rfl) : XE X (.Attribute a "machine" pos) G (rM n.m) :=
  xe_prop (g := Net.m) T (ex6 T).p3 (by rw [hm]; exact ok_get_machine T) hr ha hj hK hb
end
/-! ### a net made -/
def S_Net_init (rs : List Vp) (fs : En) : Prop := ∃ one other sh, rs = [rM one, rM other, rT (sh.map rPr)] ∧ NetIn one other sh ∧ fs = [some (rM (nMach one other sh)), some (rM one), some (rM other), some (rT (sh.map rPr)), some (rT ((nSides one other sh).map rSide))]
theorem ok_Net_init (T : Txt mg) : FnI P w mg base (He.ma KK.K (He.ga KK.K "Net") "__init__") 11 (spI CN S_Net_init) := by
  obtain ⟨fd, F⟩ := T.fd_Net_init
  have nd : (["self", "one", "other", "shared", "limits", "doors", "sides", "here", "there"] : List Str).Nodup := by decide +kernel
  refine fnI_ok (N := ["self", "one", "other", "shared", "limits", "doors", "sides", "here", "there"]) (ps := ["self", "one", "other", "shared"]) F (fun _ _ _ _ _ _ us hl => match us, hl with | [_, _, _, _], _ => rfl) ⟨rfl, rfl, rfl, nd, rfl, by decide +kernel, by decide +kernel⟩ (by decide)
    (by intro rs r hS; obtain ⟨one, other, sh, rfl, h, rfl⟩ := hS; rfl) fun cdv A outer s H B E M rs fs x dx hr hS fx fd ne hB hM => ?_
  obtain ⟨one, other, sh, rfl, h, rfl⟩ := hS
  have hl := h.l
  have c := h.c
  exact (xb_cons (xs_expr (xe_call (ok_require_machine T) hr (xa_cons (xe_var 1) xa_nil) ⟨one, rfl, rfl⟩))
  (xb_cons (xs_expr (xe_call (ok_require_machine T) hr (xa_cons (xe_var 2) xa_nil) ⟨other, rfl, rfl⟩))
  (xb_ifF (xt_notT (xt_val (xe_call (ok_are_shared T) hr (xa_cons (xe_var 1) (xa_cons (xe_var 2) (xa_cons (xe_var 3) xa_nil))) ⟨one, other, sh, rfl, h, rfl⟩)))
  (xb_cons (xs_asg (xe_call (ok_doors_and_sides T) hr (xa_cons (xe_var 1) (xa_cons (xe_var 2) (xa_cons (xe_var 3) xa_nil))) ⟨one, other, sh, rfl, h, rfl⟩) (xg_tup (xgs_cons (xg_name 5 nd) (xgs_cons (xg_name 6 nd) xgs_nil))))
  (xb_cons (xs_expr (xe_call (ok_require_sizes T) hr (xa_cons (xe_var 1) (xa_cons (xe_var 2) (xa_cons (xe_var 5) xa_nil))) ⟨one, other, sh, rfl, h, rfl⟩))
  (xb_cons (xs_setLc2 4 (ys := fun _ => other.lims) (qf1 := fun _ => rLim) (f := fun h t => rLim (h ++ t)) (own := [("here", 7), ("there", 8)]) (vs1 := [8]) nd (blkOk_by (N := ["self", "one", "other", "shared", "limits", "doors", "sides", "here", "there"]) (by rfl)) (xi_tup (sl_li T (xe_var 1))) (by decide)
      (fun l hl1 => ⟨_, _, by decide, fun _ _ _ _ _ => ⟨xg_name 7 nd, xi_tup (sl_li T (xe_var 2))⟩, fun t ht => ⟨_, _, by decide, fun _ _ _ _ _ => ⟨xg_name 8 nd, (xe_tup (xa_star (xe_var 7) (xa_star (xe_var 8) xa_nil)) (by rw [List.length_append, List.length_append, List.length_map, List.length_map, h.h1.ll l hl1, h.h2.ll t ht]; show _ ≤ 2 ^ 24; simp; omega)).cast (show _ = rLim (l ++ t) by unfold rLim; rw [List.append_nil, List.map_append])⟩⟩⟩) (by rw [show (one.lims.flatMap fun _ => other.lims) = one.lims.flatMap fun _ => other.lims.map id by simp, fm_len (fun _ t => id t)]; show _ < 2 ^ 24; omega))
  (XB.pre (xb_cons (xs_slot 0 (scl_ok (ex6 T).n).1 (slt_ok (ex6 T).n0) (xe_var 0) (xe_Machine (m := nMach one other sh) T hr (xa_cons ((xe_add (sl_cl T (xe_var 1)) (sl_cl T (xe_var 2))).cast (show _ = TL.rI ((one.cl + other.cl : Nat) : Int) by rw [Int.natCast_add])) (xa_cons ((xe_tuple T.f_tuple (xe_var 4)).cast (show _ = rLims (nLims one other) by unfold rLims nLims; rw [List.map_flatMap]; simp only [List.map_map]; rfl)) (xa_cons (xe_tuple T.f_tuple (xe_var 5)) xa_nil))) (nMach_ok h)) (by simp))
  (xb_cons (xs_slot3 1 2 3 (scl_ok (ex6 T).n).1 (slt_ok (ex6 T).n1) (slt_ok (ex6 T).n2) (slt_ok (ex6 T).n3) (xe_var 0) (xe_var 0) (xe_var 0) (xe_tup (xa_cons (xe_var 1) (xa_cons (xe_var 2) (xa_cons (xe_var 3) xa_nil)))) (by simp) (by decide) (by decide) (by decide))
  (xb_cons (xs_slot 4 (scl_ok (ex6 T).n).1 (slt_ok (ex6 T).n4) (xe_var 0) (xe_tuple T.f_tuple (xe_var 6)) (by simp))
  (xb_nil fun σ H' R => raw_end R (fun i r h => by
      match i, h with
      | 0, h => cases h; simp
      | 1, h => cases h; simp
      | 2, h => cases h; simp
      | 3, h => cases h; simp
      | 4, h => cases h; simp
      | i + 5, h => simp at h) (by simp)))))
    fun σ H' E => raw_of hB fx fd ne hM E)))))))
theorem xe_Net {X : Cx} {G : En} {es : List Expr} {e : Expr} {pos ps : Pos} {one other : Mach} {sh : List (Int × Int)} {k : Nat} (T : Txt mg) (hr : Room k X.A) (ha : XA X (e :: es) G [rM one, rM other, rT (sh.map rPr)]) (h : NetIn one other sh) (hj : 12 ≤ k := by decide) (hg : Gl X "Net" := by rfl) (hK : X.K = KK.K := by rfl) (hmg : X.mg = mg := by rfl)
    (he : starEach (e :: es) X.env = (false, eval e X.env) :: starEach es X.env := by rfl) (hpl : (backTo pos (starEach es X.env)).any (·.1) = false := by rfl) : XE X (.Call (.Name "Net" ps) (e :: es) [] pos) G (rNet (nNet one other sh)) :=
  xe_make (C := CN) T.m_Net (by rw [hmg]; exact ok_Net_init T) hr (by rw [hmg]; exact T.g_Net) ha (show S_Net_init _ _ from ⟨one, other, sh, rfl, h, rfl⟩) hj hg hK (by decide) he hpl
end
end M33
namespace TL
open PySem PySem.Spec PyProof.Rows L2
variable [KK] {X : Cx} {e e2 : Expr} {es : List Expr} {G : En} {rs qs : List Vp} {pos ps : Pos}
theorem xi_zipL {k : Nat} {tpos : Pos} (hm : X.mg "zip" = none) (ha : XE X e G (rL rs)) (hb : XE X e2 G (rL qs)) (hg : Gl X "zip" := by rfl)
    (hs : starEach [e, e2] X.env = (false, eval e X.env) :: starEach [e2] X.env := by rfl) (hs2 : starEach [e2] X.env = [(false, eval e2 X.env)] := by rfl) :
    XI X (.Tuple es k tpos) (.Call (.Name "zip" ps) [e, e2] [] pos) G (zipP rs qs) :=
  XI.of (pi_zip hg hm pa_sem hs (by rw [hs2]; rfl)) fun σ H M R kn hR => (xa_cons ha (xa_cons hb xa_nil hs2) hs).to σ H M _ kn fun vs H1 e1 h1 => by
    obtain ⟨v, u, rfl, ⟨t, ws, rfl, hS, hA⟩, ⟨t', ws', rfl, hS', hA'⟩⟩ := h1.two
    refine ⟨t, t', ws, ws', rfl, SqL.of (hide_le M H1 _ _ hS), SqL.of (hide_le M H1 _ _ hS'), hR _ H1 e1 ⟨fun H e => ⟨ws, ws', SqL.of (e _ _ hS), SqL.of (e _ _ hS'), ?_⟩, fun i H e hi => ?_, fun i H x H' e ⟨T, y, y', h1, h2, h3, h4, h4'⟩ hi => ?_⟩⟩
    · rw [zipP_len, hA.len, hA'.len]; omega
    · rw [zipP_len, ← hA.len, ← hA'.len] at hi
      exact ⟨ws, ws', ws[i]'(by omega), ws'[i]'(by omega), SqL.of (e _ _ hS), SqL.of (e _ _ hS'), by simp, by simp⟩
    · subst h3
      refine ⟨Ex.new h2, fun M' hM eM => ?_⟩
      obtain ⟨r, h5, h6⟩ := hA.get' (h4 ws (SqL.of (e _ _ hS)))
      obtain ⟨r', h5', h6'⟩ := hA'.get' (h4' ws' (SqL.of (e _ _ hS')))
      exact ⟨_, zipP_get h5 h5', h1 ▸ new_pair hM h2 (r.mono eM h6) (r'.mono eM h6')⟩
end TL
namespace M33
open PySem PySem.Spec PyProof.Rows L2 TL
def ovU (rd ls : List Int) : List Int := (rd.zip ls).map fun p => p.1 - 12 * p.2
def lwU (rd : List Int) (gs : List (Int × Int)) : List Int := (rd.zip gs).map fun p => 12 * p.2.1 - p.1
def missU (m : Mach) (s : Int × List Int) (x : Int × Int) : List Int :=
  (ovU (grownK s.2 x.1) (lim m s.1) ++ ovU (grownK s.2 x.1) ((door m x.2).gs.map (·.2))) ++ lwU (grownK s.2 x.1) (door m x.2).gs ++ ovU (stp m s x).2 (lim m (stp m s x).1)
def missAll (m : Mach) (run : List (Int × Int)) : List Int := run.zipIdx.flatMap fun q => missU m (stf m run q.2) q.1
def wneed (m : Mach) (run : List (Int × Int)) : Int := mx 0 (missAll m run)
def lneed (m : Mach) (st : List (Int × Int) × Int) : Int := mx 0 (wneed m st.1 :: ovU (grownK (stf m st.1 st.1.length).2 st.2) (lim m (stf m st.1 st.1.length).1))
def Bs (t : Int) (l : List Int) : Prop := ∀ k ∈ l, -1000 ≤ k ∧ k ≤ t
theorem ovU_b {rd ls : List Int} {t : Int} (h : ∀ k ∈ rd, 0 ≤ k ∧ k ≤ t) (hl : ∀ x ∈ ls, 0 ≤ x ∧ x ≤ 4) : Bs t (ovU rd ls) := by
  intro k hk
  obtain ⟨p, hp, rfl⟩ := List.mem_map.mp hk
  have h1 := h _ (zip_b hp).1
  have h2 := hl _ (zip_b hp).2
  constructor <;> omega
theorem lwU_b {rd : List Int} {gs : List (Int × Int)} {t : Int} (h : ∀ k ∈ rd, 0 ≤ k ∧ k ≤ t) (hl : ∀ g ∈ gs, 0 ≤ g.1 ∧ g.1 ≤ g.2 ∧ g.2 ≤ 4) : ∀ k ∈ lwU rd gs, -t ≤ k ∧ k ≤ 48 := by
  intro k hk
  obtain ⟨p, hp, rfl⟩ := List.mem_map.mp hk
  have h1 := h _ (zip_b hp).1
  have h2 := hl _ (zip_b hp).2
  constructor <;> omega
theorem missU_b {m : Mach} {s : Int × List Int} {x : Int × Int} {t : Int} (h : StpIn m s x t) : ∀ k ∈ missU m s x, -300000 ≤ k ∧ k ≤ 300000 := by
  have hk := door_ok h.hm h.d1
  have hs2 := stp_ok h.hm h.hs h.w0 h.t0 h.d1
  have hg := grownK_b h.hs.b h.w0
  have w1 := h.w1
  have t1 := h.t1
  intro k hm
  unfold missU at hm
  rcases List.mem_append.mp hm with hm | hm
  · rcases List.mem_append.mp hm with hm | hm
    · rcases List.mem_append.mp hm with hm | hm
      · have := ovU_b hg (lim_b h.hm h.hs.r1) k hm
        constructor <;> omega
      · have := ovU_b hg (ls := (door m x.2).gs.map (·.2)) (fun y hy => by obtain ⟨g, hg', rfl⟩ := List.mem_map.mp hy; have := hk.g g hg'; constructor <;> omega) k hm
        constructor <;> omega
    · have := lwU_b hg hk.g k hm
      constructor <;> omega
  · have := ovU_b hs2.b (lim_b h.hm hs2.r1) k hm
    constructor <;> omega
theorem missU_len {m : Mach} {s : Int × List Int} {x : Int × Int} {t : Int} (h : StpIn m s x t) : (missU m s x).length ≤ 12 := by
  have c := h.hm.c3
  have hl := h.hs.l
  have hs2 := stp_ok h.hm h.hs h.w0 h.t0 h.d1
  have hl2 := hs2.l
  unfold missU ovU lwU
  simp only [List.length_append, List.length_map, List.length_zip, grownK_len]
  omega
theorem fm_take {α β : Type} {f : α → List β} {l : List α} {i : Nat} {x : α} (h : l[i]? = some x) : (l.take (i + 1)).flatMap f = (l.take i).flatMap f ++ f x := by
  rw [take_snoc h, List.flatMap_append]; simp
theorem miss_fold_len {m : Mach} (hm : MachOk m) {run : List (Int × Int)} (hr : RunOk m run) : ∀ (l : List ((Int × Int) × Nat)), (∀ q ∈ l, q ∈ run.zipIdx) → (l.flatMap fun q => missU m (stf m run q.2) q.1).length ≤ 12 * l.length
  | [], _ => by simp
  | q :: l, h => by
    have h1 := miss_fold_len hm hr l fun q hq => h q (List.mem_cons_of_mem _ hq)
    have h2 := missU_len (stpIn_at hm hr (zi_at (h q List.mem_cons_self)))
    rw [List.flatMap_cons, List.length_append, List.length_cons]
    omega
theorem missAll_b {m : Mach} (hm : MachOk m) {run : List (Int × Int)} (hr : RunOk m run) : ∀ k ∈ missAll m run, -300000 ≤ k ∧ k ≤ 300000 := by
  intro k hk
  obtain ⟨q, hq, hk⟩ := List.mem_flatMap.mp hk
  exact missU_b (stpIn_at hm hr (zi_at hq)) k hk
theorem bk2 {k t : Int} (h : -t ≤ k ∧ k ≤ t) (ht : t < 1000000) : Bk k := by constructor <;> omega
theorem mx0_b {l : List Int} {t : Int} (ht : 0 ≤ t) (h : ∀ k ∈ l, k ≤ t) : 0 ≤ mx 0 l ∧ mx 0 l ≤ t := by
  have aux : ∀ (ks : List Int) (k : Int), (0 ≤ k ∧ k ≤ t) → (∀ x ∈ ks, x ≤ t) → 0 ≤ mx k ks ∧ mx k ks ≤ t := by
    intro ks
    induction ks with
    | nil => intro k h _; exact h
    | cons x ks ih =>
      intro k h1 h2
      refine ih (max k x) ?_ fun y hy => h2 y (List.mem_cons_of_mem _ hy)
      have := h2 x List.mem_cons_self
      constructor <;> omega
  exact aux l 0 ⟨Int.le_refl _, ht⟩ h
theorem wneed_b {m : Mach} (hm : MachOk m) {run : List (Int × Int)} (hr : RunOk m run) : 0 ≤ wneed m run ∧ wneed m run ≤ 300000 := mx0_b (by decide) fun k hk => (missAll_b hm hr k hk).2
section
variable [KK] {P : Program} {w : World} {mg : Str → Option Value} {base : Heap}
def S_L_fr_low (rs : List Vp) (r : Vp) : Prop := ∃ t b : Int, rs = [TL.rI t, TL.rI b] ∧ 0 < b ∧ b < 1073741824 ∧ r = rT [TL.rI (t / (Int.gcd t b : Nat)), TL.rI (b / (Int.gcd t b : Nat))]
theorem sLow {t b k : Int} (h1 : 0 < b) (h2 : b < 1073741824) (h3 : 12 * t = k * b) : S_L_fr_low [TL.rI t, TL.rI b] (rF k) := by
  obtain ⟨e1, e2⟩ := low_eq h1 h3
  exact ⟨t, b, rfl, h1, h2, by unfold rF; rw [e1, e2]⟩
theorem ok_L_fr_low (T : Txt mg) : Fn P w mg base "_law_fr_low" 1 (spF S_L_fr_low) := by
  obtain ⟨fd, F⟩ := T.fd_L_fr_low
  have nd : (["_law_top", "_law_bottom", "_law_one", "_law_other", "_law_sign"] : List Str).Nodup := by decide +kernel
  refine fn_ok (N := ["_law_top", "_law_bottom", "_law_one", "_law_other", "_law_sign"]) (ps := ["_law_top", "_law_bottom"]) F T.g_L_fr_low (fun _ _ _ _ _ _ us hl => match us, hl with | [_, _], _ => rfl) ⟨rfl, rfl, rfl, nd, rfl, by decide +kernel, by decide +kernel⟩ (by decide)
    (by intro rs r hS; obtain ⟨t, b, rfl, h1, h2, rfl⟩ := hS <;> rfl) fun cdv A outer s H E M rs r hr hS => ?_
  have hB := Ex.refl H
  obtain ⟨t, b, rfl, h1, h2, rfl⟩ := hS
  have hb : (if b < 0 then -b else b) = b := by rw [if_neg (by omega)]
  refine (xb_cons (xs_par 2 3 nd (xa_cons (xe_abs T.f_abs (xe_var 0)) (xa_cons ((xe_abs T.f_abs (xe_var 1)).cast (show _ = TL.rI b by rw [hb])) xa_nil)))
    (xb_cons (Mid := TL.Env H M [] [some (TL.rI t), some (TL.rI b), some (TL.rI (Int.gcd t b : Nat)), none, none] []) (xs_while (A := Int × Int) (fun p => 0 ≤ p.1 ∧ 0 ≤ p.2 ∧ Int.gcd p.1 p.2 = Int.gcd t b) (fun p => [some (TL.rI t), some (TL.rI b), some (TL.rI p.1), some (TL.rI p.2), none]) (fun p => p.2.toNat) (fun p => !decide (p.2 = 0)) ((if t < 0 then -t else t), b) ⟨abs_nn t, by show 0 ≤ b; omega, gcd_abs t b⟩ ⟨rfl, rfl, rfl, rfl, trivial⟩ (fun a hI => (xt_ne (xe_var 3) xe_int)) (fun p hI hk => ?_) (fun p hI hk σ H' E' => ?_))
    (xb_cons (xs_set 4 nd (xe_if (k := true) ((xt_gt (xe_var 1) xe_int).cast (decide_eq_true h1)) (fun _ => xe_int) (fun h => nomatch h)))
    (xb_cons (xs_retR ((xe_tup (xa_cons (xe_fdiv (xe_mul (xe_var 4) (xe_var 0) (.inl (by decide))) (xe_var 2) (gcd_bd h1 h2)) (xa_cons (xe_fdiv (xe_mul (xe_var 4) (xe_var 1) (.inl (by decide))) (xe_var 2) (gcd_bd h1 h2)) xa_nil))).cast (by rw [Int.one_mul, Int.one_mul])) hB) xb_dead))))
  · obtain ⟨g1, g2, g3⟩ := hI
    have hp : 0 < p.2 := by
      have : p.2 ≠ 0 := fun z => by simp [z] at hk
      omega
    refine (xb_cons (xs_par 2 3 nd (xa_cons (xe_var 3) (xa_cons (xe_mod (xe_var 2) (xe_var 3) hp) xa_nil))) (xb_nil fun σ H' E' => ⟨(p.2, p.1 % p.2), ⟨g2, Int.emod_nonneg _ (by omega), ?_⟩, ?_, E'⟩))
    · show Int.gcd p.2 (p.1 % p.2) = _
      rw [gcd_step hp, g3]
    · have := Int.emod_lt_of_pos p.1 hp
      have := Int.emod_nonneg p.1 (show p.2 ≠ 0 by omega)
      show (p.1 % p.2).toNat < p.2.toNat
      omega
  · obtain ⟨g1, g2, g3⟩ := hI
    have h0 : p.2 = 0 := by simpa using hk
    refine E'.sub ⟨rfl, rfl, ?_, trivial⟩
    rw [← g3, h0, Int.gcd_zero_right]
    congr 1
    omega
def S_L_fr_plus (rs : List Vp) (r : Vp) : Prop := ∃ j k, rs = [rF j, rF k] ∧ Bk j ∧ Bk k ∧ r = rF (j + k)
theorem ok_L_fr_plus (T : Txt mg) : Fn P w mg base "_law_fr_plus" 2 (spF S_L_fr_plus) := by
  obtain ⟨fd, F⟩ := T.fd_L_fr_plus
  have nd : (["_law_one", "_law_other"] : List Str).Nodup := by decide +kernel
  refine fn_ok (N := ["_law_one", "_law_other"]) (ps := ["_law_one", "_law_other"]) F T.g_L_fr_plus (fun _ _ _ _ _ _ us hl => match us, hl with | [_, _], _ => rfl) ⟨rfl, rfl, rfl, nd, rfl, by decide +kernel, by decide +kernel⟩ (by decide)
    (by intro rs r hS; obtain ⟨j, k, rfl, h1, h2, rfl⟩ := hS <;> rfl) fun cdv A outer s H E M rs r hr hS => ?_
  have hB := Ex.refl H
  obtain ⟨j, k, rfl, h1, h2, rfl⟩ := hS
  exact (xb_cons (xs_retR (xe_call (ok_L_fr_low T) hr (xa_cons (xe_add (xe_mul (xe_ixT (xe_var 0) xe_int) (xe_ixT (xe_var 1) xe_int) (cmN h1)) (xe_mul (xe_ixT (xe_var 1) xe_int) (xe_ixT (xe_var 0) xe_int) (cmN h2))) (xa_cons (xe_mul (xe_ixT (xe_var 0) xe_int) (xe_ixT (xe_var 1) xe_int) cmD) xa_nil)) (sLow (den_mul j k).1 (den_mul j k).2 (sum_eq j k))) hB) xb_dead)
def S_L_fr_less (rs : List Vp) (r : Vp) : Prop := ∃ j k, rs = [rF j, rF k] ∧ Bk j ∧ Bk k ∧ r = rF (j - k)
theorem ok_L_fr_less (T : Txt mg) : Fn P w mg base "_law_fr_less" 2 (spF S_L_fr_less) := by
  obtain ⟨fd, F⟩ := T.fd_L_fr_less
  have nd : (["_law_one", "_law_other"] : List Str).Nodup := by decide +kernel
  refine fn_ok (N := ["_law_one", "_law_other"]) (ps := ["_law_one", "_law_other"]) F T.g_L_fr_less (fun _ _ _ _ _ _ us hl => match us, hl with | [_, _], _ => rfl) ⟨rfl, rfl, rfl, nd, rfl, by decide +kernel, by decide +kernel⟩ (by decide)
    (by intro rs r hS; obtain ⟨j, k, rfl, h1, h2, rfl⟩ := hS <;> rfl) fun cdv A outer s H E M rs r hr hS => ?_
  have hB := Ex.refl H
  obtain ⟨j, k, rfl, h1, h2, rfl⟩ := hS
  exact (xb_cons (xs_retR (xe_call (ok_L_fr_low T) hr (xa_cons (xe_sub (xe_mul (xe_ixT (xe_var 0) xe_int) (xe_ixT (xe_var 1) xe_int) (cmN h1)) (xe_mul (xe_ixT (xe_var 1) xe_int) (xe_ixT (xe_var 0) xe_int) (cmN h2))) (xa_cons (xe_mul (xe_ixT (xe_var 0) xe_int) (xe_ixT (xe_var 1) xe_int) cmD) xa_nil)) (sLow (den_mul j k).1 (den_mul j k).2 (less_eq j k))) hB) xb_dead)
def S_L_fr_below (rs : List Vp) (r : Vp) : Prop := ∃ j k, rs = [rF j, rF k] ∧ Bk j ∧ Bk k ∧ r = rB (decide (j < k))
theorem ok_L_fr_below (T : Txt mg) : Fn P w mg base "_law_fr_below" 1 (spF S_L_fr_below) := by
  obtain ⟨fd, F⟩ := T.fd_L_fr_below
  have nd : (["_law_one", "_law_other"] : List Str).Nodup := by decide +kernel
  refine fn_ok (N := ["_law_one", "_law_other"]) (ps := ["_law_one", "_law_other"]) F T.g_L_fr_below (fun _ _ _ _ _ _ us hl => match us, hl with | [_, _], _ => rfl) ⟨rfl, rfl, rfl, nd, rfl, by decide +kernel, by decide +kernel⟩ (by decide)
    (by intro rs r hS; obtain ⟨j, k, rfl, h1, h2, rfl⟩ := hS <;> rfl) fun cdv A outer s H E M rs r hr hS => ?_
  have hB := Ex.refl H
  obtain ⟨j, k, rfl, h1, h2, rfl⟩ := hS
  rw [show decide (j < k) = decide (fnum j * fden k < fnum k * fden j) from by simp only [f_lt]]
  exact (xb_cons (xs_retR (xe_lt (xe_mul (xe_ixT (xe_var 0) xe_int) (xe_ixT (xe_var 1) xe_int) (cmN h1)) (xe_mul (xe_ixT (xe_var 1) xe_int) (xe_ixT (xe_var 0) xe_int) (cmN h2))) hB) xb_dead)
theorem rF0 : rT [TL.rI 0, TL.rI 1] = rF 0 := rF12 0
def S_L_fr_most (rs : List Vp) (r : Vp) : Prop := ∃ ks : List Int, rs = [rL (ks.map rF)] ∧ (∀ x ∈ ks, Bk x) ∧ r = rF (mx 0 ks)
theorem ok_L_fr_most (T : Txt mg) : Fn P w mg base "_law_fr_most" 2 (spF S_L_fr_most) := by
  obtain ⟨fd, F⟩ := T.fd_L_fr_most
  have nd : (["_law_row", "_law_found", "_law_one"] : List Str).Nodup := by decide +kernel
  refine fn_ok (N := ["_law_row", "_law_found", "_law_one"]) (ps := ["_law_row"]) F T.g_L_fr_most (fun _ _ _ _ _ _ us hl => match us, hl with | [_], _ => rfl) ⟨rfl, rfl, rfl, nd, rfl, by decide +kernel, by decide +kernel⟩ (by decide)
    (by intro rs r hS; obtain ⟨ks, rfl, hb, rfl⟩ := hS <;> rfl) fun cdv A outer s H E M rs r hr hS => ?_
  have hB := Ex.refl H
  obtain ⟨ks, rfl, hb, rfl⟩ := hS
  exact (xb_cons (xs_set 1 nd ((xe_tup (xa_cons xe_int (xa_cons xe_int xa_nil))).cast rF0))
  (xb_cons (Mid := TL.Env H M [] [none, some (rF (mx 0 ks)), none] []) (xs_for (fun i a => a = mx 0 (ks.take i)) (fun i a => [none, some (rF a), none]) (fun _ _ => []) (xi_list (xe_var 0)) 0 rfl ⟨rfl, trivial⟩ rfl (fun B1 i p a hB1 hp hI => by
    obtain ⟨x, hx, rfl⟩ := map_at hp
    have hm := hb x (mem_at hx)
    have ha : Bk a := by rw [hI]; exact mx_bk (by decide) fun y hy => hb y (List.mem_of_mem_take hy)
    exact ⟨_, _, (xg_name 2 nd),
      (xb_cons (xs_set 1 nd (xe_max (xt_val (xe_call (ok_L_fr_below T) hr (xa_cons (xe_var 1) (xa_cons (xe_var 2) xa_nil)) ⟨a, x, rfl, ha, hm, rfl⟩)) (xe_var 2) (xe_var 1)))
      (xb_nil fun σ H E => ⟨max a x, by show _ = mx 0 _; rw [take_snoc hx, mx_snoc, hI], E.sub ⟨rfl, trivial⟩⟩))⟩) (fun a hI σ H E => by
        rw [List.length_map, List.take_length] at hI
        rw [← hI]
        exact E))
  (xb_cons (xs_retR (xe_var 1) hB) xb_dead)))
def rRl (rd : List Int) : Vp := rL (rd.map rF)
def S_L_ru_waited (rs : List Vp) (r : Vp) : Prop := ∃ rd w, (rs = [rRl rd, rF w] ∨ rs = [rRd rd, rF w]) ∧ (∀ k ∈ rd, Bk k) ∧ Bk w ∧ rd.length ≤ 1000 ∧ r = rRl (grownK rd w)
theorem ok_L_ru_waited (T : Txt mg) : Fn P w mg base "_law_ru_waited" 3 (spF S_L_ru_waited) := by
  obtain ⟨fd, F⟩ := T.fd_L_ru_waited
  have nd : (["_law_readings", "_law_wait", "_law_reading"] : List Str).Nodup := by decide +kernel
  refine fn_ok (N := ["_law_readings", "_law_wait", "_law_reading"]) (ps := ["_law_readings", "_law_wait"]) F T.g_L_ru_waited (fun _ _ _ _ _ _ us hl => match us, hl with | [_, _], _ => rfl) ⟨rfl, rfl, rfl, nd, rfl, by decide +kernel, by decide +kernel⟩ (by decide)
    (by intro rs r hS; obtain ⟨rd, w, rfl | rfl, hb, hw, hl, rfl⟩ := hS <;> rfl) fun cdv A outer s H E M rs r hr hS => ?_
  have hB := Ex.refl H
  obtain ⟨rd, w, rfl | rfl, hb, hw, hl, rfl⟩ := hS
  · exact (xb_cons (xs_retR ((xe_lc1 (f := fun k => rF (k + w)) (own := [("_law_reading", 2)]) nd (blkOk_by (N := ["_law_readings", "_law_wait", "_law_reading"]) (by rfl)) (xi_list (xe_var 0)) (fun x hx => ⟨_, _, by decide, fun _ _ _ _ _ => ⟨(xg_name 2 nd), xts_nil, fun _ => (xe_call (ok_L_fr_plus T) hr (xa_cons (xe_var 2) (xa_cons (xe_var 1) xa_nil)) ⟨x, w, rfl, hb x hx, hw, rfl⟩)⟩⟩) (lt_of_len hl)).cast (by unfold rRl grownK; rw [List.map_map]; rfl)) hB) xb_dead)
  · exact (xb_cons (xs_retR ((xe_lc1 (f := fun k => rF (k + w)) (own := [("_law_reading", 2)]) nd (blkOk_by (N := ["_law_readings", "_law_wait", "_law_reading"]) (by rfl)) (xi_tup (xe_var 0)) (fun x hx => ⟨_, _, by decide, fun _ _ _ _ _ => ⟨(xg_name 2 nd), xts_nil, fun _ => (xe_call (ok_L_fr_plus T) hr (xa_cons (xe_var 2) (xa_cons (xe_var 1) xa_nil)) ⟨x, w, rfl, hb x hx, hw, rfl⟩)⟩⟩) (lt_of_len hl)).cast (by unfold rRl grownK; rw [List.map_map]; rfl)) hB) xb_dead)
def S_L_ru_put (rs : List Vp) (r : Vp) : Prop := ∃ rd rz, rs = [rRl rd, rT (rz.map TL.rI)] ∧ rd.length ≤ 1000 ∧ r = rRl (putB rd rz)
theorem ok_L_ru_put (T : Txt mg) : Fn P w mg base "_law_ru_put" 1 (spF S_L_ru_put) := by
  obtain ⟨fd, F⟩ := T.fd_L_ru_put
  have nd : (["_law_readings", "_law_resets", "_law_clock", "_law_reading"] : List Str).Nodup := by decide +kernel
  refine fn_ok (N := ["_law_readings", "_law_resets", "_law_clock", "_law_reading"]) (ps := ["_law_readings", "_law_resets"]) F T.g_L_ru_put (fun _ _ _ _ _ _ us hl => match us, hl with | [_, _], _ => rfl) ⟨rfl, rfl, rfl, nd, rfl, by decide +kernel, by decide +kernel⟩ (by decide)
    (by intro rs r hS; obtain ⟨rd, rz, rfl, hl, rfl⟩ := hS <;> rfl) fun cdv A outer s H E M rs r hr hS => ?_
  have hB := Ex.refl H
  obtain ⟨rd, rz, rfl, hl, rfl⟩ := hS
  exact (xb_cons (xs_retR ((xe_lc1 (f := fun q => rF (if (q.2 : Int) ∈ rz then 0 else q.1)) (own := [("_law_clock", 2), ("_law_reading", 3)]) nd (blkOk_by (N := ["_law_readings", "_law_resets", "_law_clock", "_law_reading"]) (by rfl)) ((xi_enumL T.f_enumerate (xe_var 0)).cast (enumP_map rd)) (fun x hx => ⟨_, _, by decide, fun _ _ _ _ _ => ⟨(xg_tup (xgs_cons (xg_name 2 nd) (xgs_cons (xg_name 3 nd) xgs_nil))), xts_nil, fun _ => (xe_if (xt_inT (xe_var 2) (xe_var 1)) (fun h => ((xe_tup (xa_cons xe_int (xa_cons xe_int xa_nil))).cast rF0).cast (by rw [if_pos (of_decide_eq_true h)])) (fun h => (xe_var 3).cast (by rw [if_neg (of_decide_eq_false h)])))⟩⟩) (lt_of_len (by rw [List.length_zipIdx]; exact hl))).cast (by unfold rRl putB; rw [List.map_map]; rfl)) hB) xb_dead)
def S_L_ru_over (rs : List Vp) (r : Vp) : Prop := ∃ rd ls, (rs = [rRl rd, rT (ls.map TL.rI)] ∨ rs = [rRl rd, rL (ls.map TL.rI)]) ∧ (∀ k ∈ rd, Bk k) ∧ (∀ x ∈ ls, 0 ≤ x ∧ x ≤ 4) ∧ rd.length ≤ 1000 ∧ r = rRl (ovU rd ls)
theorem ok_L_ru_over (T : Txt mg) : Fn P w mg base "_law_ru_over" 3 (spF S_L_ru_over) := by
  obtain ⟨fd, F⟩ := T.fd_L_ru_over
  have nd : (["_law_readings", "_law_limits", "_law_reading", "_law_limit"] : List Str).Nodup := by decide +kernel
  refine fn_ok (N := ["_law_readings", "_law_limits", "_law_reading", "_law_limit"]) (ps := ["_law_readings", "_law_limits"]) F T.g_L_ru_over (fun _ _ _ _ _ _ us hl => match us, hl with | [_, _], _ => rfl) ⟨rfl, rfl, rfl, nd, rfl, by decide +kernel, by decide +kernel⟩ (by decide)
    (by intro rs r hS; obtain ⟨rd, ls, rfl | rfl, hb, hx, hl, rfl⟩ := hS <;> rfl) fun cdv A outer s H E M rs r hr hS => ?_
  have hB := Ex.refl H
  obtain ⟨rd, ls, rfl | rfl, hb, hx, hl, rfl⟩ := hS
  · exact (xb_cons (xs_retR ((xe_lc1 (f := fun p : Int × Int => rF (p.1 - 12 * p.2)) (own := [("_law_reading", 2), ("_law_limit", 3)]) nd (blkOk_by (N := ["_law_readings", "_law_limits", "_law_reading", "_law_limit"]) (by rfl)) ((xi_zipM T.f_zip (xe_var 0) (xe_var 1)).cast (zipP_map _ _)) (fun p hp => ⟨_, _, by decide, fun _ _ _ _ _ => ⟨(xg_tup (xgs_cons (xg_name 2 nd) (xgs_cons (xg_name 3 nd) xgs_nil))), xts_nil, fun _ => (xe_call (ok_L_fr_less T) hr (xa_cons (xe_var 2) (xa_cons ((xe_tup (xa_cons (xe_var 3) (xa_cons xe_int xa_nil))).cast (rF12 _)) xa_nil)) ⟨p.1, 12 * p.2, rfl, hb _ (zip_b hp).1, by have := hx _ (zip_b hp).2; constructor <;> omega, rfl⟩)⟩⟩) (lt_of_len (by rw [List.length_zip]; omega))).cast (by unfold rRl ovU; rw [List.map_map]; rfl)) hB) xb_dead)
  · exact (xb_cons (xs_retR ((xe_lc1 (f := fun p : Int × Int => rF (p.1 - 12 * p.2)) (own := [("_law_reading", 2), ("_law_limit", 3)]) nd (blkOk_by (N := ["_law_readings", "_law_limits", "_law_reading", "_law_limit"]) (by rfl)) ((xi_zipL T.f_zip (xe_var 0) (xe_var 1)).cast (zipP_map _ _)) (fun p hp => ⟨_, _, by decide, fun _ _ _ _ _ => ⟨(xg_tup (xgs_cons (xg_name 2 nd) (xgs_cons (xg_name 3 nd) xgs_nil))), xts_nil, fun _ => (xe_call (ok_L_fr_less T) hr (xa_cons (xe_var 2) (xa_cons ((xe_tup (xa_cons (xe_var 3) (xa_cons xe_int xa_nil))).cast (rF12 _)) xa_nil)) ⟨p.1, 12 * p.2, rfl, hb _ (zip_b hp).1, by have := hx _ (zip_b hp).2; constructor <;> omega, rfl⟩)⟩⟩) (lt_of_len (by rw [List.length_zip]; omega))).cast (by unfold rRl ovU; rw [List.map_map]; rfl)) hB) xb_dead)
def S_L_ru_length (rs : List Vp) (r : Vp) : Prop := ∃ m st, rs = [rStay st] ∧ StayOk m st ∧ r = rF (st.2 + (st.1.map (·.1)).sum)
theorem ok_L_ru_length (T : Txt mg) : Fn P w mg base "_law_ru_length" 3 (spF S_L_ru_length) := by
  obtain ⟨fd, F⟩ := T.fd_L_ru_length
  have nd : (["_law_stay", "_law_found", "_law_wait", "_law_index"] : List Str).Nodup := by decide +kernel
  refine fn_ok (N := ["_law_stay", "_law_found", "_law_wait", "_law_index"]) (ps := ["_law_stay"]) F T.g_L_ru_length (fun _ _ _ _ _ _ us hl => match us, hl with | [_], _ => rfl) ⟨rfl, rfl, rfl, nd, rfl, by decide +kernel, by decide +kernel⟩ (by decide)
    (by intro rs r hS; obtain ⟨m, st, rfl, hst, rfl⟩ := hS <;> rfl) fun cdv A outer s H E M rs r hr hS => ?_
  have hB := Ex.refl H
  obtain ⟨m, st, rfl, hst, rfl⟩ := hS
  have hw : ∀ k ∈ st.1.map (·.1), 0 ≤ k ∧ k ≤ 1000 := fun k hk => by obtain ⟨x, hx, rfl⟩ := List.mem_map.mp hk; exact hst.r.w x hx
  have hlen := hst.r.len
  have w1 := hst.w1
  have w0 := hst.w0
  exact (xb_cons (xs_set 1 nd (xe_ixT (xe_var 0) xe_int))
  (xb_cons (Mid := TL.Env H M [] [none, some (rF (st.2 + (st.1.map (·.1)).sum)), none, none] []) (xs_for (fun i a => a = st.2 + ((st.1.map (·.1)).take i).sum) (fun i a => [none, some (rF a), none, none]) (fun _ _ => []) (xi_tup (xe_ixT (xe_var 0) xe_int)) st.2 (by simp) ⟨rfl, trivial⟩ rfl (fun B1 i p a hB1 hp hI => by
    obtain ⟨x, hx, rfl⟩ := map_at hp
    have hm := hst.r.w x (mem_at hx)
    have h2 := sum_b (l := (st.1.map (·.1)).take i) fun k hk => hw k (List.mem_of_mem_take hk)
    have h3 : ((st.1.map (·.1)).take i).length ≤ 100 := by rw [List.length_take, List.length_map]; omega
    have hxm : (st.1.map (·.1))[i]? = some x.1 := by rw [List.getElem?_map, hx]; rfl
    have hI : a = st.2 + ((st.1.map (·.1)).take i).sum := hI
    exact ⟨_, _, (xg_tup (xgs_cons (xg_name 2 nd) (xgs_cons (xg_name 3 nd) xgs_nil))),
      (xb_cons (xs_set 1 nd (xe_call (ok_L_fr_plus T) hr (xa_cons (xe_var 1) (xa_cons (xe_var 2) xa_nil)) ⟨a, x.1, rfl, bk_of (t := 200000) (by constructor <;> omega) (by decide), bk_of hm (by decide), rfl⟩))
      (xb_nil fun σ H E => ⟨a + x.1, by show _ = st.2 + List.sum _; rw [take_snoc hxm, sum_snoc, hI, Int.add_assoc], E.sub ⟨rfl, trivial⟩⟩))⟩) (fun a hI σ H E => by
        have hI : a = st.2 + ((st.1.map (·.1)).take (st.1.map rStep).length).sum := hI
        rw [List.length_map, List.take_of_length_le (by rw [List.length_map]; exact Nat.le_refl _)] at hI
        rw [← hI]
        exact E))
  (xb_cons (xs_retR (xe_var 1) hB) xb_dead)))
end
end M33
namespace M33
open PySem PySem.Spec PyProof.Rows L2 TL
section
variable [KK] {P : Program} {w : World} {mg : Str → Option Value} {base : Heap}
theorem st0_rl (m : Mach) : rL (List.replicate m.cl (rF 0)) = rRl (st0 m).2 := by
  unfold rRl st0
  rw [List.map_replicate]
def S_L_ru_walked (rs : List Vp) (r : Vp) : Prop := ∃ m run, rs = [rTold m, rRun run] ∧ MachOk m ∧ RunOk m run ∧ r = rT [rF (wneed m run), TL.rI (stf m run run.length).1, rRd (stf m run run.length).2]
def missT (m : Mach) (run : List (Int × Int)) (i : Nat) : List Int := (run.zipIdx.take i).flatMap fun q => missU m (stf m run q.2) q.1
omit [TL.KK] in
theorem zi_get {α : Type} {l : List α} {i : Nat} {x : α} (h : l[i]? = some x) : l.zipIdx[i]? = some (x, i) := by
  rw [List.getElem?_zipIdx, h]; simp
omit [TL.KK] in
theorem missT_all (m : Mach) (run : List (Int × Int)) : missT m run run.length = missAll m run := by
  unfold missT missAll
  rw [List.take_of_length_le (by rw [List.length_zipIdx]; exact Nat.le_refl _)]
omit [TL.KK] in
theorem missT_len {m : Mach} (hm : MachOk m) {run : List (Int × Int)} (hr : RunOk m run) (i : Nat) : (missT m run i).length ≤ 1200 := by
  have h1 := miss_fold_len hm hr (run.zipIdx.take i) fun q hq => List.mem_of_mem_take hq
  have h2 : (run.zipIdx.take i).length ≤ 100 := by rw [List.length_take, List.length_zipIdx]; have := hr.len; omega
  unfold missT
  omega
theorem ok_L_ru_walked (T : Txt mg) : Fn P w mg base "_law_ru_walked" 4 (spF S_L_ru_walked) := by
  obtain ⟨fd, F⟩ := T.fd_L_ru_walked
  have nd : (["_law_told", "_law_run", "_law_clocks", "_law_limits", "_law_doors", "_law_room", "_law_readings", "_law_misses", "_law_wait", "_law_index", "_law_here", "_law_guards", "_law_resets", "_law_goal", "_law_reading", "_law_low", "_law_high"] : List Str).Nodup := by decide +kernel
  refine fn_ok (N := ["_law_told", "_law_run", "_law_clocks", "_law_limits", "_law_doors", "_law_room", "_law_readings", "_law_misses", "_law_wait", "_law_index", "_law_here", "_law_guards", "_law_resets", "_law_goal", "_law_reading", "_law_low", "_law_high"]) (ps := ["_law_told", "_law_run"]) F T.g_L_ru_walked (fun _ _ _ _ _ _ us hl => match us, hl with | [_, _], _ => rfl) ⟨rfl, rfl, rfl, nd, rfl, by decide +kernel, by decide +kernel⟩ (by decide)
    (by intro rs r hS; obtain ⟨m, run, rfl, hm, hrun, rfl⟩ := hS <;> rfl) fun cdv A outer s H E M rs r hr hS => ?_
  have hB := Ex.refl H
  obtain ⟨m, run, rfl, hm, hrun, rfl⟩ := hS
  have c3 := hm.c3
  have hlen := hrun.len
  refine (xb_cons (xs_asg (xe_var 0) (xg_tup (xgs_cons (xg_name 2 nd) (xgs_cons (xg_name 3 nd) (xgs_cons (xg_name 4 nd) xgs_nil)))))
    (xb_cons (xs_par3_vvm 5 6 7 nd xe_int ((xe_repL (xe_lst (xa_cons ((xe_tup (xa_cons xe_int (xa_cons xe_int xa_nil))).cast rF0) xa_nil)) (xe_var 2) (by omega)).cast (st0_rl m))) (xb_ex fun a => ?_)))
  refine (xb_cons (Mid := TL.Env H M [] [none, none, none, none, none, some (TL.rI (stf m run run.length).1), some (rRl (stf m run run.length).2), some (rRl (missAll m run)), none, none, none, none, none, none, none, none, none] [])
    (xs_for (fun i (_ : Unit) => True) (fun i _ => [none, none, none, some (rLims m.lims), some (rDoors m.doors), some (TL.rI (stf m run i).1), some (rRl (stf m run i).2), some (rA a), none, none, none, none, none, none, none, none, none]) (fun i _ => [(a, (missT m run i).map rF)]) (xi_tup (xe_var 1)) () trivial ⟨rfl, rfl, rfl, rfl, rfl, trivial⟩ rfl (fun B1 i p _ hB1 hp _ => ?_) (fun _ _ σ H' E => ?_))
    (xb_cons (xs_retR (xe_tup (xa_cons (xe_call (ok_L_fr_most T) hr (xa_cons (xe_var 7) xa_nil) ⟨_, rfl, fun k hk => bk2 (missAll_b hm hrun k hk) (by decide), rfl⟩) (xa_cons (xe_var 5) (xa_cons (xe_tuple T.f_tuple (xe_var 6)) xa_nil)))) hB) xb_dead))
  · obtain ⟨x, hx, rfl⟩ := map_at hp
    have h := stpIn_at hm hrun hx
    have hk := door_ok hm h.d1
    have hg := grownK_b h.hs.b h.w0
    have hs2 := stp_ok hm h.hs h.w0 h.t0 h.d1
    have w1 := h.w1
    have t1 := h.t1
    have hl := h.hs.l
    have hl2 := hs2.l
    have e := stf_succ (m := m) hx
    have hml := missT_len hm hrun i
    have hat : atI (m.doors.map rDoor) x.2 = some (rDoor (door m x.2)) := atI_int h.d0 (map_at' (door_get h.d1))
    have hlim : atI (m.lims.map rLim) (stf m run i).1 = some (rLim (lim m (stf m run i).1)) := atI_int h.hs.r0 (map_at' (lim_get h.hs.r1))
    have hlim2 : atI (m.lims.map rLim) (door m x.2).goal = some (rLim (lim m (door m x.2).goal)) := atI_int hs2.r0 (map_at' (lim_get hs2.r1))
    have b1 : ∀ k ∈ grownK (stf m run i).2 x.1, Bk k := bks hg (by omega)
    have b2 : ∀ k ∈ (stp m (stf m run i) x).2, Bk k := bks hs2.b (by omega)
    have gl : (grownK (stf m run i).2 x.1).length = m.cl := by rw [grownK_len]; exact hl
    have hgl := hk.gl
    have v1 : (ovU (grownK (stf m run i).2 x.1) (lim m (stf m run i).1)).length ≤ 3 := by simp only [ovU, List.length_map, List.length_zip]; omega
    have v2 : (ovU (grownK (stf m run i).2 x.1) ((door m x.2).gs.map (·.2))).length ≤ 3 := by simp only [ovU, List.length_map, List.length_zip]; omega
    have v3 : (lwU (grownK (stf m run i).2 x.1) (door m x.2).gs).length ≤ 3 := by simp only [lwU, List.length_map, List.length_zip]; omega
    have v4 : (ovU (stp m (stf m run i) x).2 (lim m (door m x.2).goal)).length ≤ 3 := by simp only [ovU, List.length_map, List.length_zip]; omega
    exact ⟨_, _, (xg_tup (xgs_cons (xg_name 8 nd) (xgs_cons (xg_name 9 nd) xgs_nil))),
      (xb_cons (xs_set 6 nd (xe_call (ok_L_ru_waited T) hr (xa_cons (xe_var 6) (xa_cons (xe_var 8) xa_nil)) ⟨_, x.1, .inl rfl, bks h.hs.b (by omega), bk_of ⟨h.w0, h.w1⟩ (by decide), by omega, rfl⟩))
      (xb_cons (xs_asg (xe_ixT (xe_var 4) (xe_var 9) hat) (xg_tup (xgs_cons (xg_name 10 nd) (xgs_cons (xg_name 11 nd) (xgs_cons (xg_name 12 nd) (xgs_cons (xg_name 13 nd) xgs_nil))))))
      (xb_cons (xs_ext 0 (hk := rfl) (xe_var 7) (xe_catL (xe_call (ok_L_ru_over T) hr (xa_cons (xe_var 6) (xa_cons (xe_ixT (xe_var 3) (xe_var 5) hlim) xa_nil)) ⟨_, _, .inl rfl, b1, lim_b hm h.hs.r1, by omega, rfl⟩) (xe_call (ok_L_ru_over T) hr (xa_cons (xe_var 6) (xa_cons ((xe_lc1 (f := fun g : Int × Int => TL.rI g.2) (own := [("_law_low", 15), ("_law_high", 16)]) nd (blkOk_by (N := ["_law_told", "_law_run", "_law_clocks", "_law_limits", "_law_doors", "_law_room", "_law_readings", "_law_misses", "_law_wait", "_law_index", "_law_here", "_law_guards", "_law_resets", "_law_goal", "_law_reading", "_law_low", "_law_high"]) (by rfl)) (xi_tup (xe_var 11)) (fun x hx => ⟨_, _, by decide, fun _ _ _ _ _ => ⟨(xg_tup (xgs_cons (xg_name 15 nd) (xgs_cons (xg_name 16 nd) xgs_nil))), xts_nil, fun _ => (xe_var 16)⟩⟩) (lt_of_len (by omega))).cast (show _ = rL (((door m x.2).gs.map (·.2)).map TL.rI) by rw [List.map_map]; rfl)) xa_nil)) ⟨_, _, .inr rfl, b1, fun y hy => by obtain ⟨g, hg', rfl⟩ := List.mem_map.mp hy; have := hk.g g hg'; constructor <;> omega, by omega, rfl⟩) (by rw [List.length_map, List.length_map]; show _ ≤ 2 ^ 24; omega)) (by simp only [List.length_append, List.length_map]; show _ ≤ 2 ^ 24; omega))
      (xb_cons (xs_ext 0 (hk := rfl) (xe_var 7) ((xe_lc1 (qf := fun p : Int × (Int × Int) => rT [rF p.1, rT [TL.rI p.2.1, TL.rI p.2.2]]) (f := fun p : Int × (Int × Int) => rF (12 * p.2.1 - p.1)) (own := [("_law_reading", 14), ("_law_low", 15), ("_law_high", 16)]) nd (blkOk_by (N := ["_law_told", "_law_run", "_law_clocks", "_law_limits", "_law_doors", "_law_room", "_law_readings", "_law_misses", "_law_wait", "_law_index", "_law_here", "_law_guards", "_law_resets", "_law_goal", "_law_reading", "_law_low", "_law_high"]) (by rfl)) ((xi_zipM T.f_zip (xe_var 6) (xe_var 11)).cast (zipP_map _ _)) (fun p hp => ⟨_, _, by decide, fun _ _ _ _ _ => ⟨(xg_tup (xgs_cons (xg_name 14 nd) (xgs_cons (xg_tup (xgs_cons (xg_name 15 nd) (xgs_cons (xg_name 16 nd) xgs_nil))) xgs_nil))), xts_nil, fun _ => (xe_call (ok_L_fr_less T) hr (xa_cons ((xe_tup (xa_cons (xe_var 15) (xa_cons xe_int xa_nil))).cast (rF12 _)) (xa_cons (xe_var 14) xa_nil)) ⟨12 * p.2.1, p.1, rfl, by have := hk.g _ (zip_b hp).2; constructor <;> omega, b1 _ (zip_b hp).1, rfl⟩)⟩⟩) (lt_of_len (by rw [List.length_zip]; omega))).cast (show _ = rL ((lwU (grownK (stf m run i).2 x.1) (door m x.2).gs).map rF) by unfold lwU; rw [List.map_map]; rfl)) (by simp only [List.length_append, List.length_map]; show _ ≤ 2 ^ 24; omega))
      (xb_cons (xs_par 6 5 nd (xa_cons (xe_call (ok_L_ru_put T) hr (xa_cons (xe_var 6) (xa_cons (xe_var 12) xa_nil)) ⟨_, _, rfl, by omega, rfl⟩) (xa_cons (xe_var 13) xa_nil)))
      (xb_cons (xs_ext 0 (hk := rfl) (xe_var 7) (xe_call (ok_L_ru_over T) hr (xa_cons (xe_var 6) (xa_cons (xe_ixT (xe_var 3) (xe_var 5) hlim2) xa_nil)) ⟨(stp m (stf m run i) x).2, lim m (door m x.2).goal, .inl rfl, b2, lim_b hm hs2.r1, by omega, rfl⟩) (by simp only [List.length_append, List.length_map]; show _ ≤ 2 ^ 24; omega))
      (xb_nil fun σ H' E => ⟨(), trivial, by
        show TL.Env B1 M [] [none, none, none, some (rLims m.lims), some (rDoors m.doors), some (TL.rI (stf m run (i + 1)).1), some (rRl (stf m run (i + 1)).2), some (rA a), none, none, none, none, none, none, none, none, none] [(a, (missT m run (i + 1)).map rF)] σ H'
        have hmt : (missT m run (i + 1)).map rF = (((missT m run i).map rF ++ ((ovU (grownK (stf m run i).2 x.1) (lim m (stf m run i).1)).map rF ++ (ovU (grownK (stf m run i).2 x.1) ((door m x.2).gs.map (·.2))).map rF)) ++ (lwU (grownK (stf m run i).2 x.1) (door m x.2).gs).map rF) ++ (ovU (stp m (stf m run i) x).2 (lim m (door m x.2).goal)).map rF := by
          unfold missT
          rw [fm_take (zi_get hx), List.map_append]
          unfold missU
          simp only [List.map_append, List.append_assoc]
          rfl
        rw [hmt, e]
        exact E.sub ⟨rfl, rfl, rfl, rfl, rfl, trivial⟩⟩)))))))⟩
  · rw [List.length_map, missT_all] at E
    exact (Env.frz (Ms := []) (i := 7) E rfl).sub ⟨rfl, rfl, rfl, trivial⟩
def S_L_ru_long (rs : List Vp) (r : Vp) : Prop := ∃ m st, rs = [rTold m, rStay st] ∧ MachOk m ∧ StayOk m st ∧ r = rF (lneed m st)
theorem ok_L_ru_long (T : Txt mg) : Fn P w mg base "_law_ru_long" 5 (spF S_L_ru_long) := by
  obtain ⟨fd, F⟩ := T.fd_L_ru_long
  have nd : (["_law_told", "_law_stay", "_law_needed", "_law_room", "_law_readings"] : List Str).Nodup := by decide +kernel
  refine fn_ok (N := ["_law_told", "_law_stay", "_law_needed", "_law_room", "_law_readings"]) (ps := ["_law_told", "_law_stay"]) F T.g_L_ru_long (fun _ _ _ _ _ _ us hl => match us, hl with | [_, _], _ => rfl) ⟨rfl, rfl, rfl, nd, rfl, by decide +kernel, by decide +kernel⟩ (by decide)
    (by intro rs r hS; obtain ⟨m, st, rfl, hm, hst, rfl⟩ := hS <;> rfl) fun cdv A outer s H E M rs r hr hS => ?_
  have hB := Ex.refl H
  obtain ⟨m, st, rfl, hm, hst, rfl⟩ := hS
  have hs := stf_ok hm hst.r st.1.length (Nat.le_refl _)
  have hlen := hst.r.len
  have c3 := hm.c3
  have hl := hs.l
  have hg := grownK_b hs.b hst.w0
  have w1 := hst.w1
  have hn := wneed_b hm hst.r
  have hlim : atI (m.lims.map rLim) (stf m st.1 st.1.length).1 = some (rLim (lim m (stf m st.1 st.1.length).1)) := atI_int hs.r0 (map_at' (lim_get hs.r1))
  have ho := ovU_b hg (lim_b hm hs.r1)
  have hol : (ovU (grownK (stf m st.1 st.1.length).2 st.2) (lim m (stf m st.1 st.1.length).1)).length ≤ 3 := by simp only [ovU, List.length_map, List.length_zip, grownK_len]; omega
  exact (xb_cons (xs_asg (xe_call (ok_L_ru_walked T) hr (xa_cons (xe_var 0) (xa_cons (xe_ixT (xe_var 1) xe_int) xa_nil)) ⟨m, st.1, rfl, hm, hst.r, rfl⟩) (xg_tup (xgs_cons (xg_name 2 nd) (xgs_cons (xg_name 3 nd) (xgs_cons (xg_name 4 nd) xgs_nil)))))
  (xb_cons (xs_retR (xe_call (ok_L_fr_most T) hr (xa_cons ((xe_catL (xe_lst (xa_cons (xe_var 2) xa_nil)) (xe_call (ok_L_ru_over T) hr (xa_cons (xe_call (ok_L_ru_waited T) hr (xa_cons (xe_var 4) (xa_cons (xe_ixT (xe_var 1) xe_int) xa_nil)) ⟨_, st.2, .inr rfl, bks hs.b (by omega), bk_of ⟨hst.w0, hst.w1⟩ (by decide), by omega, rfl⟩) (xa_cons (xe_ixT (xe_ixT (xe_var 0) xe_int) (xe_var 3) hlim) xa_nil)) ⟨_, _, .inl rfl, bks hg (by omega), lim_b hm hs.r1, by rw [grownK_len]; omega, rfl⟩) (by rw [List.length_map]; show 1 + _ ≤ 2 ^ 24; omega)).cast (show _ = rRl (wneed m st.1 :: ovU (grownK (stf m st.1 st.1.length).2 st.2) (lim m (stf m st.1 st.1.length).1)) from rfl)) xa_nil) ⟨_, rfl, fun k hk => by
      rcases List.mem_cons.mp hk with rfl | hk
      · exact bk_of hn (by decide)
      · have := ho k hk
        constructor <;> omega, rfl⟩) hB) xb_dead))
/-! ### is it a wait -/
def SmallD : D → Prop
  | .tup [.int a, .int b] => -1000000000 < a ∧ a < 1000000000 ∧ -1000000000 < b ∧ b < 1000000000
  | _ => True
def S_L_is_wait (rs : List Vp) (r : Vp) : Prop := ∃ d, rs = [rD d] ∧ SmallD d ∧ r = rB (isMar d)
theorem isMar_t {d : D} (h : isMar d = true) : ∃ a b, d = .tup [.int a, .int b] := by
  unfold isMar at h
  split at h
  · exact ⟨_, _, rfl⟩
  · cases h
def ones (n : Nat) : List Vp := List.replicate n (TL.rI 1)
theorem xt_neOnes {X : Cx} {G : En} {a : Expr} {p1 pos : Pos} {k n : Nat} (hr : Room k X.A) (hn : n = 1 ∨ n = 2) (ha : XE X a G (rL (ones n))) (hK : X.K = KK.K := by rfl) : XT X (.Compare a [.NotEq] [.List [] p1] pos) G true := by
  rcases hn with rfl | rfl
  · exact (xt_neD (p := rL [TL.rI 1]) hr ha (xe_lst xa_nil) (by decide +kernel) rfl hK).cast (by decide +kernel)
  · exact (xt_neD (p := rL [TL.rI 1, TL.rI 1]) hr ha (xe_lst xa_nil) (by decide +kernel) rfl hK).cast (by decide +kernel)
def notInt (x : D) : Bool := !isInt x
theorem notIntE (x : D) : ∃ i b, Kd (rD x) i b ∧ (b || !i) = notInt x := by
  obtain ⟨i, b, h, e⟩ := kd_D x
  exact ⟨i, b, h, by unfold notInt; rw [← e]; cases i <;> cases b <;> rfl⟩
theorem isInt_t {d : D} (h : isInt d = true) : ∃ a, d = .int a := by
  cases d <;> first | exact ⟨_, rfl⟩ | cases h
theorem eqv2 (a b c d : Int) : PyData.eqv (.tuple [.int a, .int b]) (.tuple [.int c, .int d]) = (decide (a = c) && decide (b = d)) := by
  simp only [PyData.eqv, PyData.eqvAll, Bool.and_true]
  by_cases h1 : a = c <;> by_cases h2 : b = d <;> simp [h1, h2]
theorem gcd1 {a b : Int} (hb : 0 < b) : (decide (a / (Int.gcd a b : Nat) = a) && decide (b / (Int.gcd a b : Nat) = b)) = decide (Int.gcd a b = 1) := by
  by_cases h : Int.gcd a b = 1
  · rw [h]; simp
  · rw [decide_eq_false h]
    have hg : 0 < Int.gcd a b := Int.gcd_pos_of_ne_zero_right _ (by omega)
    have e2 : b / (Int.gcd a b : Nat) * (Int.gcd a b : Nat) = b := Int.ediv_mul_cancel (Int.gcd_dvd_right ..)
    have : b / (Int.gcd a b : Nat) ≠ b := fun z => by
      rw [z] at e2
      have e3 : b * (Int.gcd a b : Nat) = b * 1 := by omega
      have := Int.eq_of_mul_eq_mul_left (by omega : b ≠ 0) e3
      omega
    rw [decide_eq_false this, Bool.and_false]
theorem ok_L_is_wait (T : Txt mg) : Fn P w mg base "_law_is_wait" 2 (spF S_L_is_wait) := by
  obtain ⟨fd, F⟩ := T.fd_L_is_wait
  have nd : (["_law_value", "_law_one"] : List Str).Nodup := by decide +kernel
  refine fn_ok (N := ["_law_value", "_law_one"]) (ps := ["_law_value"]) F T.g_L_is_wait (fun _ _ _ _ _ _ us hl => match us, hl with | [_], _ => rfl) ⟨rfl, rfl, rfl, nd, rfl, by decide +kernel, by decide +kernel⟩ (by decide)
    (by intro rs r hS; obtain ⟨d, rfl, hsm, rfl⟩ := hS <;> rfl) fun cdv A outer s H E M rs r hr hS => ?_
  have hB := Ex.refl H
  obtain ⟨d, rfl, hsm, rfl⟩ := hS
  rcases tup_or d with ⟨ds, rfl⟩ | ⟨hk, hn⟩
  · rcases two_or ds with ⟨x, y, rfl⟩ | ⟨h2, h3⟩
    · refine xb_ifF (XW.t (xw_orF (xt_yt T ((xe_var 0).cast (rD_tup _))) (xw_or1 ((xt_ne (xe_len T.f_len ((xe_var 0).cast (rD_tup _))) xe_int).cast rfl)))) ?_
      have lc : ∀ {X : Cx} {p : Vp → Prop}, True := fun {_ _} => trivial
      cases hx : isInt x && isInt y with
      | false =>
        have e : isMar (.tup [x, y]) = false := by
          cases h : isMar (.tup [x, y]) with
          | false => rfl
          | true =>
            obtain ⟨a, b, q⟩ := isMar_t h
            simp only [D.tup.injEq, List.cons.injEq, and_true] at q
            obtain ⟨rfl, rfl⟩ := q
            cases hx
        rw [e]
        have hn : ([x, y].filter notInt).length = 1 ∨ ([x, y].filter notInt).length = 2 := by
          unfold notInt
          cases h1 : isInt x <;> cases h2 : isInt y <;> simp_all
        exact xb_ifT (xt_neOnes hr hn ((xe_lc (b := notInt) (f := fun _ => TL.rI 1) (own := [("_law_one", 1)]) nd (blkOk_by (N := ["_law_value", "_law_one"]) (by rfl)) (xi_tup ((xe_var 0).cast (rD_tup _))) (fun z hz => by
          obtain ⟨i, b, ⟨t, ht, k1, k2⟩, e⟩ := notIntE z
          rw [← e]
          exact ⟨_, _, by decide, fun _ _ _ _ _ => ⟨(xg_name 1 nd), xts_one (XW.t (xw_or (xt_val (xe_isi T.f_isinstance (xe_var 1) (xe_ty T.f_bool boot_bool) k2)) fun _ => (xw_or1 (xt_not (xt_val (xe_isi T.f_isinstance (xe_var 1) (xe_ty T.f_int boot_int) k1)))))), fun _ => xe_int⟩⟩) (by show 2 < 2 ^ 24; omega)).cast (show _ = rL (ones _) by unfold ones; rw [List.map_const'])))
          (xb_cons (xs_retR xe_bl hB) xb_dead)
      | true =>
        obtain ⟨h1, h2⟩ := He.ba hx
        obtain ⟨a, rfl⟩ := isInt_t h1
        obtain ⟨b, rfl⟩ := isInt_t h2
        obtain ⟨s1, s2, s3, s4⟩ : -1000000000 < a ∧ a < 1000000000 ∧ -1000000000 < b ∧ b < 1000000000 := hsm
        have sh : ∀ c : Int, -1000000000 < c → c < 1000000000 → isShort (.int c) = true := fun c k1 k2 => by
          have : (1000000000 : Int) ≤ G60 := by decide
          show (decide _ && decide _) = true
          rw [decide_eq_true (by omega), decide_eq_true (by omega)]
          rfl
        have e : isMar (.tup [.int a, .int b]) = (decide (0 ≤ a) && (decide (0 < b) && decide (Int.gcd a b = 1))) := by
          show ((isShort (.int a) && (isShort (.int b) && _)) && _) = _
          rw [sh a s1 s2, sh b s3 s4, Bool.true_and, Bool.true_and, Bool.and_comm]
        rw [e]
        exact xb_ifF (xt_neNil hr ((xe_lc (b := notInt) (f := fun _ => TL.rI 1) (own := [("_law_one", 1)]) nd (blkOk_by (N := ["_law_value", "_law_one"]) (by rfl)) (xi_tup ((xe_var 0).cast (rD_tup _))) (fun z hz => by
          obtain ⟨i, b, ⟨t, ht, k1, k2⟩, e⟩ := notIntE z
          rw [← e]
          exact ⟨_, _, by decide, fun _ _ _ _ _ => ⟨(xg_name 1 nd), xts_one (XW.t (xw_or (xt_val (xe_isi T.f_isinstance (xe_var 1) (xe_ty T.f_bool boot_bool) k2)) fun _ => (xw_or1 (xt_not (xt_val (xe_isi T.f_isinstance (xe_var 1) (xe_ty T.f_int boot_int) k1)))))), fun _ => xe_int⟩⟩) (by show 2 < 2 ^ 24; omega)).cast rfl))
          (xb_cons (xs_retR (xe_and (xe_ge ((xe_ixT ((xe_var 0).cast (rD_tup _)) xe_int).cast (rD_int a)) xe_int) fun _ => ((xe_and (xe_gt ((xe_ixT ((xe_var 0).cast (rD_tup _)) xe_int).cast (rD_int b)) xe_int) fun hb => (xe_one ((xe_eqD (p := rT [TL.rI (a / (Int.gcd a b : Nat)), TL.rI (b / (Int.gcd a b : Nat))]) (q := rT [TL.rI a, TL.rI b]) hr (xe_call (ok_L_fr_low T) hr (xa_cons ((xe_ixT ((xe_var 0).cast (rD_tup _)) xe_int).cast (rD_int a)) (xa_cons ((xe_ixT ((xe_var 0).cast (rD_tup _)) xe_int).cast (rD_int b)) xa_nil)) ⟨a, b, rfl, of_decide_eq_true hb, by omega, rfl⟩) ((xe_var 0).cast (show rD (.tup [.int a, .int b]) = rT [TL.rI a, TL.rI b] by rw [rD_tup]; show rT [rD (.int a), rD (.int b)] = _; rw [rD_int, rD_int])) rfl rfl).cast (by rw [eqv2, gcd1 (of_decide_eq_true hb)])))))) hB) xb_dead)
    · have e : isMar (.tup ds) = false := by
        cases h : isMar (.tup ds) with
        | false => rfl
        | true => obtain ⟨a, b, q⟩ := isMar_t h; cases q; exact absurd rfl (h3 _ _)
      rw [e]
      exact xb_ifT (XW.t (xw_orF (xt_yt T ((xe_var 0).cast (rD_tup _))) (xw_or1 ((xt_ne (xe_len T.f_len ((xe_var 0).cast (rD_tup _))) xe_int).cast (ne2 h2))))) (xb_cons (xs_retR xe_bl hB) xb_dead)
  · have e : isMar d = false := by
      cases h : isMar d with
      | false => rfl
      | true => obtain ⟨a, b, q⟩ := isMar_t h; exact absurd q (hn _)
    rw [e]
    exact xb_ifT (XW.t (xw_orT (xt_nt T (xe_var 0) hk))) (xb_cons (xs_retR xe_bl hB) xb_dead)
end
end M33
namespace M33
open PySem PySem.Spec PyProof.Rows L2 TL
def stepTo (m : Mach) (h : Int) : D → Option Int
  | .tup [w, .int i] => if isMar w = true ∧ 0 ≤ i ∧ i < m.doors.length ∧ (door m i).room = h then some (door m i).goal else none
  | _ => none
def dueS (m : Mach) : Int → List D → Bool
  | _, [] => true
  | h, s :: ss => match stepTo m h s with
    | some g => dueS m g ss
    | none => false
def isDue (m : Mach) : D → Bool
  | .tup [.tup ds, w] => isMar w && dueS m 0 ds
  | _ => false
def GoodS : D → Prop := fun s => ∀ w i, s = .tup [w, i] → SmallD w ∧ ((∃ b, i = .bl b) ∨ ∃ k, i = .int k)
def GoodD (d : D) : Prop := ∀ r w, d = .tup [r, w] → SmallD w ∧ ∀ ds, r = .tup ds → ∀ s ∈ ds, GoodS s
section
variable [KK] {P : Program} {w : World} {mg : Str → Option Value} {base : Heap}
theorem kit_bool : L2.kitB "bool" "bool" = some true ∧ L2.kitB "int" "bool" = some false := by decide +kernel
def S_L_is_due (rs : List Vp) (r : Vp) : Prop := ∃ m d, rs = [rTold m, rD d] ∧ GoodD d ∧ r = rB (isDue m d)
theorem ok_L_is_due (T : Txt mg) : Fn P w mg base "_law_is_due" 3 (spF S_L_is_due) := by
  obtain ⟨fd, F⟩ := T.fd_L_is_due
  have nd : (["_law_told", "_law_value", "_law_room", "_law_step"] : List Str).Nodup := by decide +kernel
  refine fn_ok (N := ["_law_told", "_law_value", "_law_room", "_law_step"]) (ps := ["_law_told", "_law_value"]) F T.g_L_is_due (fun _ _ _ _ _ _ us hl => match us, hl with | [_, _], _ => rfl) ⟨rfl, rfl, rfl, nd, rfl, by decide +kernel, by decide +kernel⟩ (by decide)
    (by intro rs r hS; obtain ⟨m, d, rfl, hgd, rfl⟩ := hS <;> rfl) fun cdv A outer s H E M rs r hr hS => ?_
  have hB := Ex.refl H
  obtain ⟨m, d, rfl, hgd, rfl⟩ := hS
  rcases tup_or d with ⟨ds, rfl⟩ | ⟨hk, hn⟩
  · rcases two_or ds with ⟨x, y, rfl⟩ | ⟨h2, h3⟩
    · obtain ⟨hsy, hgx⟩ := hgd x y rfl
      rcases tup_or x with ⟨ss, rfl⟩ | ⟨hkx, hnx⟩
      · have hgs := hgx ss rfl
        cases hw : isMar y with
        | false =>
          rw [show isDue m (.tup [.tup ss, y]) = false by show (isMar y && dueS m 0 ss) = false; rw [hw]; rfl]
          exact xb_ifT (XW.t (xw_orF (xt_yt T ((xe_var 1).cast (rD_tup _))) (xw_orF ((xt_ne (xe_len T.f_len ((xe_var 1).cast (rD_tup _))) xe_int).cast rfl) (xw_orF (xt_yt T ((xe_ixT ((xe_var 1).cast (rD_tup _)) xe_int).cast (rD_tup ss))) (xw_or1 ((xt_not (xt_val (xe_call (ok_L_is_wait T) hr (xa_cons (xe_ixT ((xe_var 1).cast (rD_tup _)) xe_int) xa_nil) ⟨y, rfl, hsy, rfl⟩))).cast (by rw [hw]; rfl))))))) (xb_cons (xs_retR xe_bl hB) xb_dead)
        | true =>
          rw [show isDue m (.tup [.tup ss, y]) = dueS m 0 ss by show (isMar y && dueS m 0 ss) = _; rw [hw]; rfl]
          refine xb_ifF (XW.t (xw_orF (xt_yt T ((xe_var 1).cast (rD_tup _))) (xw_orF ((xt_ne (xe_len T.f_len ((xe_var 1).cast (rD_tup _))) xe_int).cast rfl) (xw_orF (xt_yt T ((xe_ixT ((xe_var 1).cast (rD_tup _)) xe_int).cast (rD_tup ss))) (xw_or1 ((xt_not (xt_val (xe_call (ok_L_is_wait T) hr (xa_cons (xe_ixT ((xe_var 1).cast (rD_tup _)) xe_int) xa_nil) ⟨y, rfl, hsy, rfl⟩))).cast (by rw [hw]; rfl))))))) 
            (xb_cons (xs_set 2 nd xe_int)
            (xb_cons (Mid := fun σ H' => dueS m 0 ss = true ∧ TL.Env H M [] [none, none, none, none] [] σ H') (xs_for (fun i a => dueS m 0 ss = dueS m a (ss.drop i)) (fun i a => [some (rTold m), none, some (TL.rI a), none]) (fun _ _ => []) (xi_tup ((xe_ixT ((xe_var 1).cast (rD_tup _)) xe_int).cast (rD_tup ss))) 0 rfl ⟨rfl, rfl, trivial⟩ rfl (fun B1 i p a hB1 hp hI => ?_) ?_)
            (xb_and fun hf => (hf ▸ xb_cons (xs_retR xe_bl hB) xb_dead))))
          · obtain ⟨s', hx, rfl⟩ := map_at hp
            have hgs' := hgs s' (mem_at hx)
            have hd : ss.drop i = s' :: ss.drop (i + 1) := by
              obtain ⟨hl, e⟩ := List.getElem?_eq_some_iff.mp hx
              rw [List.drop_eq_getElem_cons hl, e]
            rw [hd] at hI
            have hfalse : stepTo m a s' = none → dueS m 0 ss = false := fun h => by rw [hI, dueS, h]
            refine ⟨_, _, (xg_name 3 nd), ?_⟩
            rcases tup_or s' with ⟨es, rfl⟩ | ⟨hk, hn⟩
            · rcases two_or es with ⟨u, v, rfl⟩ | ⟨h2, h3⟩
              · obtain ⟨hsu, hv⟩ := hgs' u v rfl
                cases hwu : isMar u with
                | false =>
                  rw [hfalse (by unfold stepTo; split <;> first | rfl | (rename_i h; simp only [D.tup.injEq, List.cons.injEq, and_true] at h; obtain ⟨rfl, rfl⟩ := h; rw [if_neg (by rw [hwu]; simp)]))]
                  exact xb_ifT (XW.t (xw_orF (xt_yt T ((xe_var 3).cast (rD_tup _))) (xw_orF ((xt_ne (xe_len T.f_len ((xe_var 3).cast (rD_tup _))) xe_int).cast rfl) (xw_or (k := true) (l := false) ((xt_not (xt_val (xe_call (ok_L_is_wait T) hr (xa_cons (xe_ixT ((xe_var 3).cast (rD_tup _)) xe_int) xa_nil) ⟨u, rfl, hsu, rfl⟩))).cast (by rw [hwu]; rfl)) (fun h => nomatch h))))) (xb_cons (xs_retR xe_bl hB1) xb_dead)
                | true =>
                  rcases hv with ⟨b, rfl⟩ | ⟨k, rfl⟩
                  · rw [hfalse rfl]
                    exact xb_ifT (XW.t (xw_orF (xt_yt T ((xe_var 3).cast (rD_tup _))) (xw_orF ((xt_ne (xe_len T.f_len ((xe_var 3).cast (rD_tup _))) xe_int).cast rfl) (xw_orF ((xt_not (xt_val (xe_call (ok_L_is_wait T) hr (xa_cons (xe_ixT ((xe_var 3).cast (rD_tup _)) xe_int) xa_nil) ⟨u, rfl, hsu, rfl⟩))).cast (by rw [hwu]; rfl)) (xw_or1 (xt_val (xe_isi T.f_isinstance ((xe_ixT ((xe_var 3).cast (rD_tup _)) xe_int).cast (rD_bl b)) (xe_ty T.f_bool boot_bool) kit_bool.1)))))))
                      (xb_cons (xs_retR xe_bl hB1) xb_dead)
                  · refine xb_ifF (XW.t (xw_orF (xt_yt T ((xe_var 3).cast (rD_tup _))) (xw_orF ((xt_ne (xe_len T.f_len ((xe_var 3).cast (rD_tup _))) xe_int).cast rfl) (xw_orF ((xt_not (xt_val (xe_call (ok_L_is_wait T) hr (xa_cons (xe_ixT ((xe_var 3).cast (rD_tup _)) xe_int) xa_nil) ⟨u, rfl, hsu, rfl⟩))).cast (by rw [hwu]; rfl)) (xw_or1 (xt_val (xe_isi T.f_isinstance ((xe_ixT ((xe_var 3).cast (rD_tup _)) xe_int).cast (rD_int k)) (xe_ty T.f_bool boot_bool) kit_bool.2))))))) ?_
                    by_cases hin : 0 ≤ k ∧ k < m.doors.length
                    · have hat : atI (m.doors.map rDoor) k = some (rDoor (door m k)) := atI_int hin.1 (map_at' (door_get (by omega)))
                      refine xb_ifM (k := !decide ((door m k).room = a)) (XW.t (xw_orF ((xt_notInR ((xe_ixT ((xe_var 3).cast (rD_tup _)) xe_int).cast (rD_int k)) (xe_range1 T.f_range (xe_len T.f_len (xe_ixT (xe_var 0) xe_int)))).cast (by rw [List.length_map]; simp [hin.1, hin.2])) (xw_or1 (xt_ne (xe_ixT (xe_ixT (xe_ixT (xe_var 0) xe_int) ((xe_ixT ((xe_var 3).cast (rD_tup _)) xe_int).cast (rD_int k)) hat) xe_int) (xe_var 2))))) (fun hc => ?_) (fun hc => ?_)
                      · have hne : (door m k).room ≠ a := fun z => by rw [decide_eq_true z] at hc; cases hc
                        rw [hfalse (by show (if _ then _ else _) = _; rw [if_neg fun z => hne z.2.2.2])]
                        exact (xb_cons (xs_retR xe_bl hB1) xb_dead)
                      · have heq : (door m k).room = a := by
                          by_cases z : (door m k).room = a
                          · exact z
                          · rw [decide_eq_false z] at hc; cases hc
                        have hst : stepTo m a (.tup [u, .int k]) = some (door m k).goal := by show (if _ then _ else _) = _; rw [if_pos ⟨hwu, hin.1, hin.2, heq⟩]
                        exact (xb_cons (xs_set 2 nd (xe_ixT (xe_ixT (xe_ixT (xe_var 0) xe_int) ((xe_ixT ((xe_var 3).cast (rD_tup _)) xe_int).cast (rD_int k)) hat) xe_int))
                          (xb_nil fun σ H E => ⟨(door m k).goal, (by show _ = dueS m (door m k).goal _; rw [hI, dueS, hst]), E.sub ⟨rfl, rfl, trivial⟩⟩))
                    · rw [hfalse (by show (if _ then _ else _) = _; rw [if_neg fun z => hin ⟨z.2.1, z.2.2.1⟩])]
                      exact xb_ifT (XW.t (xw_orT ((xt_notInR ((xe_ixT ((xe_var 3).cast (rD_tup _)) xe_int).cast (rD_int k)) (xe_range1 T.f_range (xe_len T.f_len (xe_ixT (xe_var 0) xe_int)))).cast (by rw [List.length_map, decide_eq_false hin]; rfl)))) (xb_cons (xs_retR xe_bl hB1) xb_dead)
              · rw [hfalse (by unfold stepTo; split <;> first | rfl | (rename_i h; cases h; exact absurd rfl (h3 _ _)))]
                exact xb_ifT (XW.t (xw_orF (xt_yt T ((xe_var 3).cast (rD_tup _))) (xw_orT ((xt_ne (xe_len T.f_len ((xe_var 3).cast (rD_tup _))) xe_int).cast (ne2 h2))))) (xb_cons (xs_retR xe_bl hB1) xb_dead)
            · rw [hfalse (by unfold stepTo; split <;> first | rfl | exact absurd rfl (hn _))]
              exact xb_ifT (XW.t (xw_orT (xt_nt T (xe_var 3) hk))) (xb_cons (xs_retR xe_bl hB1) xb_dead)
          · intro a hI σ H' E
            refine ⟨?_, E.sub trivial⟩
            rw [hI, List.length_map, List.drop_length]
            rfl
      · rw [show isDue m (.tup [x, y]) = false by
          unfold isDue
          split
          · rename_i h; simp only [D.tup.injEq, List.cons.injEq, and_true] at h; exact absurd h.1 (hnx _)
          · rfl]
        exact xb_ifT (XW.t (xw_orF (xt_yt T ((xe_var 1).cast (rD_tup _))) (xw_orF ((xt_ne (xe_len T.f_len ((xe_var 1).cast (rD_tup _))) xe_int).cast rfl) (xw_orT (xt_nt T (xe_ixT ((xe_var 1).cast (rD_tup _)) xe_int) hkx))))) (xb_cons (xs_retR xe_bl hB) xb_dead)
    · rw [show isDue m (.tup ds) = false by
        unfold isDue
        split
        · rename_i h; cases h; exact absurd rfl (h3 _ _)
        · rfl]
      exact xb_ifT (XW.t (xw_orF (xt_yt T ((xe_var 1).cast (rD_tup _))) (xw_orT ((xt_ne (xe_len T.f_len ((xe_var 1).cast (rD_tup _))) xe_int).cast (ne2 h2))))) (xb_cons (xs_retR xe_bl hB) xb_dead)
  · rw [show isDue m d = false by
      unfold isDue
      split
      · exact absurd rfl (hn _)
      · rfl]
    exact xb_ifT (XW.t (xw_orT (xt_nt T (xe_var 1) hk))) (xb_cons (xs_retR xe_bl hB) xb_dead)
/-! ### what is near a stay -/
section
variable {X : Cx} {G : En} {e a b : Expr} {es : List Expr} {pos : Pos} {d : D} {ds qs : List D}
theorem xd_int' {i j} : XE X (.Constant (.int i) j pos) G (rD (.int i)) := xe_int.cast (rD_int _).symm
theorem xaD_nil : XA X [] G (([] : List D).map rD) := xa_nil
theorem xaD (ha : XE X e G (rD d)) (hr : XA X es G (ds.map rD)) (hs : starEach (e :: es) X.env = (false, eval e X.env) :: starEach es X.env := by rfl) : XA X (e :: es) G ((d :: ds).map rD) := xa_cons ha hr hs
theorem xeT {x1} (h : XA X es G (ds.map rD)) (hl : ds.length ≤ 1000 := by exact Nat.le_of_ble_eq_true rfl) : XE X (.Tuple es x1 pos) G (rD (.tup ds)) := (xe_tup h (by rw [List.length_map]; show _ ≤ 2 ^ 24; omega)).cast (rD_tup ds).symm
theorem xeL (h : XA X es G (ds.map rD)) (hl : ds.length ≤ 1000 := by exact Nat.le_of_ble_eq_true rfl) : XE X (.List es pos) G (rL (ds.map rD)) := xe_lst h (by rw [List.length_map]; show _ ≤ 2 ^ 24; omega)
theorem xeCat (ha : XE X a G (rD (.tup ds))) (hb : XE X b G (rD (.tup qs))) (hl : ds.length + qs.length ≤ 1000) (hK : X.K = KK.K := by rfl) : XE X (.BinOp a .Add b pos) G (rD (.tup (ds ++ qs))) :=
  (xe_catT (ha.cast (rD_tup ds)) (hb.cast (rD_tup qs)) (by rw [List.length_map, List.length_map]; show _ ≤ 2 ^ 24; omega) hK).cast (by rw [rD_tup, List.map_append])
end
def nearD (st : List (Int × Int) × Int) : List D :=
  [dStay st, .lst [dRun st.1, dF st.2], .tup [dRun st.1], .tup ([dRun st.1, dF st.2] ++ [.int 0]), .tup [dRun st.1, .non], .tup [dRun st.1, .tup [.int (-1), .int 2]], .tup [dRun st.1, .tup [.int 2, .int 4]], .tup [.lst (st.1.map dStep), dF st.2], .tup [dF st.2, dRun st.1]]
  ++ [.non, .tup [], .tup [dRun st.1, .int 1], .tup [.tup [], dF st.2], .tup [.tup (st.1.map dStep ++ [.tup [dF st.2, .int 99]]), dF st.2], .tup [.tup (st.1.map dStep ++ [.tup [.tup [.int 1, .int 2]]]), dF st.2]]
  ++ [.tup [.tup (st.1.map dStep ++ [.tup [dF st.2, .bl true]]), dF st.2], .tup [.tup (st.1.map dStep ++ st.1.map dStep), dF st.2], .tup [.tup (st.1.map dStep).tail, dF st.2]]
def S_L_near (rs : List Vp) (r : Vp) : Prop := ∃ st : List (Int × Int) × Int, rs = [rStay st] ∧ st.1.length ≤ 100 ∧ r = rL ((nearD st).map rD)
theorem ok_L_near (T : Txt mg) : Fn P w mg base "_law_near" 1 (spF S_L_near) := by
  obtain ⟨fd, F⟩ := T.fd_L_near
  have nd : (["_law_stay", "_law_run", "_law_rest", "_law_found"] : List Str).Nodup := by decide +kernel
  refine fn_ok (N := ["_law_stay", "_law_run", "_law_rest", "_law_found"]) (ps := ["_law_stay"]) F T.g_L_near (fun _ _ _ _ _ _ us hl => match us, hl with | [_], _ => rfl) ⟨rfl, rfl, rfl, nd, rfl, by decide +kernel, by decide +kernel⟩ (by decide)
    (by intro rs r hS; obtain ⟨st, rfl, hl, rfl⟩ := hS <;> rfl) fun cdv A outer s H E M rs r hr hS => ?_
  have hB := Ex.refl H
  obtain ⟨st, rfl, hl, rfl⟩ := hS
  have e0 : rStay st = rD (dStay st) := rStay_D st
  have e1 : rRun st.1 = rD (dRun st.1) := rRun_D st.1
  have e2 : rF st.2 = rD (dF st.2) := rF_D st.2
  have hl1 : (st.1.map dStep).length ≤ 100 := by rw [List.length_map]; exact hl
  exact (xb_cons (xs_asg (xe_var 0) (xg_tup (xgs_cons (xg_name 1 nd) (xgs_cons (xg_name 2 nd) xgs_nil))))
  (xb_cons (xs_set 3 nd (xeL (xaD ((xe_var 0).cast e0) (xaD ((xe_list T.f_list (xe_var 0)).cast (show _ = rD (.lst [dRun st.1, dF st.2]) by rw [rD_lst, e1, e2]; rfl)) (xaD (xeT (xaD ((xe_var 1).cast e1) xaD_nil)) (xaD (xeCat ((xe_var 0).cast e0) (xeT (xaD xd_int' xaD_nil)) (Nat.le_of_ble_eq_true rfl)) (xaD (xeT (xaD ((xe_var 1).cast e1) (xaD (xe_non.cast rD_non.symm) xaD_nil))) (xaD (xeT (xaD ((xe_var 1).cast e1) (xaD (xeT (xaD ((xe_neg xe_int).cast (rD_int _).symm) (xaD xd_int' xaD_nil))) xaD_nil))) (xaD (xeT (xaD ((xe_var 1).cast e1) (xaD (xeT (xaD xd_int' (xaD xd_int' xaD_nil))) xaD_nil))) (xaD (xeT (xaD ((xe_list T.f_list (xe_var 1)).cast (show _ = rD (.lst (st.1.map dStep)) by rw [rD_lst, List.map_map]; congr 1)) (xaD ((xe_var 2).cast e2) xaD_nil))) (xaD (xeT (xaD ((xe_var 2).cast e2) (xaD ((xe_var 1).cast e1) xaD_nil))) xaD_nil)))))))))))
  (xb_cons (xs_set 3 nd (xe_catL (xe_var 3) (xeL (xaD (xe_non.cast rD_non.symm) (xaD (xeT xaD_nil) (xaD (xeT (xaD ((xe_var 1).cast e1) (xaD xd_int' xaD_nil))) (xaD (xeT (xaD (xeT xaD_nil) (xaD ((xe_var 2).cast e2) xaD_nil))) (xaD (xeT (xaD (xeCat ((xe_var 1).cast e1) (xeT (xaD (xeT (xaD ((xe_var 2).cast e2) (xaD xd_int' xaD_nil))) xaD_nil)) (by simp only [List.length_cons, List.length_nil]; omega)) (xaD ((xe_var 2).cast e2) xaD_nil))) (xaD (xeT (xaD (xeCat ((xe_var 1).cast e1) (xeT (xaD (xeT (xaD (xeT (xaD xd_int' (xaD xd_int' xaD_nil))) xaD_nil)) xaD_nil)) (by simp only [List.length_cons, List.length_nil]; omega)) (xaD ((xe_var 2).cast e2) xaD_nil))) xaD_nil))))))) (Nat.le_of_ble_eq_true rfl)))
  (xb_cons (xs_retR ((xe_catL (xe_var 3) (xeL (xaD (xeT (xaD (xeCat ((xe_var 1).cast e1) (xeT (xaD (xeT (xaD ((xe_var 2).cast e2) (xaD (xe_bl.cast (rD_bl _).symm) xaD_nil))) xaD_nil)) (by simp only [List.length_cons, List.length_nil]; omega)) (xaD ((xe_var 2).cast e2) xaD_nil))) (xaD (xeT (xaD (xeCat ((xe_var 1).cast e1) ((xe_var 1).cast e1) (by omega)) (xaD ((xe_var 2).cast e2) xaD_nil))) (xaD (xeT (xaD ((xe_slT (xe_var 1) (xo_some xe_int) xo_none).cast (show _ = rD (.tup (st.1.map dStep).tail) by rw [cut1, rD_tup, ← List.map_tail, List.map_map]; congr 1)) (xaD ((xe_var 2).cast e2) xaD_nil))) xaD_nil)))) (Nat.le_of_ble_eq_true rfl)).cast (by unfold nearD; rw [List.map_append, List.map_append])) hB) xb_dead))))
end
end M33
namespace M33
open PySem PySem.Spec PyProof.Rows L2 TL
section
variable [KK] {P : Program} {w : World} {mg : Str → Option Value} {base : Heap}
instance dtPr (p : Int × Int) : Dt (rPr p) (.tuple [.int p.1, .int p.2]) := inferInstanceAs (Dt (rT [TL.rI p.1, TL.rI p.2]) (.tuple [.int p.1, .int p.2]))
def gPr (p : Int × Int) : PyData := .tuple [.int p.1, .int p.2]
omit [TL.KK] in
theorem shaped_prs (l : List (Int × Int)) : SeqAt.shaped (.list (l.map gPr)) = true := by
  have h1 : ∀ l : List (Int × Int), PyData.canLayAll0 (l.map gPr) = true := by
    intro l
    induction l with
    | nil => rfl
    | cons p l ih => rw [List.map_cons, PyData.canLayAll0, ih]; rfl
  have h2 : ∀ l : List (Int × Int), PyData.depthAll (l.map gPr) ≤ 1 := by
    intro l
    induction l with
    | nil => decide
    | cons p l ih =>
      rw [List.map_cons, PyData.depthAll]
      have : (gPr p).depth ≤ 1 := by unfold gPr; simp [PyData.depth, PyData.depthAll]
      omega
  have := h2 l
  unfold SeqAt.shaped
  rw [show (PyData.list (l.map gPr)).canLay0 = PyData.canLayAll0 (l.map gPr) by simp [PyData.canLay0], h1 l, show (PyData.list (l.map gPr)).depth = PyData.depthAll (l.map gPr) + 1 by simp [PyData.depth], decide_eq_true (by omega)]
  rfl
omit [TL.KK] in
theorem eqv_prs (l : List (Int × Int)) : PyData.eqv (.list (l.map gPr)) (.list []) = l.isEmpty := by
  cases l with
  | nil => simp [PyData.eqv, PyData.eqvAll]
  | cons p l => simp [PyData.eqv, PyData.eqvAll]
theorem xt_eqPrs {X : Cx} {G : En} {a : Expr} {p1 pos : Pos} {k : Nat} {l : List (Int × Int)} (hr : Room k X.A) (ha : XE X a G (rL (l.map rPr))) (hK : X.K = KK.K := by rfl) : XT X (.Compare a [.Eq] [.List [] p1] pos) G l.isEmpty :=
  (xt_eqD (d := .list (l.map gPr)) (d' := .list []) (h1 := inferInstanceAs (Dt (rL (l.map rPr)) (.list (l.map fun p => .tuple [.int p.1, .int p.2])))) hr ha (xe_lst xa_nil) (shaped_prs l) rfl hK).cast (eqv_prs l)
omit [TL.KK] in
theorem emp_iff {sh : List (Int × Int)} {f : Int × Int → Int} {i : Int} : (sh.filter fun p => decide (f p = i)).isEmpty = !decide (i ∈ sh.map f) := by
  by_cases h : i ∈ sh.map f
  · obtain ⟨p, hp, e⟩ := List.mem_map.mp h
    rw [decide_eq_true h]
    have : p ∈ sh.filter fun p => decide (f p = i) := List.mem_filter.mpr ⟨hp, by simp [e]⟩
    cases hh : sh.filter fun p => decide (f p = i) with
    | nil => rw [hh] at this; cases this
    | cons _ _ => rfl
  · rw [decide_eq_false h]
    have : (sh.filter fun p => decide (f p = i)) = [] := List.filter_eq_nil_iff.mpr fun p hp => by
      simp
      intro e
      exact h (List.mem_map.mpr ⟨p, hp, e⟩)
    rw [this]
    rfl
def dAt (one other : Mach) (i : Int) (n : Nat) : List Door := (List.range n).map fun t : Nat =>
  ⟨(door one i).room * (other.lims.length : Int) + (t : Int), (door one i).gs ++ freeG other.cl, (door one i).rs, (door one i).goal * (other.lims.length : Int) + (t : Int)⟩
def dBt (one other : Mach) (i : Int) (n : Nat) : List Door := (List.range n).map fun h : Nat =>
  ⟨(h : Int) * (other.lims.length : Int) + (door other i).room, freeG one.cl ++ (door other i).gs, shiftK one.cl (door other i).rs, (h : Int) * (other.lims.length : Int) + (door other i).goal⟩
def S_L_ne_net (rs : List Vp) (r : Vp) : Prop := ∃ one other sh, rs = [rTold one, rTold other, rT (sh.map rPr)] ∧ NetIn one other sh ∧ r = rT [rTold (nMach one other sh), rL ((nSides one other sh).map rSide)]
theorem ok_L_ne_net (T : Txt mg) : Fn P w mg base "_law_ne_net" 1 (spF S_L_ne_net) := by
  obtain ⟨fd, F⟩ := T.fd_L_ne_net
  have nd : (["_law_one", "_law_other", "_law_shared", "_law_limits", "_law_doors", "_law_sides", "_law_many", "_law_wide", "_law_low", "_law_high", "_law_at", "_law_room", "_law_guards", "_law_resets", "_law_goal", "_law_place", "_law_later", "_law_first", "_law_last", "_law_pair", "_law_clock"] : List Str).Nodup := by decide +kernel
  refine fn_ok (N := ["_law_one", "_law_other", "_law_shared", "_law_limits", "_law_doors", "_law_sides", "_law_many", "_law_wide", "_law_low", "_law_high", "_law_at", "_law_room", "_law_guards", "_law_resets", "_law_goal", "_law_place", "_law_later", "_law_first", "_law_last", "_law_pair", "_law_clock"]) (ps := ["_law_one", "_law_other", "_law_shared"]) F T.g_L_ne_net (fun _ _ _ _ _ _ us hl => match us, hl with | [_, _, _], _ => rfl) ⟨rfl, rfl, rfl, nd, rfl, by decide +kernel, by decide +kernel⟩ (by decide)
    (by intro rs r hS; obtain ⟨one, other, sh, rfl, h, rfl⟩ := hS <;> rfl) fun cdv A outer s H E M rs r hr hS => ?_
  have hB := Ex.refl H
  obtain ⟨one, other, sh, rfl, h, rfl⟩ := hS
  have hd := h.d
  have l6 := h.h2.l6
  have l61 := h.h1.l6
  have d1 := h.h1.d12
  have d2 := h.h2.d12
  have c1 := h.h1.c3
  have c2 := h.h2.c3
  have hl := h.l
  have hsh : sh.length ≤ 12 := by omega
  have lA : ∀ n, n ≤ 12 → (dA one other sh n).length ≤ 72 := fun n hn => Nat.le_trans (dA_len n) (Nat.le_trans (Nat.mul_le_mul hn l6) (by decide))
  have lB : ∀ n, n ≤ 12 → (dB one other sh n).length ≤ 72 := fun n hn => Nat.le_trans (dB_len n) (Nat.le_trans (Nat.mul_le_mul hn l61) (by decide))
  have e1 : (one.lims.map rLim).length = one.lims.length := List.length_map ..
  have e2 : (other.lims.map rLim).length = other.lims.length := List.length_map ..
  have aA := lA _ d1
  have aB := lB _ d2
  refine (xb_cons (xs_par3_mmm 3 4 5 nd) (xb_ex fun la => xb_ex fun da => xb_ex fun sa => ?_))
  refine (xb_cons (xs_asg (xe_tup (xa_cons ((xe_len T.f_len (xe_ixT (xe_var 1) xe_int)).cast (by rw [e2])) (xa_cons (xe_ixT (xe_var 0) xe_int) xa_nil))) (xg_tup (xgs_cons (xg_name 6 nd) (xgs_cons (xg_name 7 nd) xgs_nil)))) ?_)
  let GG : En := [some (rTold one), some (rTold other), some (rT (sh.map rPr)), some (rA la), some (rA da), some (rA sa), some (TL.rI (other.lims.length : Int)), some (TL.rI (one.cl : Int)), none, none, none, none, none, none, none, none, none, none, none, none, none]
  let MM : List Vp → List Vp → List Vp → MS := fun a b c => [(la, a), (da, b), (sa, c)]
  refine (xb_cons (Mid := TL.Env H M [] GG (MM ((nLims one other).map rLim) [] []))
    (xs_for (fun i (_ : Unit) => True) (fun i _ => GG) (fun i _ => MM (((one.lims.take i).flatMap fun h => other.lims.map fun t => h ++ t).map rLim) [] []) (xi_tup (xe_ixT (xe_var 0) xe_int)) () trivial ⟨rfl, rfl, rfl, rfl, rfl, rfl, rfl, rfl, trivial⟩ rfl (fun B1 i p _ hB1 hp _ => ?_) (fun _ _ σ H' E => ?_)) ?_)
  · obtain ⟨x, hx, rfl⟩ := map_at hp
    have hi : i < one.lims.length := (List.getElem?_eq_some_iff.mp hx).1
    have hxl := h.h1.ll x (mem_at hx)
    have hlen : ((one.lims.take i).flatMap fun h => other.lims.map fun t => h ++ t).length ≤ 6 * 6 := by
      rw [fm_len (fun h t => h ++ t)]
      exact Nat.mul_le_mul (by rw [List.length_take]; omega) l6
    exact ⟨_, _, (xg_name 8 nd),
      (xb_cons (xs_ext 0 (hk := rfl) (xe_var 3) (xe_lc1 (f := fun t => rLim (x ++ t)) (own := [("_law_high", 9)]) nd (blkOk_by (N := ["_law_one", "_law_other", "_law_shared", "_law_limits", "_law_doors", "_law_sides", "_law_many", "_law_wide", "_law_low", "_law_high", "_law_at", "_law_room", "_law_guards", "_law_resets", "_law_goal", "_law_place", "_law_later", "_law_first", "_law_last", "_law_pair", "_law_clock"]) (by rfl)) (xi_tup (xe_ixT (xe_var 1) xe_int)) (fun t ht => ⟨_, _, by decide, fun _ _ _ _ _ => ⟨(xg_name 9 nd), xts_nil, fun _ => (xe_catT (xe_var 8) (xe_var 9) (by rw [List.length_map, List.length_map, hxl, h.h2.ll t ht]; show _ ≤ 2 ^ 24; omega)).cast (show _ = rLim (x ++ t) by unfold rLim; rw [List.map_append])⟩⟩) (lt_of_len (by omega))) (by rw [List.length_map, List.length_map]; show _ ≤ 2 ^ 24; omega))
      (xb_nil fun σ H' E => ⟨(), trivial, by
        show TL.Env B1 M [] GG (MM (((one.lims.take (i + 1)).flatMap fun h => other.lims.map fun t => h ++ t).map rLim) [] []) σ H'
        rw [fm_take hx, List.map_append, List.map_map]
        exact E.sub ⟨rfl, rfl, rfl, rfl, rfl, rfl, rfl, rfl, trivial⟩⟩))⟩
  · rw [List.length_map, List.take_length] at E
    exact E
  refine (xb_cons (Mid := TL.Env H M [] GG (MM ((nLims one other).map rLim) ((dA one other sh one.doors.length).map rDoor) ((sA one other sh one.doors.length).map rSide)))
    (xs_for (fun i (_ : Unit) => True) (fun i _ => GG) (fun i _ => MM ((nLims one other).map rLim) ((dA one other sh i).map rDoor) ((sA one other sh i).map rSide)) ((xi_enumT T.f_enumerate (xe_ixT (xe_var 0) xe_int)).cast (enumP_map one.doors)) () trivial ⟨rfl, rfl, rfl, rfl, rfl, rfl, rfl, rfl, trivial⟩ rfl (fun B1 i p _ hB1 hp _ => ?_) (fun _ _ σ H' E => ?_)) ?_)
  · obtain ⟨⟨x, j⟩, hx, rfl⟩ := map_at hp
    have hx' := zi_at (mem_at hx)
    have hij : j = i := by
      rw [List.getElem?_zipIdx] at hx
      cases hq : one.doors[i]? with
      | none => rw [hq] at hx; cases hx
      | some y => rw [hq] at hx; simp at hx; omega
    subst hij
    have hi : j < one.doors.length := (List.getElem?_eq_some_iff.mp hx').1
    have hdx : x = door one (j : Int) := by
      have := door_get (m := one) (i := (j : Int)) (by simpa using hi)
      rw [show ((j : Int)).toNat = j by omega] at this
      rw [this] at hx'
      exact (Option.some.inj hx').symm
    subst hdx
    have hk := door_ok h.h1 (i := (j : Int)) (by simpa using hi)
    have aj := lA j (by omega)
    refine ⟨_, _, XG_cast (xg_tup (xgs_cons (xg_name 10 nd) (xgs_cons (xg_tup (xgs_cons (xg_name 11 nd) (xgs_cons (xg_name 12 nd) (xgs_cons (xg_name 13 nd) (xgs_cons (xg_name 14 nd) xgs_nil))))) xgs_nil))) (show rT [TL.rI (j : Int), rT [TL.rI (door one j).room, rT ((door one j).gs.map rG), rT ((door one j).rs.map TL.rI), TL.rI (door one j).goal]] = _ from rfl), ?_⟩
    refine (xb_cons (Mid := TL.Env B1 M [] GG (MM ((nLims one other).map rLim) ((dA one other sh (j + 1)).map rDoor) ((sA one other sh (j + 1)).map rSide))) (xs_if ((xt_eqPrs hr (xe_lc (b := fun p : Int × Int => decide (p.1 = (j : Int))) (f := rPr) (own := [("_law_pair", 19)]) nd (blkOk_by (N := ["_law_one", "_law_other", "_law_shared", "_law_limits", "_law_doors", "_law_sides", "_law_many", "_law_wide", "_law_low", "_law_high", "_law_at", "_law_room", "_law_guards", "_law_resets", "_law_goal", "_law_place", "_law_later", "_law_first", "_law_last", "_law_pair", "_law_clock"]) (by rfl)) (xi_tup (xe_var 2)) (fun p hp => ⟨_, _, by decide, fun _ _ _ _ _ => ⟨(xg_name 19 nd), xts_one (xt_eq (xe_ixT (xe_var 19) xe_int) (xe_var 10)), fun _ => (xe_var 19)⟩⟩) (lt_of_len (by omega)))).cast emp_iff) (fun hc => ?_) (fun hc => ?_)) (xb_nil fun σ H' E => ⟨(), trivial, E⟩))
    · have hin : ¬ (j : Int) ∈ sh.map (·.1) := by simpa using hc
      refine (xb_cons (xs_for (fun t (_ : Unit) => True) (fun t _ => [some (rTold one), some (rTold other), some (rT (sh.map rPr)), some (rA la), some (rA da), some (rA sa), some (TL.rI (other.lims.length : Int)), some (TL.rI (one.cl : Int)), none, none, some (TL.rI (j : Int)), some (TL.rI (door one j).room), some (rT ((door one j).gs.map rG)), some (rT ((door one j).rs.map TL.rI)), some (TL.rI (door one j).goal), none, none, none, none, none, none]) (fun t _ => MM ((nLims one other).map rLim) ((dA one other sh j).map rDoor ++ (dAt one other j t).map rDoor) ((sA one other sh j).map rSide ++ (List.replicate t (some (j : Int), none)).map rSide)) (xi_range T.f_range (xe_var 6) (by omega)) () trivial ⟨rfl, rfl, rfl, rfl, rfl, rfl, rfl, rfl, rfl, rfl, rfl, rfl, rfl, trivial⟩ (by simp [dAt, MM]) (fun B2 t q _ hB2 hq _ => ?_) (fun _ _ σ H' E => ?_)) (xb_nil fun σ H' E => E))
      · obtain ⟨t', ht, rfl⟩ := map_at hq
        have hti : t' = t ∧ t < other.lims.length := by
          obtain ⟨hl, e⟩ := List.getElem?_eq_some_iff.mp ht
          rw [List.getElem_range] at e
          rw [List.length_range] at hl
          exact ⟨e.symm, hl⟩
        obtain ⟨rfl, ht'⟩ := hti
        have g1 := hk.gl
        exact ⟨_, _, (xg_name 15 nd),
          (xb_cons (xs_app 1 (hk := rfl) (xe_var 4) ((xe_tup (xa_cons (xe_add (xe_mul (xe_var 11) (xe_var 6) (cm_nat (by omega))) (xe_var 15)) (xa_cons ((xe_catT (xe_var 12) (xe_repT (xe_tup (xa_cons (xe_tup (xa_cons xe_int (xa_cons xe_int xa_nil))) xa_nil)) (xe_ixT (xe_var 1) xe_int) h.h2.c1 (by omega)) (by rw [List.length_map, List.length_replicate]; show _ ≤ 2 ^ 24; omega)).cast (show _ = rT (((door one j).gs ++ freeG other.cl).map rG) by unfold freeG; rw [List.map_append, List.map_replicate]; rfl)) (xa_cons (xe_var 13) (xa_cons (xe_add (xe_mul (xe_var 14) (xe_var 6) (cm_nat (by omega))) (xe_var 15)) xa_nil))))).cast (show _ = rDoor ⟨(door one j).room * (other.lims.length : Int) + (t' : Int), (door one j).gs ++ freeG other.cl, (door one j).rs, (door one j).goal * (other.lims.length : Int) + (t' : Int)⟩ from rfl)) (by simp only [List.length_append, List.length_map, dAt, List.length_range]; show _ < 2 ^ 24; omega))
          (xb_cons (xs_app 2 (hk := rfl) (xe_var 5) ((xe_tup (xa_cons (xe_var 10) (xa_cons xe_non xa_nil))).cast (show _ = rSide (some (j : Int), none) from rfl)) (by simp only [List.length_append, List.length_map, List.length_replicate, sA_len]; show _ < 2 ^ 24; omega))
          (xb_nil fun σ H' E => ⟨(), trivial, by
            have q1 : (dAt one other j (t' + 1)).map rDoor = (dAt one other j t').map rDoor ++ [rDoor ⟨(door one j).room * (other.lims.length : Int) + (t' : Int), (door one j).gs ++ freeG other.cl, (door one j).rs, (door one j).goal * (other.lims.length : Int) + (t' : Int)⟩] := by unfold dAt; rw [List.range_succ, List.map_append, List.map_append]; rfl
            have q2 : (List.replicate (t' + 1) (some (j : Int), (none : Option Int))).map rSide = (List.replicate t' (some (j : Int), none)).map rSide ++ [rSide (some (j : Int), none)] := by rw [List.replicate_succ', List.map_append]; rfl
            show TL.Env B2 M [] _ (MM _ ((dA one other sh j).map rDoor ++ (dAt one other j (t' + 1)).map rDoor) ((sA one other sh j).map rSide ++ (List.replicate (t' + 1) (some (j : Int), none)).map rSide)) σ H'
            rw [q1, q2, ← List.append_assoc, ← List.append_assoc]
            exact E.sub ⟨rfl, rfl, rfl, rfl, rfl, rfl, rfl, rfl, rfl, rfl, rfl, rfl, rfl, trivial⟩⟩)))⟩
      · show TL.Env B1 M [] GG (MM ((nLims one other).map rLim) ((dA one other sh (j + 1)).map rDoor) ((sA one other sh (j + 1)).map rSide)) σ H'
        rw [List.length_map, List.length_range] at E
        rw [dA_succ, sA_succ, if_neg hin, if_neg hin, List.map_append, List.map_append]
        exact E.sub ⟨rfl, rfl, rfl, rfl, rfl, rfl, rfl, rfl, trivial⟩
    · have hin : (j : Int) ∈ sh.map (·.1) := by simpa using hc
      refine xb_nil fun σ H' E => ?_
      rw [dA_succ, sA_succ, if_pos hin, if_pos hin, List.append_nil, List.append_nil]
      exact E.sub ⟨rfl, rfl, rfl, rfl, rfl, rfl, rfl, rfl, trivial⟩
  · rw [List.length_map, List.length_zipIdx] at E
    exact E
  refine (xb_cons (Mid := TL.Env H M [] GG (MM ((nLims one other).map rLim) ((dA one other sh one.doors.length ++ dB one other sh other.doors.length).map rDoor) ((sA one other sh one.doors.length ++ sB one other sh other.doors.length).map rSide)))
    (xs_for (fun i (_ : Unit) => True) (fun i _ => GG) (fun i _ => MM ((nLims one other).map rLim) ((dA one other sh one.doors.length ++ dB one other sh i).map rDoor) ((sA one other sh one.doors.length ++ sB one other sh i).map rSide)) ((xi_enumT T.f_enumerate (xe_ixT (xe_var 1) xe_int)).cast (enumP_map other.doors)) () trivial ⟨rfl, rfl, rfl, rfl, rfl, rfl, rfl, rfl, trivial⟩ (by simp [dB, sB]) (fun B1 i p _ hB1 hp _ => ?_) (fun _ _ σ H' E => ?_)) ?_)
  · obtain ⟨⟨x, j⟩, hx, rfl⟩ := map_at hp
    have hx' := zi_at (mem_at hx)
    have hij : j = i := by
      rw [List.getElem?_zipIdx] at hx
      cases hq : other.doors[i]? with
      | none => rw [hq] at hx; cases hx
      | some y => rw [hq] at hx; simp at hx; omega
    subst hij
    have hi : j < other.doors.length := (List.getElem?_eq_some_iff.mp hx').1
    have hdx : x = door other (j : Int) := by
      have := door_get (m := other) (i := (j : Int)) (by simpa using hi)
      rw [show ((j : Int)).toNat = j by omega] at this
      rw [this] at hx'
      exact (Option.some.inj hx').symm
    subst hdx
    have hk := door_ok h.h2 (i := (j : Int)) (by simpa using hi)
    have hrl := rs_len hk c2
    have aj := lB j (by omega)
    refine ⟨_, _, XG_cast (xg_tup (xgs_cons (xg_name 10 nd) (xgs_cons (xg_tup (xgs_cons (xg_name 11 nd) (xgs_cons (xg_name 12 nd) (xgs_cons (xg_name 13 nd) (xgs_cons (xg_name 14 nd) xgs_nil))))) xgs_nil))) (show rT [TL.rI (j : Int), rT [TL.rI (door other j).room, rT ((door other j).gs.map rG), rT ((door other j).rs.map TL.rI), TL.rI (door other j).goal]] = _ from rfl), ?_⟩
    refine (xb_cons (Mid := TL.Env B1 M [] GG (MM ((nLims one other).map rLim) ((dA one other sh one.doors.length ++ dB one other sh (j + 1)).map rDoor) ((sA one other sh one.doors.length ++ sB one other sh (j + 1)).map rSide))) (xs_if ((xt_eqPrs hr (xe_lc (b := fun p : Int × Int => decide (p.2 = (j : Int))) (f := rPr) (own := [("_law_pair", 19)]) nd (blkOk_by (N := ["_law_one", "_law_other", "_law_shared", "_law_limits", "_law_doors", "_law_sides", "_law_many", "_law_wide", "_law_low", "_law_high", "_law_at", "_law_room", "_law_guards", "_law_resets", "_law_goal", "_law_place", "_law_later", "_law_first", "_law_last", "_law_pair", "_law_clock"]) (by rfl)) (xi_tup (xe_var 2)) (fun p hp => ⟨_, _, by decide, fun _ _ _ _ _ => ⟨(xg_name 19 nd), xts_one (xt_eq (xe_ixT (xe_var 19) xe_int) (xe_var 10)), fun _ => (xe_var 19)⟩⟩) (lt_of_len (by omega)))).cast emp_iff) (fun hc => ?_) (fun hc => ?_)) (xb_nil fun σ H' E => ⟨(), trivial, E⟩))
    · have hin : ¬ (j : Int) ∈ sh.map (·.2) := by simpa using hc
      refine (xb_cons (xs_set 16 nd ((xe_tuple T.f_tuple (xe_lc1 (f := fun c : Int => TL.rI (c + (one.cl : Int))) (own := [("_law_clock", 20)]) nd (blkOk_by (N := ["_law_one", "_law_other", "_law_shared", "_law_limits", "_law_doors", "_law_sides", "_law_many", "_law_wide", "_law_low", "_law_high", "_law_at", "_law_room", "_law_guards", "_law_resets", "_law_goal", "_law_place", "_law_later", "_law_first", "_law_last", "_law_pair", "_law_clock"]) (by rfl)) (xi_tup (xe_var 13)) (fun x hx => ⟨_, _, by decide, fun _ _ _ _ _ => ⟨(xg_name 20 nd), xts_nil, fun _ => (xe_add (xe_var 20) (xe_var 7))⟩⟩) (lt_of_len (by omega)))).cast (show _ = rT ((shiftK one.cl (door other j).rs).map TL.rI) by unfold shiftK; rw [List.map_map]; rfl))) ?_)
      refine (xb_cons (xs_for (fun t (_ : Unit) => True) (fun t _ => [some (rTold one), some (rTold other), some (rT (sh.map rPr)), some (rA la), some (rA da), some (rA sa), some (TL.rI (other.lims.length : Int)), some (TL.rI (one.cl : Int)), none, none, some (TL.rI (j : Int)), some (TL.rI (door other j).room), some (rT ((door other j).gs.map rG)), none, some (TL.rI (door other j).goal), none, some (rT ((shiftK one.cl (door other j).rs).map TL.rI)), none, none, none, none]) (fun t _ => MM ((nLims one other).map rLim) ((dA one other sh one.doors.length ++ dB one other sh j).map rDoor ++ (dBt one other j t).map rDoor) ((sA one other sh one.doors.length ++ sB one other sh j).map rSide ++ (List.replicate t ((none : Option Int), some (j : Int))).map rSide)) (xi_range T.f_range ((xe_len T.f_len (xe_ixT (xe_var 0) xe_int)).cast (by rw [e1])) (by omega)) () trivial ⟨rfl, rfl, rfl, rfl, rfl, rfl, rfl, rfl, rfl, rfl, rfl, rfl, rfl, trivial⟩ (by simp [dBt, MM]) (fun B2 t q _ hB2 hq _ => ?_) (fun _ _ σ H' E => ?_)) (xb_nil fun σ H' E => E))
      · obtain ⟨t', ht, rfl⟩ := map_at hq
        have hti : t' = t ∧ t < one.lims.length := by
          obtain ⟨hl, e⟩ := List.getElem?_eq_some_iff.mp ht
          rw [List.getElem_range] at e
          rw [List.length_range] at hl
          exact ⟨e.symm, hl⟩
        obtain ⟨rfl, ht'⟩ := hti
        have g1 := hk.gl
        exact ⟨_, _, (xg_name 15 nd),
          (xb_cons (xs_app 1 (hk := rfl) (xe_var 4) ((xe_tup (xa_cons (xe_add (xe_mul (xe_var 15) (xe_var 6) (cm_nat (by omega))) (xe_var 11)) (xa_cons ((xe_catT (xe_repT (xe_tup (xa_cons (xe_tup (xa_cons xe_int (xa_cons xe_int xa_nil))) xa_nil)) (xe_var 7) h.h1.c1 (by omega)) (xe_var 12) (by rw [List.length_map, List.length_replicate]; show _ ≤ 2 ^ 24; omega)).cast (show _ = rT ((freeG one.cl ++ (door other j).gs).map rG) by unfold freeG; rw [List.map_append, List.map_replicate]; rfl)) (xa_cons (xe_var 16) (xa_cons (xe_add (xe_mul (xe_var 15) (xe_var 6) (cm_nat (by omega))) (xe_var 14)) xa_nil))))).cast (show _ = rDoor ⟨(t' : Int) * (other.lims.length : Int) + (door other j).room, freeG one.cl ++ (door other j).gs, shiftK one.cl (door other j).rs, (t' : Int) * (other.lims.length : Int) + (door other j).goal⟩ from rfl)) (by simp only [List.length_append, List.length_map, dBt, List.length_range]; show _ < 2 ^ 24; omega))
          (xb_cons (xs_app 2 (hk := rfl) (xe_var 5) ((xe_tup (xa_cons xe_non (xa_cons (xe_var 10) xa_nil))).cast (show _ = rSide (none, some (j : Int)) from rfl)) (by simp only [List.length_append, List.length_map, List.length_replicate, sA_len, sB_len]; show _ < 2 ^ 24; omega))
          (xb_nil fun σ H' E => ⟨(), trivial, by
            have q1 : (dBt one other j (t' + 1)).map rDoor = (dBt one other j t').map rDoor ++ [rDoor ⟨(t' : Int) * (other.lims.length : Int) + (door other j).room, freeG one.cl ++ (door other j).gs, shiftK one.cl (door other j).rs, (t' : Int) * (other.lims.length : Int) + (door other j).goal⟩] := by unfold dBt; rw [List.range_succ, List.map_append, List.map_append]; rfl
            have q2 : (List.replicate (t' + 1) ((none : Option Int), some (j : Int))).map rSide = (List.replicate t' (none, some (j : Int))).map rSide ++ [rSide (none, some (j : Int))] := by rw [List.replicate_succ', List.map_append]; rfl
            show TL.Env B2 M [] _ (MM _ ((dA one other sh one.doors.length ++ dB one other sh j).map rDoor ++ (dBt one other j (t' + 1)).map rDoor) ((sA one other sh one.doors.length ++ sB one other sh j).map rSide ++ (List.replicate (t' + 1) (none, some (j : Int))).map rSide)) σ H'
            rw [q1, q2, ← List.append_assoc, ← List.append_assoc]
            exact E.sub ⟨rfl, rfl, rfl, rfl, rfl, rfl, rfl, rfl, rfl, rfl, rfl, rfl, rfl, trivial⟩⟩)))⟩
      · show TL.Env B1 M [] GG (MM ((nLims one other).map rLim) ((dA one other sh one.doors.length ++ dB one other sh (j + 1)).map rDoor) ((sA one other sh one.doors.length ++ sB one other sh (j + 1)).map rSide)) σ H'
        rw [List.length_map, List.length_range] at E
        rw [dB_succ, sB_succ, if_neg hin, if_neg hin, ← List.append_assoc, ← List.append_assoc, List.map_append (l₂ := lastD _ _ _), List.map_append (l₂ := List.replicate _ _)]
        exact E.sub ⟨rfl, rfl, rfl, rfl, rfl, rfl, rfl, rfl, trivial⟩
    · have hin : (j : Int) ∈ sh.map (·.2) := by simpa using hc
      refine xb_nil fun σ H' E => ?_
      rw [dB_succ, sB_succ, if_pos hin, if_pos hin, List.append_nil, List.append_nil]
      exact E.sub ⟨rfl, rfl, rfl, rfl, rfl, rfl, rfl, rfl, trivial⟩
  · rw [List.length_map, List.length_zipIdx] at E
    exact E
  refine (xb_cons (Mid := TL.Env H M [] GG (MM ((nLims one other).map rLim) ((nDoors one other sh).map rDoor) ((nSides one other sh).map rSide)))
    (xs_for (fun i (_ : Unit) => True) (fun i _ => GG) (fun i _ => MM ((nLims one other).map rLim) ((dA one other sh one.doors.length ++ dB one other sh other.doors.length).map rDoor ++ ((sh.take i).map (bothD one other)).map rDoor) ((sA one other sh one.doors.length ++ sB one other sh other.doors.length).map rSide ++ ((sh.take i).map fun p => (some p.1, some p.2)).map rSide)) (xi_tup (xe_var 2)) () trivial ⟨rfl, rfl, rfl, rfl, rfl, rfl, rfl, rfl, trivial⟩ (by simp) (fun B1 i p _ hB1 hp _ => ?_) (fun _ _ σ H' E => ?_)) ?_)
  · obtain ⟨x, hx, rfl⟩ := map_at hp
    have hp1 := h.s1 x (mem_at hx)
    have hp2 := h.s2 x (mem_at hx)
    have hat1 : atI (one.doors.map rDoor) x.1 = some (rDoor (door one x.1)) := atI_int hp1.1 (map_at' (door_get hp1.2))
    have hat2 : atI (other.doors.map rDoor) x.2 = some (rDoor (door other x.2)) := atI_int hp2.1 (map_at' (door_get hp2.2))
    have hk1 := door_ok h.h1 hp1.2
    have hk2 := door_ok h.h2 hp2.2
    have hrl1 := rs_len hk1 c1
    have hrl := rs_len hk2 c2
    have g1 := hk1.gl
    have g2 := hk2.gl
    have ht : (sh.take i).length ≤ 12 := by rw [List.length_take]; omega
    exact ⟨_, _, (xg_tup (xgs_cons (xg_name 17 nd) (xgs_cons (xg_name 18 nd) xgs_nil))),
      (xb_cons (xs_asg (xe_tup (xa_cons (xe_ixT (xe_ixT (xe_var 0) xe_int) (xe_var 17) hat1) (xa_cons (xe_ixT (xe_ixT (xe_var 1) xe_int) (xe_var 18) hat2) xa_nil))) (xg_tup (xgs_cons (xg_name 8 nd) (xgs_cons (xg_name 9 nd) xgs_nil))))
      (xb_cons (xs_set 16 nd ((xe_catT (xe_ixT (xe_var 8) xe_int) (xe_tuple T.f_tuple (xe_lc1 (f := fun c : Int => TL.rI (c + (one.cl : Int))) (own := [("_law_clock", 20)]) nd (blkOk_by (N := ["_law_one", "_law_other", "_law_shared", "_law_limits", "_law_doors", "_law_sides", "_law_many", "_law_wide", "_law_low", "_law_high", "_law_at", "_law_room", "_law_guards", "_law_resets", "_law_goal", "_law_place", "_law_later", "_law_first", "_law_last", "_law_pair", "_law_clock"]) (by rfl)) (xi_tup (xe_ixT (xe_var 9) xe_int)) (fun x hx => ⟨_, _, by decide, fun _ _ _ _ _ => ⟨(xg_name 20 nd), xts_nil, fun _ => (xe_add (xe_var 20) (xe_var 7))⟩⟩) (lt_of_len (by omega)))) (by rw [List.length_map, List.length_map]; show _ ≤ 2 ^ 24; omega)).cast (show _ = rT ((bothD one other x).rs.map TL.rI) by unfold bothD shiftK; rw [List.map_append, List.map_map]; rfl)))
      (xb_cons (xs_app 1 (hk := rfl) (xe_var 4) ((xe_tup (xa_cons (xe_add (xe_mul (xe_ixT (xe_var 8) xe_int) (xe_var 6) (cm_nat (by omega))) (xe_ixT (xe_var 9) xe_int)) (xa_cons ((xe_catT (xe_ixT (xe_var 8) xe_int) (xe_ixT (xe_var 9) xe_int) (by rw [List.length_map, List.length_map]; show _ ≤ 2 ^ 24; omega)).cast (show _ = rT ((bothD one other x).gs.map rG) by unfold bothD; rw [List.map_append])) (xa_cons (xe_var 16) (xa_cons (xe_add (xe_mul (xe_ixT (xe_var 8) xe_int) (xe_var 6) (cm_nat (by omega))) (xe_ixT (xe_var 9) xe_int)) xa_nil))))).cast (show _ = rDoor (bothD one other x) from rfl)) (by simp only [List.length_append, List.length_map]; show _ < 2 ^ 24; omega))
      (xb_cons (xs_app 2 (hk := rfl) (xe_var 5) ((xe_tup (xa_cons (xe_var 17) (xa_cons (xe_var 18) xa_nil))).cast (show _ = rSide (some x.1, some x.2) from rfl)) (by simp only [List.length_append, List.length_map, sA_len, sB_len]; show _ < 2 ^ 24; omega))
      (xb_nil fun σ H' E => ⟨(), trivial, by
        have q1 : ((sh.take (i + 1)).map (bothD one other)).map rDoor = ((sh.take i).map (bothD one other)).map rDoor ++ [rDoor (bothD one other x)] := by rw [take_snoc hx, List.map_append, List.map_append]; rfl
        have q2 : ((sh.take (i + 1)).map fun p => (some p.1, some p.2)).map rSide = ((sh.take i).map fun p => (some p.1, some p.2)).map rSide ++ [rSide (some x.1, some x.2)] := by rw [take_snoc hx, List.map_append, List.map_append]; rfl
        show TL.Env B1 M [] GG (MM _ (_ ++ ((sh.take (i + 1)).map (bothD one other)).map rDoor) (_ ++ ((sh.take (i + 1)).map fun p => (some p.1, some p.2)).map rSide)) σ H'
        rw [q1, q2, ← List.append_assoc, ← List.append_assoc]
        exact E.sub ⟨rfl, rfl, rfl, rfl, rfl, rfl, rfl, rfl, trivial⟩⟩)))))⟩
  · rw [List.length_map, List.take_length, ← List.map_append, ← List.map_append] at E
    exact E
  exact XB.pre (xb_cons (xs_retR (xe_tup (xa_cons ((xe_tup (xa_cons (xe_add (xe_var 7) (xe_ixT (xe_var 1) xe_int)) (xa_cons (xe_tuple T.f_tuple (xe_var 3)) (xa_cons (xe_tuple T.f_tuple (xe_var 4)) xa_nil)))).cast (show _ = rTold (nMach one other sh) by unfold rTold nMach; rw [Int.natCast_add]; rfl)) (xa_cons (xe_var 5) xa_nil))) hB) xb_dead)
    fun σ H' E => Env.frz (Ms := []) (i := 3) (Env.frz (Ms := [(la, (nLims one other).map rLim)]) (i := 4) (Env.frz (Ms := [(la, (nLims one other).map rLim), (da, (nDoors one other sh).map rDoor)]) (i := 5) E rfl) rfl) rfl
end
end M33
namespace M33
open PySem PySem.Spec PyProof.Rows L2 TL
section
variable [KK] {P : Program} {w : World} {mg : Str → Option Value} {base : Heap}
def S_L_ne_split (rs : List Vp) (r : Vp) : Prop := ∃ sides st m, rs = [rL (sides.map rSide), rStay st] ∧ StayOk m st ∧ SideOk sides st.1 ∧ r = rT [rStay (sideStay sides false st), rStay (sideStay sides true st)]
theorem ok_L_ne_split (T : Txt mg) : Fn P w mg base "_law_ne_split" 3 (spF S_L_ne_split) := by
  obtain ⟨fd, F⟩ := T.fd_L_ne_split
  have nd : (["_law_sides", "_law_stay", "_law_found", "_law_side", "_law_run", "_law_wait", "_law_part", "_law_index"] : List Str).Nodup := by decide +kernel
  refine fn_ok (N := ["_law_sides", "_law_stay", "_law_found", "_law_side", "_law_run", "_law_wait", "_law_part", "_law_index"]) (ps := ["_law_sides", "_law_stay"]) F T.g_L_ne_split (fun _ _ _ _ _ _ us hl => match us, hl with | [_, _], _ => rfl) ⟨rfl, rfl, rfl, nd, rfl, by decide +kernel, by decide +kernel⟩ (by decide)
    (by intro rs r hS; obtain ⟨sides, st, m, rfl, hst, hsd, rfl⟩ := hS <;> rfl) fun cdv A outer s H E M rs r hr hS => ?_
  have hB := Ex.refl H
  obtain ⟨sides, st, m, rfl, hst, hsd, rfl⟩ := hS
  have hlen := hst.r.len
  let F : List Vp := [rStay (sideStay sides false st), rStay (sideStay sides true st)]
  refine (xb_cons (xs_setM 2 nd xa_nil) (xb_ex fun fa => ?_))
  refine (xb_cons (Mid := TL.Env H M [] [none, none, some (rL F), none, none, none, none, none] [])
    (xs_for (fun i (_ : Unit) => True) (fun i _ => [some (rL (sides.map rSide)), some (rStay st), some (rA fa), none, none, none, none, none]) (fun i _ => [(fa, F.take i)]) (xi_tup (xe_tup (xa_cons xe_int (xa_cons xe_int xa_nil)))) () trivial ⟨rfl, rfl, rfl, trivial⟩ rfl (fun B1 i p _ hB1 hp _ => ?_) (fun _ _ σ H' E => (Env.frz (Ms := []) (i := 2) E rfl).sub ⟨rfl, trivial⟩))
    (xb_cons (xs_retR (xe_tuple T.f_tuple (xe_var 2)) hB) xb_dead))
  obtain ⟨s', rfl, hF, hFl⟩ : ∃ s' : Bool, p = TL.rI (if s' then 1 else 0) ∧ F.take (i + 1) = F.take i ++ [rStay (sideStay sides s' st)] ∧ (F.take i).length ≤ 2 := by
    match i, hp with
    | 0, hp => exact ⟨false, (Option.some.inj hp).symm, rfl, Nat.le_of_ble_eq_true rfl⟩
    | 1, hp => exact ⟨true, (Option.some.inj hp).symm, rfl, Nat.le_of_ble_eq_true rfl⟩
    | i + 2, hp => simp at hp
  refine ⟨_, _, (xg_name 3 nd), (xb_cons (xs_par_mv 4 5 nd ((xe_tup (xa_cons xe_int (xa_cons xe_int xa_nil))).cast rF0)) (xb_ex fun l => ?_))⟩
  refine (xb_cons (Mid := TL.Env B1 M [] [some (rL (sides.map rSide)), some (rStay st), some (rA fa), none, some (rL ((sideStay sides s' st).1.map rStep)), some (rF (st.1.foldl (stepSide sides s') ([], 0)).2), none, none] [(fa, F.take i)])
    (xs_for (fun t (_ : Unit) => True) (fun t _ => [some (rL (sides.map rSide)), some (rStay st), some (rA fa), some (TL.rI (if s' then 1 else 0)), some (rA l), some (rF (sdf sides s' st.1 t).2), none, none]) (fun t _ => [(fa, F.take i), (l, (sdf sides s' st.1 t).1.map rStep)]) (xi_tup (xe_ixT (xe_var 1) xe_int)) () trivial ⟨rfl, rfl, rfl, rfl, rfl, rfl, trivial⟩ rfl (fun B2 t q _ hB2 hq _ => ?_) (fun _ _ σ H' E => ?_)) ?_)
  · obtain ⟨x, hx, rfl⟩ := map_at hq
    have hi : t < st.1.length := (List.getElem?_eq_some_iff.mp hx).1
    have hd := hsd.d x (mem_at hx)
    have hw := hst.r.w x (mem_at hx)
    have hb := sdf_b (sides := sides) (s := s') hst.r.w t (by omega)
    have e := sdf_succ (sides := sides) (s := s') hx
    have hat : atI (sides.map rSide) x.2 = some (rSide (sdAt sides x.2)) := atI_int hd.1 (map_at' (sdAt_get hd.2))
    refine ⟨_, _, (xg_tup (xgs_cons (xg_name 6 nd) (xgs_cons (xg_name 7 nd) xgs_nil))),
      (xb_cons (xs_set 5 nd (xe_call (ok_L_fr_plus T) hr (xa_cons (xe_var 5) (xa_cons (xe_var 6) xa_nil)) ⟨_, x.1, rfl, bk_of (t := 100000) (by constructor <;> omega) (by decide), bk_of hw (by decide), rfl⟩)) ?_)⟩
    have ev : ∀ {X : Cx} {G : En} {a b : Expr} {pos : Pos}, True := fun {_ _ _ _ _} => trivial
    cases hq : sd (sdAt sides x.2) s' with
    | none =>
      rw [show stepSide sides s' (sdf sides s' st.1 t) x = ((sdf sides s' st.1 t).1, (sdf sides s' st.1 t).2 + x.1) by unfold stepSide; rw [hq]] at e
      exact xb_ifF ((xt_isnot ((xe_ixT ((xe_ixL (xe_var 0) (xe_var 7) hat).cast (show rSide _ = rT [rOp _, rOp _] from rfl)) (xe_var 3) (sd_at _ _)).cast (show _ = rN by rw [hq]; rfl)) non_n).cast rfl) (xb_nil fun σ H' E => ⟨(), trivial, by
        show TL.Env B2 M [] [some (rL (sides.map rSide)), some (rStay st), some (rA fa), some (TL.rI (if s' then 1 else 0)), some (rA l), some (rF (sdf sides s' st.1 (t + 1)).2), none, none] [(fa, F.take i), (l, (sdf sides s' st.1 (t + 1)).1.map rStep)] σ H'
        rw [e]
        exact E.sub ⟨rfl, rfl, rfl, rfl, rfl, rfl, trivial⟩⟩)
    | some j =>
      rw [show stepSide sides s' (sdf sides s' st.1 t) x = ((sdf sides s' st.1 t).1 ++ [((sdf sides s' st.1 t).2 + x.1, j)], 0) by unfold stepSide; rw [hq]] at e
      exact (xb_cons (xs_ifT ((xt_isnot ((xe_ixT ((xe_ixL (xe_var 0) (xe_var 7) hat).cast (show rSide _ = rT [rOp _, rOp _] from rfl)) (xe_var 3) (sd_at _ _)).cast (show _ = TL.rI j by rw [hq]; rfl)) non_i).cast rfl) (xb_cons (xs_app 1 (hk := rfl) (xe_var 4) ((xe_tup (xa_cons (xe_var 5) (xa_cons ((xe_ixT ((xe_ixL (xe_var 0) (xe_var 7) hat).cast (show rSide _ = rT [rOp _, rOp _] from rfl)) (xe_var 3) (sd_at _ _)).cast (show _ = TL.rI j by rw [hq]; rfl)) xa_nil))).cast (show _ = rStep ((sdf sides s' st.1 t).2 + x.1, j) from rfl)) (by rw [List.length_map]; show _ < 2 ^ 24; omega)) (xb_cons (xs_set 5 nd ((xe_tup (xa_cons xe_int (xa_cons xe_int xa_nil))).cast rF0)) (xb_nil fun σ H' E => E)))) (xb_nil fun σ H' E => ⟨(), trivial, by
        show TL.Env B2 M [] [some (rL (sides.map rSide)), some (rStay st), some (rA fa), some (TL.rI (if s' then 1 else 0)), some (rA l), some (rF (sdf sides s' st.1 (t + 1)).2), none, none] [(fa, F.take i), (l, (sdf sides s' st.1 (t + 1)).1.map rStep)] σ H'
        rw [e, List.map_append]
        exact E.sub ⟨rfl, rfl, rfl, rfl, rfl, rfl, trivial⟩⟩))
  · rw [List.length_map, sdf_all] at E
    exact (Env.frz (Ms := [(fa, F.take i)]) (i := 4) E rfl).sub ⟨rfl, rfl, rfl, rfl, rfl, trivial⟩
  · have hb := sdf_b (sides := sides) (s := s') hst.r.w st.1.length (Nat.le_refl _)
    rw [sdf_all] at hb
    exact (xb_cons (xs_app 0 (hk := rfl) (xe_var 2) ((xe_tup (xa_cons (xe_tuple T.f_tuple (xe_var 4)) (xa_cons (xe_call (ok_L_fr_plus T) hr (xa_cons (xe_var 5) (xa_cons (xe_ixT (xe_var 1) xe_int) xa_nil)) ⟨_, st.2, rfl, bk_of (t := 100000) (by constructor <;> omega) (by decide), bk_of ⟨hst.w0, hst.w1⟩ (by decide), rfl⟩) xa_nil))).cast (show _ = rStay (sideStay sides s' st) from rfl)) (by show _ < 2 ^ 24; omega))
      (xb_nil fun σ H' E => ⟨(), trivial, by
        show TL.Env B1 M [] [some (rL (sides.map rSide)), some (rStay st), some (rA fa), none, none, none, none, none] [(fa, F.take (i + 1))] σ H'
        rw [hF]
        exact E.sub ⟨rfl, rfl, rfl, trivial⟩⟩))
end
end M33
/-! The plain law. -/
namespace M33
open PySem PySem.Spec PyProof.Rows L2 TL
/-! ### near a stay: form -/
theorem isStep_u {d : D} (h : isStep d = true) : ∃ w i, d = .tup [w, .int i] ∧ 0 ≤ i ∧ i ≤ 11 ∧ isMar w = true := by
  unfold isStep at h
  split at h
  · rename_i w i
    obtain ⟨h1, h2⟩ := He.ba h
    unfold isFrom at h2
    split at h2
    · obtain ⟨h3, h4⟩ := He.ba h2
      exact ⟨_, _, rfl, of_decide_eq_true h3, of_decide_eq_true h4, h1⟩
    · cases h2
  · cases h
theorem follow_cons {m : Mach} {h i : Int} {is : List Int} : follow m h (i :: is) = (match m.doors[i.toNat]? with | some d => decide (d.room = h) && follow m d.goal is | none => false) := rfl
theorem due_run {m : Mach} (hm : m.doors.length ≤ 12) : ∀ (ds : List D) (h : Int), (ds.all isStep && follow m h (ds.map stIx)) = dueS m h ds
  | [], h => rfl
  | d :: ds, h => by
    have hs : stepTo m h d = (if isStep d = true ∧ (∃ x, m.doors[(stIx d).toNat]? = some x ∧ x.room = h) then some (door m (stIx d)).goal else none) := by
      by_cases q : isStep d = true
      · obtain ⟨w, i, rfl, h0, h1, h2⟩ := isStep_u q
        show (if _ then _ else _) = _
        by_cases hi : i.toNat < m.doors.length
        · have hd := door_get hi
          by_cases hr : (door m i).room = h
          · rw [if_pos ⟨h2, h0, by omega, hr⟩, if_pos ⟨q, _, hd, hr⟩]; rfl
          · rw [if_neg fun z => hr z.2.2.2, if_neg]
            rintro ⟨_, x, hx, hr'⟩
            rw [show stIx (.tup [w, .int i]) = i from rfl, hd] at hx
            cases hx
            exact hr hr'
        · rw [if_neg fun z => hi (by omega), if_neg]
          rintro ⟨_, x, hx, hr'⟩
          rw [show stIx (.tup [w, .int i]) = i from rfl, List.getElem?_eq_none (by omega)] at hx
          cases hx
      · rw [if_neg fun z => q z.1]
        unfold stepTo
        split
        · rename_i w i
          rw [if_neg]
          rintro ⟨h1, h2, h3, _⟩
          refine q ?_
          show (isMar w && (decide (0 ≤ i) && decide (i ≤ 11))) = true
          rw [h1, decide_eq_true h2, decide_eq_true (by omega)]
          rfl
        · rfl
    rw [dueS, hs, List.all_cons, List.map_cons, follow_cons]
    by_cases q : isStep d = true
    · rw [q, Bool.true_and]
      cases hx : m.doors[(stIx d).toNat]? with
      | none => rw [if_neg (by rintro ⟨_, x, h, _⟩; cases h)]; simp
      | some x =>
        have hl : (stIx d).toNat < m.doors.length := (List.getElem?_eq_some_iff.mp hx).1
        have hd := door_get hl
        rw [hx] at hd
        have hd := Option.some.inj hd
        by_cases hr : x.room = h
        · rw [if_pos ⟨rfl, x, rfl, hr⟩, ← hd]
          dsimp only
          rw [decide_eq_true hr, Bool.true_and]
          exact due_run hm ds x.goal
        · rw [if_neg (by rintro ⟨_, y, h, h'⟩; cases h; exact hr h')]
          dsimp only
          rw [decide_eq_false hr]; simp
    · rw [if_neg fun z => q z.1]
      simp only [Bool.not_eq_true] at q
      rw [q]; simp
theorem stay_due {m : Mach} (hm : m.doors.length ≤ 12) {d : D} (hl : ShortRun d) : isStay m d = isDue m d := by
  unfold isStay isDue
  split
  · rename_i r w
    split
    · rename_i ds w' h
      simp only [D.tup.injEq, List.cons.injEq, and_true] at h
      obtain ⟨rfl, rfl⟩ := h
      have hl := hl _ _ ds rfl rfl
      show ((decide (ds.length ≤ 20000) && ds.all isStep) && follow m 0 (ds.map stIx) && isMar w) = _
      rw [decide_eq_true (by omega), Bool.true_and, due_run hm, Bool.and_comm]
    · rename_i h
      have : isRun m r = false := by
        unfold isRun areSteps
        split
        · exact absurd rfl (h _ _)
        · rfl
      rw [this]; rfl
  · rename_i h
    split
    · exact absurd rfl (h _ _)
    · rfl
theorem small_F {k : Int} (h : Bk k) : SmallD (dF k) := by
  have h1 := fnum_bd h
  have h2 := fden_pos k
  have h3 := fden_le k
  obtain ⟨h4, h5⟩ := h1
  exact ⟨by omega, by omega, by omega, by omega⟩
theorem goodS_step {x : Int × Int} (h : Bk x.1) : GoodS (dStep x) := fun w i e => by
  unfold dStep at e
  simp only [D.tup.injEq, List.cons.injEq, and_true] at e
  obtain ⟨rfl, rfl⟩ := e
  exact ⟨small_F h, .inr ⟨_, rfl⟩⟩
theorem small_run (run : List (Int × Int)) : SmallD (dRun run) := by
  unfold dRun
  match run with
  | [] => trivial
  | [_] => trivial
  | [_, _] => trivial
  | _ :: _ :: _ :: _ => trivial
structure NearOk (v : D) : Prop where
  s : ShortRun v
  g : GoodD v
theorem near_pair {a b : D} (h1 : ∀ ds, a = .tup ds → ds.length < 20000 ∧ ∀ s ∈ ds, GoodS s) (h2 : SmallD b) : NearOk (.tup [a, b]) := by
  refine ⟨fun r w ds e1 e2 => ?_, fun r w e => ?_⟩
  · simp only [D.tup.injEq, List.cons.injEq, and_true] at e1
    obtain ⟨rfl, rfl⟩ := e1
    exact (h1 ds e2).1
  · simp only [D.tup.injEq, List.cons.injEq, and_true] at e
    obtain ⟨rfl, rfl⟩ := e
    exact ⟨h2, fun ds e2 => (h1 ds e2).2⟩
theorem near_not {v : D} (h : ∀ a b, v ≠ .tup [a, b]) : NearOk v := ⟨fun r w ds e => absurd e (h _ _), fun r w e => absurd e (h _ _)⟩
theorem near_tup {l : List D} {b : D} (h0 : l.length < 20000) (h1 : ∀ s ∈ l, GoodS s) (h2 : SmallD b) : NearOk (.tup [.tup l, b]) := near_pair (fun ds e => by cases e; exact ⟨h0, h1⟩) h2
theorem near_all {st : List (Int × Int) × Int} (hl : st.1.length ≤ 100) (hw : ∀ x ∈ st.1, Bk x.1) (hr : Bk st.2) : ∀ v ∈ nearD st, NearOk v := by
  have g : ∀ s ∈ st.1.map dStep, GoodS s := fun s hs => by obtain ⟨x, hx, rfl⟩ := List.mem_map.mp hs; exact goodS_step (hw x hx)
  have ln : (st.1.map dStep).length ≤ 100 := by rw [List.length_map]; exact hl
  have sm := small_F hr
  have gi : ∀ i : Int, GoodS (.int i) := fun i w j e => by cases e
  have ga : ∀ (l : List D), (∀ s ∈ l, GoodS s) → ∀ s ∈ st.1.map dStep ++ l, GoodS s := fun l h s hs => by
    rcases List.mem_append.mp hs with hs | hs
    · exact g s hs
    · exact h s hs
  have g1 : ∀ i : D, ((∃ b, i = .bl b) ∨ ∃ k, i = .int k) → ∀ s ∈ [D.tup [dF st.2, i]], GoodS s := fun i hi s hs => by
    obtain rfl := List.mem_singleton.mp hs
    intro w j e
    simp only [D.tup.injEq, List.cons.injEq, and_true] at e
    obtain ⟨rfl, rfl⟩ := e
    exact ⟨sm, hi⟩
  intro v hv
  unfold nearD at hv
  simp only [List.cons_append, List.nil_append, List.mem_cons, List.not_mem_nil, or_false] at hv
  rcases hv with rfl | rfl | rfl | rfl | rfl | rfl | rfl | rfl | rfl | rfl | rfl | rfl | rfl | rfl | rfl | rfl | rfl | rfl
  · exact near_tup (by omega) g sm
  · exact near_not fun a b e => by cases e
  · exact near_not fun a b e => by cases e
  · exact near_not fun a b e => by cases e
  · exact near_tup (by omega) g trivial
  · exact near_tup (by omega) g ⟨by decide, by decide, by decide, by decide⟩
  · exact near_tup (by omega) g ⟨by decide, by decide, by decide, by decide⟩
  · exact near_pair (fun ds e => by cases e) sm
  · refine near_pair (fun ds e => ?_) (small_run _)
    cases e
    refine ⟨by simp, fun s hs => ?_⟩
    simp only [List.mem_cons, List.not_mem_nil, or_false] at hs
    rcases hs with rfl | rfl
    · exact gi _
    · exact gi _
  · exact near_not fun a b e => by cases e
  · exact near_not fun a b e => by cases e
  · exact near_tup (by omega) g trivial
  · exact near_tup (by decide) (fun s hs => by cases hs) sm
  · exact near_tup (by rw [List.length_append, List.length_singleton]; omega) (ga _ (g1 _ (.inr ⟨_, rfl⟩))) sm
  · refine near_tup (by rw [List.length_append, List.length_singleton]; omega) (ga _ fun s hs => ?_) sm
    obtain rfl := List.mem_singleton.mp hs
    intro w j e
    cases e
  · exact near_tup (by rw [List.length_append, List.length_singleton]; omega) (ga _ (g1 _ (.inl ⟨_, rfl⟩))) sm
  · exact near_tup (by rw [List.length_append]; omega) (ga _ g) sm
  · exact near_tup (by rw [List.length_tail]; omega) (fun s hs => g s (List.mem_of_mem_tail hs)) sm
/-! ### a stay that is one -/
theorem isMar_F {k : Int} (h0 : 0 ≤ k) (h : Bk k) : isMar (dF k) = true := by
  have h1 := fnum_bd h
  have h2 := fden_pos k
  have h3 := fden_le k
  obtain ⟨h4, h5⟩ := h1
  have hG : (1000000 : Int) ≤ G60 := by decide +kernel
  show ((isShort (.int (fnum k)) && (isShort (.int (fden k)) && (decide (0 < fden k) && decide (Int.gcd (fnum k) (fden k) = 1)))) && decide (0 ≤ fnum k)) = true
  have a1 : isShort (.int (fnum k)) = true := by
    show (decide (-G60 < fnum k) && decide (fnum k < G60)) = true
    rw [decide_eq_true (show -G60 < fnum k by omega), decide_eq_true (show fnum k < G60 by omega)]; rfl
  have a2 : isShort (.int (fden k)) = true := by
    show (decide (-G60 < fden k) && decide (fden k < G60)) = true
    rw [decide_eq_true (show -G60 < fden k by omega), decide_eq_true (show fden k < G60 by omega)]; rfl
  rw [a1, a2, decide_eq_true h2, decide_eq_true (f_cop k), decide_eq_true (fnum_nn.mpr h0)]
  rfl
theorem stay_is {m : Mach} (hm : MachOk m) {st : List (Int × Int) × Int} (h : StayOk m st) (hf : follow m 0 (st.1.map (·.2)) = true) : isStay m (dStay st) = true := by
  have hb : ∀ k : Int, 0 ≤ k ∧ k ≤ 1000 → Bk k := fun k hk => by constructor <;> omega
  have hl := h.r.len
  have hd := hm.d12
  show (((decide ((st.1.map dStep).length ≤ 20000) && (st.1.map dStep).all isStep) && follow m 0 ((st.1.map dStep).map stIx)) && isMar (dF st.2)) = true
  rw [isMar_F h.w0 (hb _ ⟨h.w0, h.w1⟩), decide_eq_true (by rw [List.length_map]; omega), List.map_map]
  have e : (st.1.map (stIx ∘ dStep)) = st.1.map (·.2) := List.map_congr_left fun x _ => rfl
  rw [e, hf]
  have : (st.1.map dStep).all isStep = true := List.all_eq_true.mpr fun s hs => by
    obtain ⟨x, hx, rfl⟩ := List.mem_map.mp hs
    have h1 := h.r.w x hx
    have h2 := h.r.d x hx
    show (isMar (dF x.1) && (decide (0 ≤ x.2) && decide (x.2 ≤ 11))) = true
    rw [isMar_F h1.1 (hb _ h1), decide_eq_true h2.1, decide_eq_true (by omega)]; rfl
  rw [this]; rfl
/-! ### what a margin asks -/
theorem mx_le {k : Int} {ks : List Int} {e : Int} : mx k ks ≤ e ↔ k ≤ e ∧ ∀ x ∈ ks, x ≤ e := by
  induction ks generalizing k with
  | nil => simp [mx]
  | cons x ks ih =>
    show mx (max k x) ks ≤ e ↔ _
    rw [ih]
    simp only [List.mem_cons, forall_eq_or_imp]
    constructor
    · rintro ⟨h1, h2⟩; exact ⟨by omega, by omega, h2⟩
    · rintro ⟨h1, h2, h3⟩; exact ⟨by omega, h3⟩
theorem mxl_le {l : List Int} {e : Int} (he : 0 ≤ e) : mxl l ≤ e ↔ ∀ x ∈ l, x ≤ e := by
  cases l with
  | nil => simp [mxl, he]
  | cons k ks =>
    show mx k ks ≤ e ↔ _
    rw [mx_le]; simp
def Fit (rd ls : List Int) (e : Int) : Prop := ∀ p ∈ rd.zip ls, p.1 - 12 * p.2 ≤ e
def High (rd : List Int) (gs : List (Int × Int)) (e : Int) : Prop := ∀ p ∈ rd.zip gs, p.1 - 12 * p.2.2 ≤ e
def Low (rd : List Int) (gs : List (Int × Int)) (e : Int) : Prop := ∀ p ∈ rd.zip gs, 12 * p.2.1 - p.1 ≤ e
/-- a door gone through -/
def SF (lm : Int → List Int) (d : Door) (s : Int × List Int) (w e : Int) : Prop :=
  Fit (grownK s.2 w) (lm s.1) e ∧ High (grownK s.2 w) d.gs e ∧ Low (grownK s.2 w) d.gs e ∧ Fit (putB (grownK s.2 w) d.rs) (lm d.goal) e
theorem ovU_le {rd ls : List Int} {e : Int} : (∀ k ∈ ovU rd ls, k ≤ e) ↔ Fit rd ls e := by unfold ovU Fit; simp only [List.mem_map, forall_exists_index, and_imp, forall_apply_eq_imp_iff₂]
theorem ovH_le {rd : List Int} {gs : List (Int × Int)} {e : Int} : (∀ k ∈ ovU rd (gs.map (·.2)), k ≤ e) ↔ High rd gs e := by
  rw [ovU_le]
  unfold Fit High
  rw [List.zip_map_right]
  simp only [List.mem_map, forall_exists_index, and_imp, forall_apply_eq_imp_iff₂, Prod.map, id]
theorem lwU_le {rd : List Int} {gs : List (Int × Int)} {e : Int} : (∀ k ∈ lwU rd gs, k ≤ e) ↔ Low rd gs e := by unfold lwU Low; simp only [List.mem_map, forall_exists_index, and_imp, forall_apply_eq_imp_iff₂]
theorem missU_le {m : Mach} {s : Int × List Int} {x : Int × Int} {e : Int} : (∀ k ∈ missU m s x, k ≤ e) ↔ SF (lim m) (door m x.2) s x.1 e := by
  unfold missU SF
  simp only [List.mem_append, or_imp, forall_and]
  rw [ovU_le, ovH_le, lwU_le, ovU_le]
  constructor
  · rintro ⟨⟨⟨h1, h2⟩, h3⟩, h4⟩; exact ⟨h1, h2, h3, h4⟩
  · rintro ⟨h1, h2, h3, h4⟩; exact ⟨⟨⟨h1, h2⟩, h3⟩, h4⟩
theorem abv_le {k b e : Int} (he : 0 ≤ e) : abv k b ≤ e ↔ k - 12 * b ≤ e := by unfold abv; omega
theorem blw_le {k b e : Int} (he : 0 ≤ e) : blw k b ≤ e ↔ 12 * b - k ≤ e := by unfold blw; omega
theorem overs_le {rd ls : List Int} {e : Int} (he : 0 ≤ e) : (∀ k ∈ overs rd ls, k ≤ e) ↔ Fit rd ls e := by unfold overs Fit; simp only [List.mem_map, forall_exists_index, and_imp, forall_apply_eq_imp_iff₂, abv_le he]
theorem lows_le {rd : List Int} {gs : List (Int × Int)} {e : Int} (he : 0 ≤ e) : (∀ k ∈ lows rd gs, k ≤ e) ↔ Low rd gs e := by unfold lows Low; simp only [List.mem_map, forall_exists_index, and_imp, forall_apply_eq_imp_iff₂, blw_le he]
theorem highs_le {rd : List Int} {gs : List (Int × Int)} {e : Int} (he : 0 ≤ e) : (∀ k ∈ highs rd gs, k ≤ e) ↔ High rd gs e := by unfold highs High; simp only [List.mem_map, forall_exists_index, and_imp, forall_apply_eq_imp_iff₂, abv_le he]
theorem four_le {m : Mach} {s : Int × List Int} {x : Int × Int} {e : Int} (he : 0 ≤ e) : (∀ k ∈ (four m s x).map mxl, k ≤ e) ↔ SF (lim m) (door m x.2) s x.1 e := by
  unfold four SF
  simp only [List.map_cons, List.map_nil, List.mem_cons, List.not_mem_nil, or_false, forall_eq_or_imp, forall_eq, mxl_le he]
  rw [overs_le he, lows_le he, highs_le he, overs_le he]
  constructor
  · rintro ⟨h1, h2, h3, h4⟩; exact ⟨h1, h3, h2, h4⟩
  · rintro ⟨h1, h2, h3, h4⟩; exact ⟨h1, h3, h2, h4⟩
def Goes (m : Mach) (e rest : Int) : Int × List Int → List (Int × Int) → Prop
  | s, [] => Fit (grownK s.2 rest) (lim m s.1) e
  | s, x :: xs => SF (lim m) (door m x.2) s x.1 e ∧ Goes m e rest (stp m s x) xs
theorem goes_iff {m : Mach} {e rest : Int} : ∀ (run : List (Int × Int)) (s : Int × List Int),
    ((∀ (i : Nat) (x : Int × Int), run[i]? = some x → SF (lim m) (door m x.2) ((run.take i).foldl (stp m) s) x.1 e) ∧ Fit (grownK (run.foldl (stp m) s).2 rest) (lim m (run.foldl (stp m) s).1) e) ↔ Goes m e rest s run
  | [], s => by simp [Goes]
  | x :: xs, s => by
    rw [Goes, ← goes_iff xs (stp m s x)]
    constructor
    · rintro ⟨h1, h2⟩
      exact ⟨h1 0 x rfl, fun i y hy => by have := h1 (i + 1) y (by simpa using hy); simpa using this, h2⟩
    · rintro ⟨h1, h2, h3⟩
      refine ⟨fun i y hy => ?_, h3⟩
      cases i with
      | zero => simp at hy; subst hy; exact h1
      | succ i => have := h2 i y (by simpa using hy); simpa using this
theorem zi_all {α : Type} {l : List α} {P : α → Nat → Prop} : (∀ q ∈ l.zipIdx, P q.1 q.2) ↔ ∀ (i : Nat) (x : α), l[i]? = some x → P x i := by
  constructor
  · intro h i x hx
    exact h (x, i) (List.mem_zipIdx_iff_getElem?.mpr hx)
  · intro h q hq
    exact h q.2 q.1 (List.mem_zipIdx_iff_getElem?.mp (show (q.1, q.2) ∈ l.zipIdx from hq))
theorem stf_all (m : Mach) (run : List (Int × Int)) : stf m run run.length = run.foldl (stp m) (st0 m) := by unfold stf; rw [List.take_length]
theorem lneed_le {m : Mach} {st : List (Int × Int) × Int} {e : Int} : lneed m st ≤ e ↔ 0 ≤ e ∧ Goes m e st.2 (st0 m) st.1 := by
  unfold lneed
  rw [mx_le, ← goes_iff, stf_all]
  simp only [List.mem_cons, forall_eq_or_imp]
  rw [ovU_le]
  unfold wneed
  rw [mx_le]
  have : (∀ k ∈ missAll m st.1, k ≤ e) ↔ ∀ (i : Nat) (x : Int × Int), st.1[i]? = some x → SF (lim m) (door m x.2) ((st.1.take i).foldl (stp m) (st0 m)) x.1 e := by
    rw [← zi_all (l := st.1) (P := fun (x : Int × Int) (i : Nat) => SF (lim m) (door m x.2) ((st.1.take i).foldl (stp m) (st0 m)) x.1 e)]
    unfold missAll
    simp only [List.mem_flatMap]
    constructor
    · intro h q hq
      exact missU_le.mp fun k hk => h k ⟨q, hq, hk⟩
    · rintro h k ⟨q, hq, hk⟩
      exact missU_le.mpr (h q hq) k hk
  rw [this]
  constructor
  · rintro ⟨h1, ⟨h2, h3⟩, h4⟩; exact ⟨h1, h3, h4⟩
  · rintro ⟨h1, h3, h4⟩; exact ⟨h1, ⟨h1, h3⟩, h4⟩
theorem need_le {m : Mach} {run : List (Int × Int)} {e : Int} : need m run ≤ e ↔ 0 ≤ e ∧ ∀ q ∈ run.zipIdx, ∀ k ∈ (four m (stf m run q.2) q.1).map mxl, k ≤ e := by
  unfold need
  have aux : ∀ (l : List ((Int × Int) × Nat)) (a : Int), l.foldl (fun acc q => mx acc ((four m (stf m run q.2) q.1).map mxl)) a ≤ e ↔ a ≤ e ∧ ∀ q ∈ l, ∀ k ∈ (four m (stf m run q.2) q.1).map mxl, k ≤ e := by
    intro l
    induction l with
    | nil => intro a; simp
    | cons q l ih =>
      intro a
      rw [List.foldl_cons, ih, mx_le]
      simp only [List.mem_cons, forall_eq_or_imp]
      constructor
      · rintro ⟨⟨h1, h2⟩, h3⟩; exact ⟨h1, h2, h3⟩
      · rintro ⟨h1, h2, h3⟩; exact ⟨⟨h1, h2⟩, h3⟩
  exact aux _ 0
theorem stayNeed_le {m : Mach} {st : List (Int × Int) × Int} {e : Int} : stayNeed m st ≤ e ↔ 0 ≤ e ∧ Goes m e st.2 (st0 m) st.1 := by
  unfold stayNeed
  rw [mx_le, ← goes_iff, stf_all, need_le]
  constructor
  · rintro ⟨⟨h0, h1⟩, h2⟩
    refine ⟨h0, ?_, (overs_le h0).mp h2⟩
    rw [← zi_all (l := st.1) (P := fun (x : Int × Int) (i : Nat) => SF (lim m) (door m x.2) ((st.1.take i).foldl (stp m) (st0 m)) x.1 e)]
    exact fun q hq => (four_le h0).mp (h1 q hq)
  · rintro ⟨h0, h1, h2⟩
    rw [← zi_all (l := st.1) (P := fun (x : Int × Int) (i : Nat) => SF (lim m) (door m x.2) ((st.1.take i).foldl (stp m) (st0 m)) x.1 e)] at h1
    exact ⟨⟨h0, fun q hq => (four_le h0).mpr (h1 q hq)⟩, (overs_le h0).mpr h2⟩
theorem need_eq (m : Mach) (st : List (Int × Int) × Int) : stayNeed m st = lneed m st :=
  Int.le_antisymm (stayNeed_le.mpr (lneed_le.mp (Int.le_refl _))) (lneed_le.mpr (stayNeed_le.mp (Int.le_refl _)))
/-! ### readings of two sides -/
theorem grown_grown (rd : List Int) (p w : Int) : grownK (grownK rd p) w = grownK rd (p + w) := by
  unfold grownK
  rw [List.map_map]
  exact List.map_congr_left fun x _ => by show x + p + w = x + (p + w); omega
theorem grown_zero (rd : List Int) : grownK rd 0 = rd := by
  unfold grownK
  have : rd.map (· + 0) = rd.map id := List.map_congr_left fun x _ => by show x + 0 = x; omega
  rw [this, List.map_id]
theorem grown_app (a b : List Int) (w : Int) : grownK (a ++ b) w = grownK a w ++ grownK b w := by unfold grownK; rw [List.map_append]
theorem grown_mem {rd : List Int} {w : Int} (h : ∀ k ∈ rd, 0 ≤ k) (hw : 0 ≤ w) : ∀ k ∈ grownK rd w, 0 ≤ k := by
  intro k hk
  obtain ⟨x, hx, rfl⟩ := List.mem_map.mp hk
  have := h x hx
  show 0 ≤ x + w
  omega
theorem putB_mem {rd rs : List Int} (h : ∀ k ∈ rd, 0 ≤ k) : ∀ k ∈ putB rd rs, 0 ≤ k := by
  intro k hk
  obtain ⟨q, hq, rfl⟩ := List.mem_map.mp hk
  have := h q.1 (zi_mem hq)
  show 0 ≤ (if (q.2 : Int) ∈ rs then 0 else q.1)
  split <;> omega
theorem putB_app {a b rs1 rs2 : List Int} (h1 : ∀ r ∈ rs1, r < a.length) (h2 : ∀ r ∈ rs2, 0 ≤ r) : putB (a ++ b) (rs1 ++ shiftK a.length rs2) = putB a rs1 ++ putB b rs2 := by
  unfold putB
  rw [List.zipIdx_append, List.map_append]
  congr 1
  · refine List.map_congr_left fun q hq => ?_
    have hlt : q.2 < a.length := by
      have := zi_at hq
      exact (List.getElem?_eq_some_iff.mp this).1
    have : ((q.2 : Int) ∈ rs1 ++ shiftK a.length rs2) ↔ (q.2 : Int) ∈ rs1 := by
      rw [List.mem_append]
      refine ⟨fun h => h.elim id fun h => ?_, .inl⟩
      obtain ⟨x, hx, e⟩ := List.mem_map.mp h
      have := h2 x hx
      omega
    by_cases q1 : (q.2 : Int) ∈ rs1
    · rw [if_pos q1, if_pos (this.mpr q1)]
    · rw [if_neg q1, if_neg fun z => q1 (this.mp z)]
  · rw [Nat.zero_add, List.zipIdx_eq_map_add, List.map_map]
    refine List.map_congr_left fun q hq => ?_
    have : (((a.length + q.2 : Nat) : Int) ∈ rs1 ++ shiftK a.length rs2) ↔ (q.2 : Int) ∈ rs2 := by
      rw [List.mem_append]
      constructor
      · rintro (h | h)
        · have := h1 _ h
          omega
        · obtain ⟨x, hx, e⟩ := List.mem_map.mp h
          rw [show (q.2 : Int) = x by omega]
          exact hx
      · intro h
        exact .inr (List.mem_map.mpr ⟨_, h, by omega⟩)
    by_cases q1 : (q.2 : Int) ∈ rs2
    · rw [if_pos q1]
      exact if_pos (this.mpr q1)
    · rw [if_neg q1]
      exact if_neg fun z => q1 (this.mp z)
theorem div_uniq {a b c d n : Int} (h1 : 0 ≤ b) (h2 : b < n) (h3 : 0 ≤ d) (h4 : d < n) (e : a * n + b = c * n + d) : a = c ∧ b = d := by
  have hn : n ≠ 0 := by omega
  have e1 : (a * n + b) / n = a := by rw [Int.add_comm, Int.add_mul_ediv_right _ _ hn, Int.ediv_eq_zero_of_lt h1 h2]; omega
  have e2 : (c * n + d) / n = c := by rw [Int.add_comm, Int.add_mul_ediv_right _ _ hn, Int.ediv_eq_zero_of_lt h3 h4]; omega
  have : a = c := by rw [← e1, e, e2]
  subst this
  exact ⟨rfl, by omega⟩
theorem fm_get {α β γ : Type} (f : α → β → γ) {m : List β} {y : β} {j : Nat} (hj : m[j]? = some y) : ∀ {l : List α} {i : Nat} {x : α}, l[i]? = some x → (l.flatMap fun h => m.map (f h))[i * m.length + j]? = some (f x y)
  | [], i, x, h => by simp at h
  | z :: l, 0, x, h => by
    simp only [List.getElem?_cons_zero, Option.some.injEq] at h
    subst h
    have hl : j < m.length := (List.getElem?_eq_some_iff.mp hj).1
    rw [List.flatMap_cons, Nat.zero_mul, Nat.zero_add, List.getElem?_append_left (by rw [List.length_map]; exact hl), List.getElem?_map, hj]
    rfl
  | z :: l, i + 1, x, h => by
    have h : l[i]? = some x := by simpa using h
    have ih := fm_get f hj (l := l) h
    rw [List.flatMap_cons, List.getElem?_append_right (by rw [List.length_map, Nat.succ_mul]; omega), List.length_map, show (i + 1) * m.length + j - m.length = i * m.length + j by rw [Nat.succ_mul]; omega]
    exact ih
theorem lim_net {one other : Mach} {sh : List (Int × Int)} {a b : Int} (a0 : 0 ≤ a) (a1 : a.toNat < one.lims.length) (b0 : 0 ≤ b) (b1 : b.toNat < other.lims.length) :
    lim (nMach one other sh) (a * (other.lims.length : Int) + b) = lim one a ++ lim other b := by
  have h := fm_get (fun h t : List Int => h ++ t) (lim_get b1) (lim_get a1)
  have e : (a * (other.lims.length : Int) + b).toNat = a.toNat * other.lims.length + b.toNat := by
    obtain ⟨n, rfl⟩ : ∃ n : Nat, a = n := ⟨a.toNat, by omega⟩
    obtain ⟨k, rfl⟩ : ∃ n : Nat, b = n := ⟨b.toNat, by omega⟩
    have : ((n : Int) * (other.lims.length : Int) + (k : Int)) = ((n * other.lims.length + k : Nat) : Int) := by simp
    rw [this, Int.toNat_natCast, Int.toNat_natCast, Int.toNat_natCast]
  unfold lim
  rw [e]
  show ((nLims one other)[_]?).getD [] = _
  unfold nLims
  rw [h]
  rfl
/-! ### bounds of two sides -/
theorem fit_app {a b l1 l2 : List Int} {e : Int} (h : a.length = l1.length) : Fit (a ++ b) (l1 ++ l2) e ↔ Fit a l1 e ∧ Fit b l2 e := by
  unfold Fit
  rw [List.zip_append h]
  simp only [List.mem_append, or_imp, forall_and]
theorem high_app {a b : List Int} {g1 g2 : List (Int × Int)} {e : Int} (h : a.length = g1.length) : High (a ++ b) (g1 ++ g2) e ↔ High a g1 e ∧ High b g2 e := by
  unfold High
  rw [List.zip_append h]
  simp only [List.mem_append, or_imp, forall_and]
theorem low_app {a b : List Int} {g1 g2 : List (Int × Int)} {e : Int} (h : a.length = g1.length) : Low (a ++ b) (g1 ++ g2) e ↔ Low a g1 e ∧ Low b g2 e := by
  unfold Low
  rw [List.zip_append h]
  simp only [List.mem_append, or_imp, forall_and]
theorem fit_mono {rd ls : List Int} {w e : Int} (hw : 0 ≤ w) (h : Fit (grownK rd w) ls e) : Fit rd ls e := by
  intro p hp
  have : (p.1 + w, p.2) ∈ (grownK rd w).zip ls := by
    unfold grownK
    rw [List.zip_map_left]
    exact List.mem_map.mpr ⟨p, hp, rfl⟩
  have := h _ this
  dsimp only at this
  omega
theorem fit_less {rd ls : List Int} {p q e : Int} (hq : p ≤ q) (h : Fit (grownK rd q) ls e) : Fit (grownK rd p) ls e := by
  have : grownK rd q = grownK (grownK rd p) (q - p) := by rw [grown_grown]; congr 1; omega
  rw [this] at h
  exact fit_mono (by omega) h
/-- a side that stands still -/
def idle (c : Nat) (t : Int) : Door := ⟨t, freeG c, [], t⟩
def comb (c : Nat) (n : Int) (d1 d2 : Door) : Door := ⟨d1.room * n + d2.room, d1.gs ++ d2.gs, d1.rs ++ shiftK c d2.rs, d1.goal * n + d2.goal⟩
theorem zip_rep {rd : List Int} {g : Int × Int} {c : Nat} {p : Int × (Int × Int)} (h : p ∈ rd.zip (List.replicate c g)) : p.1 ∈ rd ∧ p.2 = g :=
  ⟨(zip_b h).1, List.eq_of_mem_replicate (zip_b h).2⟩
theorem idle_sf {lm : Int → List Int} {c : Nat} {t : Int} {rd : List Int} {w e : Int} (hl : rd.length = (lm t).length) (hb : ∀ x ∈ lm t, x ≤ 4) (h0 : ∀ k ∈ rd, 0 ≤ k) (hw : 0 ≤ w) (he : 0 ≤ e) : SF lm (idle c t) (t, rd) w e ↔ Fit (grownK rd w) (lm t) e := by
  have hp : putB (grownK rd w) [] = grownK rd w := by
    unfold putB
    have : ((grownK rd w).zipIdx.map fun q : Int × Nat => if (q.2 : Int) ∈ ([] : List Int) then 0 else q.1) = (grownK rd w).zipIdx.map Prod.fst := List.map_congr_left fun q _ => by simp
    rw [this, List.zipIdx_map_fst]
  unfold SF idle
  dsimp only
  rw [hp]
  constructor
  · exact fun h => h.1
  · intro h
    refine ⟨h, fun p hp => ?_, fun p hp => ?_, h⟩
    · obtain ⟨h1, h2⟩ := zip_rep hp
      obtain ⟨i, hi⟩ := List.mem_iff_getElem?.mp h1
      have hil : i < (grownK rd w).length := (List.getElem?_eq_some_iff.mp hi).1
      rw [grownK_len, hl] at hil
      have hz : ((grownK rd w).zip (lm t))[i]? = some (p.1, (lm t)[i]) := by
        rw [List.getElem?_zip_eq_some]
        exact ⟨hi, List.getElem?_eq_getElem hil⟩
      have := h _ (List.mem_of_getElem? hz)
      have h4 := hb _ (List.getElem_mem hil)
      rw [h2]
      dsimp only at this ⊢
      omega
    · obtain ⟨h1, h2⟩ := zip_rep hp
      have := grown_mem h0 hw _ h1
      rw [h2]
      dsimp only
      omega
theorem comb_sf {one other : Mach} {sh : List (Int × Int)} {d1 d2 : Door} {A B : List Int} {w e : Int} (hA : A.length = one.cl) (hB : B.length = other.cl)
    (m1 : MachOk one) (m2 : MachOk other) (k1 : DoorOk one.cl one.lims.length d1) (k2 : DoorOk other.cl other.lims.length d2) :
    SF (lim (nMach one other sh)) (comb one.cl (other.lims.length : Int) d1 d2) (d1.room * (other.lims.length : Int) + d2.room, A ++ B) w e ↔ SF (lim one) d1 (d1.room, A) w e ∧ SF (lim other) d2 (d2.room, B) w e := by
  have r1 := k1.r0
  have r2 := k2.r0
  have r3 := k1.r1
  have r4 := k2.r1
  have g1 := k1.o0
  have g2 := k2.o0
  have g3 := k1.o1
  have g4 := k2.o1
  unfold SF comb
  dsimp only
  rw [lim_net r1 (by omega) r2 (by omega), lim_net g1 (by omega) g2 (by omega), grown_app]
  have lA : (grownK A w).length = one.cl := by rw [grownK_len]; exact hA
  have pe := putB_app (a := grownK A w) (b := grownK B w) (rs1 := d1.rs) (rs2 := d2.rs) (fun r hr => by rw [lA]; exact (k1.rs r hr).2) (fun r hr => (k2.rs r hr).1)
  rw [lA] at pe
  rw [pe, fit_app (by rw [lA, lim_len m1 (by omega)]), high_app (by rw [lA, k1.gl]), low_app (by rw [lA, k1.gl]), fit_app (by rw [putB_len, lA, lim_len m1 (by omega)])]
  constructor
  · rintro ⟨⟨a1, a2⟩, ⟨b1, b2⟩, ⟨c1, c2⟩, e1, e2⟩
    exact ⟨⟨a1, b1, c1, e1⟩, a2, b2, c2, e2⟩
  · rintro ⟨⟨a1, b1, c1, e1⟩, a2, b2, c2, e2⟩
    exact ⟨⟨a1, a2⟩, ⟨b1, b2⟩, ⟨c1, c2⟩, e1, e2⟩
/-! ### what a net's door is -/
/-- the door of a side, gone through or not -/
def sdoor (m : Mach) (o : Option Int) (t : Int) : Door := match o with
  | some i => door m i
  | none => idle m.cl t
structure Kind (one other : Mach) (o : Option Int × Option Int) (d : Door) : Prop where
  a : ∀ i, o.1 = some i → 0 ≤ i ∧ i.toNat < one.doors.length
  b : ∀ i, o.2 = some i → 0 ≤ i ∧ i.toNat < other.doors.length
  c : ∃ t u : Nat, t < one.lims.length ∧ u < other.lims.length ∧ d = comb one.cl (other.lims.length : Int) (sdoor one o.1 t) (sdoor other o.2 u)
def AllK (one other : Mach) : List (Option Int × Option Int) → List Door → Prop
  | [], [] => True
  | o :: os, d :: ds => Kind one other o d ∧ AllK one other os ds
  | _, _ => False
theorem AllK.append {one other : Mach} : ∀ {os ps : List (Option Int × Option Int)} {ds es : List Door}, AllK one other os ds → AllK one other ps es → AllK one other (os ++ ps) (ds ++ es)
  | [], _, [], _, _, h => h
  | _ :: _, _, _ :: _, _, ⟨h, t⟩, k => ⟨h, AllK.append t k⟩
  | [], _, _ :: _, _, h, _ => h.elim
  | _ :: _, _, [], _, h, _ => h.elim
theorem AllK.get {one other : Mach} : ∀ {os : List (Option Int × Option Int)} {ds : List Door} {i : Nat} {o : Option Int × Option Int} {d : Door}, AllK one other os ds → os[i]? = some o → ds[i]? = some d → Kind one other o d
  | o :: _, d :: _, 0, _, _, ⟨h, _⟩, e, e' => by simp at e e'; subst e e'; exact h
  | _ :: os, _ :: ds, i + 1, _, _, ⟨_, t⟩, e, e' => AllK.get (i := i) t (by simpa using e) (by simpa using e')
  | [], [], _, _, _, _, e, _ => by simp at e
  | [], _ :: _, _, _, _, h, _, _ => h.elim
  | _ :: _, [], _, _, _, h, _, _ => h.elim
theorem AllK.maps {one other : Mach} {α : Type} {f : α → Option Int × Option Int} {g : α → Door} : ∀ {l : List α}, (∀ x ∈ l, Kind one other (f x) (g x)) → AllK one other (l.map f) (l.map g)
  | [], _ => trivial
  | x :: l, h => ⟨h x List.mem_cons_self, AllK.maps fun y hy => h y (List.mem_cons_of_mem _ hy)⟩
theorem rep_map {α β : Type} (l : List α) (b : β) {n : Nat} (h : l.length = n) : List.replicate n b = l.map fun _ => b := by
  subst h; rw [List.map_const']
theorem k_first {one other : Mach} (h1 : MachOk one) {i : Nat} (hi : i < one.doors.length) : AllK one other (List.replicate other.lims.length (some (i : Int), none)) (firstD one other i) := by
  rw [rep_map (List.range other.lims.length) _ List.length_range]
  refine AllK.maps fun t ht => ⟨fun j e => ?_, fun j e => (nomatch e), 0, t, h1.l1, List.mem_range.mp ht, ?_⟩
  · cases e
    exact ⟨by omega, by simpa using hi⟩
  · show _ = Door.mk _ _ ((door one i).rs ++ []) _
    rw [List.append_nil]
    rfl
theorem k_last {one other : Mach} (h2 : MachOk other) {i : Nat} (hi : i < other.doors.length) : AllK one other (List.replicate one.lims.length (none, some (i : Int))) (lastD one other i) := by
  rw [rep_map (List.range one.lims.length) _ List.length_range]
  refine AllK.maps fun t ht => ⟨fun j e => (nomatch e), fun j e => ?_, t, 0, List.mem_range.mp ht, h2.l1, rfl⟩
  cases e
  exact ⟨by omega, by simpa using hi⟩
theorem k_A {one other : Mach} {sh : List (Int × Int)} (h1 : MachOk one) : ∀ n, n ≤ one.doors.length → AllK one other (sA one other sh n) (dA one other sh n)
  | 0, _ => trivial
  | n + 1, h => by
    rw [sA_succ, dA_succ]
    refine (k_A h1 n (by omega)).append ?_
    by_cases q : (n : Int) ∈ sh.map (·.1)
    · rw [if_pos q, if_pos q]; trivial
    · rw [if_neg q, if_neg q]; exact k_first h1 (by omega)
theorem k_B {one other : Mach} {sh : List (Int × Int)} (h2 : MachOk other) : ∀ n, n ≤ other.doors.length → AllK one other (sB one other sh n) (dB one other sh n)
  | 0, _ => trivial
  | n + 1, h => by
    rw [sB_succ, dB_succ]
    refine (k_B h2 n (by omega)).append ?_
    by_cases q : (n : Int) ∈ sh.map (·.2)
    · rw [if_pos q, if_pos q]; trivial
    · rw [if_neg q, if_neg q]; exact k_last h2 (by omega)
theorem k_all {one other : Mach} {sh : List (Int × Int)} (h : NetIn one other sh) : AllK one other (nSides one other sh) (nDoors one other sh) := by
  unfold nSides nDoors
  refine ((k_A h.h1 _ (Nat.le_refl _)).append (k_B h.h2 _ (Nat.le_refl _))).append ?_
  refine AllK.maps fun p hp => ⟨fun i e => ?_, fun i e => ?_, 0, 0, h.h1.l1, h.h2.l1, rfl⟩
  · cases e; exact h.s1 p hp
  · cases e; exact h.s2 p hp
theorem kind_at {one other : Mach} {sh : List (Int × Int)} (h : NetIn one other sh) {i : Int} (hi : i.toNat < (nDoors one other sh).length) : Kind one other (sdAt (nSides one other sh) i) (door (nMach one other sh) i) :=
  (k_all h).get (sdAt_get (by rw [nSides_len]; exact hi)) (door_get (m := nMach one other sh) hi)
/-! ### what is left of a side -/
def sideR (sides : List (Option Int × Option Int)) (s : Bool) : Int → List (Int × Int) → List (Int × Int) × Int
  | p, [] => ([], p)
  | p, x :: xs => match sd (sdAt sides x.2) s with
    | some i => ((p + x.1, i) :: (sideR sides s 0 xs).1, (sideR sides s 0 xs).2)
    | none => sideR sides s (p + x.1) xs
theorem sideR_fold {sides : List (Option Int × Option Int)} {s : Bool} : ∀ (xs : List (Int × Int)) (acc : List (Int × Int)) (p : Int), xs.foldl (stepSide sides s) (acc, p) = (acc ++ (sideR sides s p xs).1, (sideR sides s p xs).2)
  | [], acc, p => by simp [sideR]
  | x :: xs, acc, p => by
    rw [List.foldl_cons, sideR]
    cases q : sd (sdAt sides x.2) s with
    | some i =>
      have e : stepSide sides s (acc, p) x = (acc ++ [(p + x.1, i)], 0) := by unfold stepSide; rw [q]
      rw [e, sideR_fold xs]; simp
    | none =>
      have e : stepSide sides s (acc, p) x = (acc, p + x.1) := by unfold stepSide; rw [q]
      rw [e, sideR_fold xs]
theorem sideStay_R {sides : List (Option Int × Option Int)} {s : Bool} {st : List (Int × Int) × Int} : sideStay sides s st = ((sideR sides s 0 st.1).1, (sideR sides s 0 st.1).2 + st.2) := by
  unfold sideStay
  rw [sideR_fold]; rfl
theorem sideR_sum {sides : List (Option Int × Option Int)} {s : Bool} : ∀ (xs : List (Int × Int)) (p : Int), ((sideR sides s p xs).1.map (·.1)).sum + (sideR sides s p xs).2 = p + (xs.map (·.1)).sum
  | [], p => by simp [sideR]
  | x :: xs, p => by
    rw [sideR]
    cases sd (sdAt sides x.2) s with
    | some i =>
      have := sideR_sum (sides := sides) (s := s) xs 0
      dsimp only
      simp only [List.map_cons, List.sum_cons]
      omega
    | none =>
      have := sideR_sum (sides := sides) (s := s) xs (p + x.1)
      dsimp only
      simp only [List.map_cons, List.sum_cons]
      omega
theorem sideR_b {sides : List (Option Int × Option Int)} {s : Bool} : ∀ (xs : List (Int × Int)) (p : Int), 0 ≤ p → (∀ x ∈ xs, 0 ≤ x.1) → (∀ x ∈ (sideR sides s p xs).1, 0 ≤ x.1) ∧ 0 ≤ (sideR sides s p xs).2 ∧ (sideR sides s p xs).1.length ≤ xs.length
  | [], p, hp, _ => ⟨fun x h => by simp [sideR] at h, hp, Nat.le_refl _⟩
  | x :: xs, p, hp, h => by
    have hx := h x List.mem_cons_self
    have ht : ∀ y ∈ xs, 0 ≤ y.1 := fun y hy => h y (List.mem_cons_of_mem _ hy)
    rw [sideR]
    cases sd (sdAt sides x.2) s with
    | some i =>
      obtain ⟨h1, h2, h3⟩ := sideR_b (sides := sides) (s := s) xs 0 (Int.le_refl _) ht
      refine ⟨fun y hy => ?_, h2, by dsimp only; rw [List.length_cons, List.length_cons]; omega⟩
      rcases List.mem_cons.mp hy with rfl | hy
      · show 0 ≤ p + x.1
        omega
      · exact h1 y hy
    | none =>
      obtain ⟨h1, h2, h3⟩ := sideR_b (sides := sides) (s := s) xs (p + x.1) (by omega) ht
      exact ⟨h1, h2, by dsimp only; rw [List.length_cons]; omega⟩
theorem goes_fit {sides : List (Option Int × Option Int)} {s : Bool} {m : Mach} {e rest : Int} (hr : 0 ≤ rest) : ∀ (xs : List (Int × Int)) (p : Int) (S : Int × List Int), (∀ x ∈ xs, 0 ≤ x.1) → Goes m e ((sideR sides s p xs).2 + rest) S (sideR sides s p xs).1 → Fit (grownK S.2 p) (lim m S.1) e
  | [], p, S, _, h => fit_less (q := p + rest) (by omega) h
  | x :: xs, p, S, hx, h => by
    have h0 := hx x List.mem_cons_self
    have ht : ∀ y ∈ xs, 0 ≤ y.1 := fun y hy => hx y (List.mem_cons_of_mem _ hy)
    rw [sideR] at h
    cases q : sd (sdAt sides x.2) s with
    | some i =>
      rw [q] at h
      exact fit_less (q := p + x.1) (by omega) h.1.1
    | none =>
      rw [q] at h
      exact fit_less (q := p + x.1) (by omega) (goes_fit hr xs (p + x.1) S ht h)
/-! ### a net and its sides, step by step -/
structure Sim (one other : Mach) (N S1 S2 : Int × List Int) (p1 p2 : Int) : Prop where
  r : N.1 = S1.1 * (other.lims.length : Int) + S2.1
  d : N.2 = grownK S1.2 p1 ++ grownK S2.2 p2
  l1 : S1.2.length = one.cl
  l2 : S2.2.length = other.cl
  a0 : 0 ≤ S1.1
  a1 : S1.1.toNat < one.lims.length
  b0 : 0 ≤ S2.1
  b1 : S2.1.toNat < other.lims.length
  n1 : ∀ k ∈ S1.2, 0 ≤ k
  n2 : ∀ k ∈ S2.2, 0 ≤ k
  w1 : 0 ≤ p1
  w2 : 0 ≤ p2
theorem sdoor_ok {m : Mach} (hm : MachOk m) {o : Option Int} {t : Nat} (h : ∀ i, o = some i → 0 ≤ i ∧ i.toNat < m.doors.length) (ht : t < m.lims.length) : DoorOk m.cl m.lims.length (sdoor m o t) := by
  cases o with
  | some i => exact door_ok hm (h i rfl).2
  | none =>
    refine ⟨?_, ?_, ?_, ?_, fun r hr => (nomatch hr), .nil, ?_, ?_⟩
    · show (0 : Int) ≤ (t : Int); omega
    · show (t : Int) < (m.lims.length : Int); omega
    · show (freeG m.cl).length = m.cl; simp [freeG]
    · intro g hg
      have := List.eq_of_mem_replicate hg
      subst this
      decide
    · show (0 : Int) ≤ (t : Int); omega
    · show (t : Int) < (m.lims.length : Int); omega
/-- a side's state, and what waits, behind a step of the net -/
def adv (m : Mach) (o : Option Int) (S : Int × List Int) (p : Int) : (Int × List Int) × Int := match o with
  | some i => (stp m S (p, i), 0)
  | none => (S, p)
def okSF (m : Mach) (o : Option Int) (S : Int × List Int) (p e : Int) : Prop := match o with
  | some i => SF (lim m) (door m i) S p e
  | none => Fit (grownK S.2 p) (lim m S.1) e
theorem putB_nil (rd : List Int) : putB rd [] = rd := by
  unfold putB
  have : (rd.zipIdx.map fun q : Int × Nat => if (q.2 : Int) ∈ ([] : List Int) then 0 else q.1) = rd.zipIdx.map Prod.fst := List.map_congr_left fun q _ => by simp
  rw [this, List.zipIdx_map_fst]
/-- one side's share -/
structure Share (m : Mach) (o : Option Int) (S : Int × List Int) (p : Int) (d : Door) : Prop where
  room : d.room = S.1
  goal : d.goal = (adv m o S p).1.1
  rd : putB (grownK S.2 p) d.rs = grownK (adv m o S p).1.2 (adv m o S p).2
  sf : ∀ e, 0 ≤ e → (SF (lim m) d (S.1, grownK S.2 0) p e ↔ okSF m o S p e)
theorem share {m : Mach} (hm : MachOk m) {o : Option Int} {t : Nat} {S : Int × List Int} {p : Int} (h : ∀ i, o = some i → 0 ≤ i ∧ i.toNat < m.doors.length) (hr : (sdoor m o t).room = S.1) (hl : S.2.length = m.cl) (h0 : 0 ≤ S.1) (h1 : S.1.toNat < m.lims.length) (hn : ∀ k ∈ S.2, 0 ≤ k) (hp : 0 ≤ p) :
    Share m o S p (sdoor m o t) := by
  cases o with
  | some i =>
    refine ⟨hr, rfl, ?_, fun e he => ?_⟩
    · show _ = grownK _ 0
      rw [grown_zero]
      rfl
    · rw [grown_zero]
      exact Iff.rfl
  | none =>
    have ht : (t : Int) = S.1 := hr
    refine ⟨hr, ht, ?_, fun e he => ?_⟩
    · show putB _ [] = _
      rw [putB_nil]
      rfl
    · rw [grown_zero]
      show SF (lim m) (idle m.cl (t : Int)) (S.1, S.2) p e ↔ _
      rw [ht]
      exact idle_sf (by rw [hl, lim_len hm h1]) (fun x hx => (lim_b hm h1 x hx).2) hn hp he
theorem SF_congr {lm : Int → List Int} {d : Door} {r : Int} {rd : List Int} {p w e : Int} : SF lm d (r, grownK rd p) w e ↔ SF lm d (r, grownK rd 0) (p + w) e := by
  unfold SF
  dsimp only
  rw [grown_grown, grown_grown]
  rw [Int.zero_add]
theorem adv_ok {m : Mach} (hm : MachOk m) {o : Option Int} {S : Int × List Int} {p : Int} (h : ∀ i, o = some i → 0 ≤ i ∧ i.toNat < m.doors.length) (hl : S.2.length = m.cl) (h0 : 0 ≤ S.1) (h1 : S.1.toNat < m.lims.length) (hn : ∀ k ∈ S.2, 0 ≤ k) (hp : 0 ≤ p) :
    (adv m o S p).1.2.length = m.cl ∧ 0 ≤ (adv m o S p).1.1 ∧ (adv m o S p).1.1.toNat < m.lims.length ∧ (∀ k ∈ (adv m o S p).1.2, 0 ≤ k) ∧ 0 ≤ (adv m o S p).2 := by
  cases o with
  | some i =>
    have hk := door_ok hm (h i rfl).2
    have g0 := hk.o0
    have g1 := hk.o1
    refine ⟨?_, g0, ?_, ?_, Int.le_refl _⟩
    · show (putB (grownK S.2 p) _).length = _
      rw [putB_len, grownK_len, hl]
    · show (door m i).goal.toNat < _
      omega
    · exact putB_mem (grown_mem hn hp)
  | none => exact ⟨hl, h0, h1, hn, hp⟩
/-- one step of the net -/
theorem sim_step {one other : Mach} {sh : List (Int × Int)} (h : NetIn one other sh) {N S1 S2 : Int × List Int} {p1 p2 : Int} (s : Sim one other N S1 S2 p1 p2) {x : Int × Int} (hx0 : 0 ≤ x.1) (hx : x.2.toNat < (nDoors one other sh).length) (hf : (door (nMach one other sh) x.2).room = N.1)
    {o1 o2 : Option Int} (ho : sdAt (nSides one other sh) x.2 = (o1, o2)) :
    Sim one other (stp (nMach one other sh) N x) (adv one o1 S1 (p1 + x.1)).1 (adv other o2 S2 (p2 + x.1)).1 (adv one o1 S1 (p1 + x.1)).2 (adv other o2 S2 (p2 + x.1)).2 ∧
    (∀ i, o1 = some i → 0 ≤ i ∧ i.toNat < one.doors.length ∧ (door one i).room = S1.1) ∧ (∀ i, o2 = some i → 0 ≤ i ∧ i.toNat < other.doors.length ∧ (door other i).room = S2.1) ∧
    ∀ e, 0 ≤ e → (SF (lim (nMach one other sh)) (door (nMach one other sh) x.2) N x.1 e ↔ okSF one o1 S1 (p1 + x.1) e ∧ okSF other o2 S2 (p2 + x.1) e) := by
  obtain ⟨k1, k2, t, u, ht, hu, hd⟩ := kind_at h hx
  rw [ho] at k1 k2 hd
  have w1 := s.w1
  have w2 := s.w2
  have a0 := s.a0
  have a1 := s.a1
  have b0 := s.b0
  have b1 := s.b1
  have dk1 := sdoor_ok h.h1 k1 ht
  have dk2 := sdoor_ok h.h2 k2 hu
  have q0 := dk2.r0
  have q1 := dk2.r1
  have hroom : (sdoor one o1 t).room * (other.lims.length : Int) + (sdoor other o2 u).room = S1.1 * (other.lims.length : Int) + S2.1 := by
    rw [← s.r, ← hf, hd]; rfl
  obtain ⟨e1, e2⟩ := div_uniq q0 q1 b0 (by omega) hroom
  have sh1 := share h.h1 (p := p1 + x.1) k1 e1 s.l1 a0 a1 s.n1 (by omega)
  have sh2 := share h.h2 (p := p2 + x.1) k2 e2 s.l2 b0 b1 s.n2 (by omega)
  obtain ⟨c1, c2, c3, c4, c5⟩ := adv_ok h.h1 (p := p1 + x.1) k1 s.l1 a0 a1 s.n1 (by omega)
  obtain ⟨d1, d2, d3, d4, d5⟩ := adv_ok h.h2 (p := p2 + x.1) k2 s.l2 b0 b1 s.n2 (by omega)
  have lA : (grownK S1.2 (p1 + x.1)).length = one.cl := by rw [grownK_len, s.l1]
  refine ⟨⟨?_, ?_, c1, d1, c2, c3, d2, d3, c4, d4, c5, d5⟩, fun i hi => ⟨(k1 i hi).1, (k1 i hi).2, ?_⟩, fun i hi => ⟨(k2 i hi).1, (k2 i hi).2, ?_⟩, fun e he => ?_⟩
  · show (door (nMach one other sh) x.2).goal = _
    rw [hd, ← sh1.goal, ← sh2.goal]
    rfl
  · show putB (grownK N.2 x.1) (door (nMach one other sh) x.2).rs = _
    rw [hd, s.d, grown_app, grown_grown, grown_grown, ← sh1.rd, ← sh2.rd]
    have := putB_app (a := grownK S1.2 (p1 + x.1)) (b := grownK S2.2 (p2 + x.1)) (rs1 := (sdoor one o1 t).rs) (rs2 := (sdoor other o2 u).rs) (fun r hr => by rw [lA]; exact (dk1.rs r hr).2) (fun r hr => (dk2.rs r hr).1)
    rw [lA] at this
    exact this
  · subst hi; exact e1
  · subst hi; exact e2
  · rw [hd, ← sh1.sf e he, ← sh2.sf e he]
    have := comb_sf (sh := sh) (d1 := sdoor one o1 t) (d2 := sdoor other o2 u) (A := grownK S1.2 p1) (B := grownK S2.2 p2) (w := x.1) (e := e) (by rw [grownK_len, s.l1]) (by rw [grownK_len, s.l2]) h.h1 h.h2 dk1 dk2
    rw [e1, e2, ← s.r, ← s.d] at this
    rw [← SF_congr, ← SF_congr]
    exact this
/-- what a side is asked, behind a step -/
theorem side_goes {sides : List (Option Int × Option Int)} {s : Bool} {m : Mach} {e rest : Int} {x : Int × Int} {xs : List (Int × Int)} {S : Int × List Int} {p : Int} {o : Option Int} (ho : sd (sdAt sides x.2) s = o) (hr : 0 ≤ rest) (hx : ∀ y ∈ xs, 0 ≤ y.1) :
    Goes m e ((sideR sides s p (x :: xs)).2 + rest) S (sideR sides s p (x :: xs)).1 ↔
      okSF m o S (p + x.1) e ∧ Goes m e ((sideR sides s (adv m o S (p + x.1)).2 xs).2 + rest) (adv m o S (p + x.1)).1 (sideR sides s (adv m o S (p + x.1)).2 xs).1 := by
  rw [sideR, ho]
  cases o with
  | some i => exact Iff.rfl
  | none => exact ⟨fun h => ⟨goes_fit hr xs _ _ hx h, h⟩, fun h => h.2⟩
theorem side_follow {sides : List (Option Int × Option Int)} {s : Bool} {m : Mach} {x : Int × Int} {xs : List (Int × Int)} {S : Int × List Int} {p : Int} {o : Option Int} (ho : sd (sdAt sides x.2) s = o) (hk : ∀ i, o = some i → 0 ≤ i ∧ i.toNat < m.doors.length ∧ (door m i).room = S.1)
    (h : follow m (adv m o S (p + x.1)).1.1 ((sideR sides s (adv m o S (p + x.1)).2 xs).1.map (·.2)) = true ∧ ∀ y ∈ (sideR sides s (adv m o S (p + x.1)).2 xs).1, 0 ≤ y.2 ∧ y.2.toNat < m.doors.length) :
    follow m S.1 ((sideR sides s p (x :: xs)).1.map (·.2)) = true ∧ ∀ y ∈ (sideR sides s p (x :: xs)).1, 0 ≤ y.2 ∧ y.2.toNat < m.doors.length := by
  rw [sideR, ho]
  cases o with
  | some i =>
    obtain ⟨h1, h2, h3⟩ := hk i rfl
    refine ⟨?_, fun y hy => ?_⟩
    · rw [List.map_cons, follow_cons, door_get h2]
      dsimp only
      rw [decide_eq_true h3, Bool.true_and]
      exact h.1
    · rcases List.mem_cons.mp hy with rfl | hy
      · exact ⟨h1, h2⟩
      · exact h.2 y hy
  | none => exact h
theorem sim_all {one other : Mach} {sh : List (Int × Int)} (h : NetIn one other sh) {rest : Int} (hr : 0 ≤ rest) : ∀ (xs : List (Int × Int)) (N S1 S2 : Int × List Int) (p1 p2 : Int), Sim one other N S1 S2 p1 p2 → (∀ x ∈ xs, 0 ≤ x.1) → follow (nMach one other sh) N.1 (xs.map (·.2)) = true →
    (follow one S1.1 ((sideR (nSides one other sh) false p1 xs).1.map (·.2)) = true ∧ ∀ y ∈ (sideR (nSides one other sh) false p1 xs).1, 0 ≤ y.2 ∧ y.2.toNat < one.doors.length) ∧
    (follow other S2.1 ((sideR (nSides one other sh) true p2 xs).1.map (·.2)) = true ∧ ∀ y ∈ (sideR (nSides one other sh) true p2 xs).1, 0 ≤ y.2 ∧ y.2.toNat < other.doors.length) ∧
    ∀ e, 0 ≤ e → (Goes (nMach one other sh) e rest N xs ↔ Goes one e ((sideR (nSides one other sh) false p1 xs).2 + rest) S1 (sideR (nSides one other sh) false p1 xs).1 ∧ Goes other e ((sideR (nSides one other sh) true p2 xs).2 + rest) S2 (sideR (nSides one other sh) true p2 xs).1)
  | [], N, S1, S2, p1, p2, s, _, _ => by
    refine ⟨⟨rfl, fun y hy => by simp [sideR] at hy⟩, ⟨rfl, fun y hy => by simp [sideR] at hy⟩, fun e he => ?_⟩
    show Fit (grownK N.2 rest) (lim _ N.1) e ↔ Fit (grownK S1.2 (p1 + rest)) (lim one S1.1) e ∧ Fit (grownK S2.2 (p2 + rest)) (lim other S2.1) e
    rw [s.d, s.r, lim_net s.a0 s.a1 s.b0 s.b1, grown_app, grown_grown, grown_grown, fit_app (by rw [grownK_len, s.l1, lim_len h.h1 s.a1])]
  | x :: xs, N, S1, S2, p1, p2, s, hx, hf => by
    have hx0 := hx x List.mem_cons_self
    have ht : ∀ y ∈ xs, 0 ≤ y.1 := fun y hy => hx y (List.mem_cons_of_mem _ hy)
    rw [List.map_cons, follow_cons] at hf
    cases q : (nMach one other sh).doors[x.2.toNat]? with
    | none => rw [q] at hf; cases hf
    | some d =>
      have hlt : x.2.toNat < (nDoors one other sh).length := (List.getElem?_eq_some_iff.mp q).1
      have hd := door_get (m := nMach one other sh) hlt
      rw [hd] at hf
      dsimp only at hf
      obtain ⟨hf1, hf2⟩ := He.ba hf
      have hf1 := of_decide_eq_true hf1
      obtain ⟨o1, o2, ho⟩ : ∃ o1 o2, sdAt (nSides one other sh) x.2 = (o1, o2) := ⟨_, _, rfl⟩
      obtain ⟨s', k1, k2, hs⟩ := sim_step h s hx0 hlt hf1 ho
      have ho1 : sd (sdAt (nSides one other sh) x.2) false = o1 := by rw [ho]; rfl
      have ho2 : sd (sdAt (nSides one other sh) x.2) true = o2 := by rw [ho]; rfl
      obtain ⟨i1, i2, i3⟩ := sim_all h hr xs _ _ _ _ _ s' ht hf2
      refine ⟨side_follow ho1 k1 i1, side_follow ho2 k2 i2, fun e he => ?_⟩
      rw [Goes, hs e he, i3 e he, side_goes ho1 hr ht, side_goes ho2 hr ht]
      constructor
      · rintro ⟨⟨a, b⟩, c, d⟩; exact ⟨⟨a, c⟩, b, d⟩
      · rintro ⟨⟨a, c⟩, b, d⟩; exact ⟨⟨a, b⟩, c, d⟩
/-! ### the plain law -/
/-- a drawn stay -/
structure DStay (m : Mach) (st : List (Int × Int) × Int) : Prop where
  len : st.1.length ≤ 8
  w : ∀ x ∈ st.1, 0 ≤ x.1 ∧ x.1 ≤ 96
  d : ∀ x ∈ st.1, 0 ≤ x.2 ∧ x.2.toNat < m.doors.length
  f : follow m 0 (st.1.map (·.2)) = true
  r0 : 0 ≤ st.2
  r1 : st.2 ≤ 96
theorem DStay.ok {m : Mach} {st : List (Int × Int) × Int} (h : DStay m st) : StayOk m st :=
  ⟨⟨by have := h.len; omega, fun x hx => ⟨(h.w x hx).1, by have := (h.w x hx).2; omega⟩, h.d⟩, h.r0, by have := h.r1; omega⟩
theorem sum_le {l : List (Int × Int)} (h : ∀ x ∈ l, 0 ≤ x.1 ∧ x.1 ≤ 96) : 0 ≤ (l.map (·.1)).sum ∧ (l.map (·.1)).sum ≤ 96 * l.length := by
  induction l with
  | nil => simp
  | cons x l ih =>
    have h1 := ih fun y hy => h y (List.mem_cons_of_mem _ hy)
    have h2 := h x List.mem_cons_self
    simp only [List.map_cons, List.sum_cons, List.length_cons]
    constructor <;> omega
theorem le_sum {l : List (Int × Int)} (h : ∀ x ∈ l, 0 ≤ x.1) : ∀ x ∈ l, x.1 ≤ (l.map (·.1)).sum := by
  have nn : ∀ (l : List (Int × Int)), (∀ x ∈ l, 0 ≤ x.1) → 0 ≤ (l.map (·.1)).sum := by
    intro l
    induction l with
    | nil => intro _; simp
    | cons x l ih =>
      intro h
      have := ih fun y hy => h y (List.mem_cons_of_mem _ hy)
      have := h x List.mem_cons_self
      simp only [List.map_cons, List.sum_cons]
      omega
  induction l with
  | nil => intro x hx; cases hx
  | cons y l ih =>
    intro x hx
    have h0 := h y List.mem_cons_self
    have hl : ∀ z ∈ l, 0 ≤ z.1 := fun z hz => h z (List.mem_cons_of_mem _ hz)
    simp only [List.map_cons, List.sum_cons]
    rcases List.mem_cons.mp hx with rfl | hx
    · have := nn l hl
      omega
    · have := ih hl x hx
      omega
structure Law (one other : Mach) (sh : List (Int × Int)) (st : List (Int × Int) × Int) : Prop where
  net : isStay (nMach one other sh) (dStay st) = true
  sd : SideOk (nSides one other sh) st.1
  o1 : StayOk one (sideStay (nSides one other sh) false st)
  o2 : StayOk other (sideStay (nSides one other sh) true st)
  s1 : isStay one (dStay (sideStay (nSides one other sh) false st)) = true
  s2 : isStay other (dStay (sideStay (nSides one other sh) true st)) = true
  mx : mx 0 [lneed one (sideStay (nSides one other sh) false st), lneed other (sideStay (nSides one other sh) true st)] = lneed (nMach one other sh) st
  t1 : stayLen (sideStay (nSides one other sh) false st) = stayLen st
  t2 : stayLen (sideStay (nSides one other sh) true st) = stayLen st
theorem law_ok {one other : Mach} {sh : List (Int × Int)} {st : List (Int × Int) × Int} (h : NetIn one other sh) (hm : MachOk (nMach one other sh)) (hs : DStay (nMach one other sh) st) : Law one other sh st := by
  have hok := hs.ok
  have hw : ∀ x ∈ st.1, 0 ≤ x.1 := fun x hx => (hs.w x hx).1
  have hlen := hs.len
  have hr0 := hs.r0
  have hr1 := hs.r1
  have hsum := sum_le hs.w
  have l1 := h.h1.l1
  have l2 := h.h2.l1
  have s0 : Sim one other (st0 (nMach one other sh)) (st0 one) (st0 other) 0 0 := by
    refine ⟨?_, ?_, ?_, ?_, Int.le_refl _, ?_, Int.le_refl _, ?_, ?_, ?_, Int.le_refl _, Int.le_refl _⟩
    · show (0 : Int) = 0 * _ + 0; omega
    · rw [grown_zero, grown_zero]
      show List.replicate (one.cl + other.cl) (0 : Int) = List.replicate _ 0 ++ List.replicate _ 0
      rw [List.replicate_append_replicate]
    · simp [st0]
    · simp [st0]
    · show (0 : Int).toNat < _; simp; omega
    · show (0 : Int).toNat < _; simp; omega
    · intro k hk; have := List.eq_of_mem_replicate hk; omega
    · intro k hk; have := List.eq_of_mem_replicate hk; omega
  obtain ⟨⟨f1, v1⟩, ⟨f2, v2⟩, g⟩ := sim_all h hr0 st.1 _ _ _ _ _ s0 hw hs.f
  have ok : ∀ (s : Bool) (m : Mach), (∀ y ∈ (sideR (nSides one other sh) s 0 st.1).1, 0 ≤ y.2 ∧ y.2.toNat < m.doors.length) → StayOk m (sideStay (nSides one other sh) s st) := fun s m hv => by
    obtain ⟨b1, b2, b3⟩ := sideR_b (sides := nSides one other sh) (s := s) st.1 0 (Int.le_refl _) hw
    have b4 := sideR_sum (sides := nSides one other sh) (s := s) st.1 0
    have b5 := le_sum b1
    have b6 : 0 ≤ ((sideR (nSides one other sh) s 0 st.1).1.map (·.1)).sum := by
      cases q : (sideR (nSides one other sh) s 0 st.1).1 with
      | nil => simp
      | cons y l =>
        rw [q] at b1 b5
        have := b1 y List.mem_cons_self
        have := b5 y List.mem_cons_self
        omega
    rw [sideStay_R]
    refine ⟨⟨by dsimp only; omega, fun x hx => ⟨b1 x hx, ?_⟩, hv⟩, by dsimp only; omega, by dsimp only; omega⟩
    have := b5 x hx
    omega
  have len : ∀ s : Bool, stayLen (sideStay (nSides one other sh) s st) = stayLen st := fun s => by
    have b4 := sideR_sum (sides := nSides one other sh) (s := s) st.1 0
    rw [sideStay_R]
    unfold stayLen
    dsimp only
    omega
  have k1 := ok false one v1
  have k2 := ok true other v2
  refine ⟨stay_is hm hok hs.f, ⟨fun x hx => ⟨(hs.d x hx).1, by rw [nSides_len]; exact (hs.d x hx).2⟩⟩, k1, k2, stay_is h.h1 k1 (by rw [sideStay_R]; exact f1), stay_is h.h2 k2 (by rw [sideStay_R]; exact f2), ?_, len false, len true⟩
  have both : ∀ e, lneed (nMach one other sh) st ≤ e ↔ lneed one (sideStay (nSides one other sh) false st) ≤ e ∧ lneed other (sideStay (nSides one other sh) true st) ≤ e := fun e => by
    rw [lneed_le, lneed_le, lneed_le, sideStay_R, sideStay_R]
    constructor
    · rintro ⟨h0, h1⟩
      have := (g e h0).mp h1
      exact ⟨⟨h0, this.1⟩, h0, this.2⟩
    · rintro ⟨⟨h0, h1⟩, _, h2⟩
      exact ⟨h0, (g e h0).mpr ⟨h1, h2⟩⟩
  have nn : 0 ≤ lneed one (sideStay (nSides one other sh) false st) := (lneed_le.mp (Int.le_refl _)).1
  refine Int.le_antisymm (mx_le.mpr ⟨(lneed_le.mp (Int.le_refl _)).1, fun x hx => ?_⟩) ((both _).mpr ⟨(mx_le.mp (Int.le_refl _)).2 _ (by simp), (mx_le.mp (Int.le_refl _)).2 _ (by simp)⟩)
  have := (both _).mp (Int.le_refl _)
  simp only [List.mem_cons, List.not_mem_nil, or_false] at hx
  rcases hx with rfl | rfl
  · exact this.1
  · exact this.2
end M33
namespace TL
open PySem PySem.Spec PyProof.Rows L2
theorem XID.imp {X : Cx} {tg iter : Expr} {G : En} {d : Addr} {RS SS : List Vp → Prop} (h : XID X tg iter G d RS) (hi : ∀ r, RS r → SS r) : XID X tg iter G d SS := ⟨fun σ H M R k hd hD hR => h.to σ H M R k hd hD fun rs J H' h1 => hR rs J H' (hi rs h1)⟩
section
variable [KK] {X : Cx} {a b c e : Expr} {es : List Expr} {G : En} {p q z r : Vp} {rs : List Vp} {pos ps : Pos} {x : Str} {d : Addr}
theorem r2_ixL {i : Int} (hi : atI rs i = some r) : R2V (rIxL KK.K) (rL rs) (rI i) r := fun H M x y Q hM ⟨t, vs, hv, hS, hA⟩ hy hQ => by
  obtain ⟨v, h1, h2⟩ := atI_all hA hi
  exact ⟨t, vs, i, v, hv, hy, SqL.of (hide_le M H _ _ hS), h1, hQ v H (Ex.refl _) h2⟩
theorem xd_v {i : Int} (h : XE X e G (rI i)) : XD X e G d (RP fun q => q = i) := xd_int h rfl
theorem choose {α β : Type} {f : β → Vp} {Q : β → Prop} : ∀ {zs : List (α × Vp)}, (∀ z ∈ zs, ∃ b, Q b ∧ z.2 = f b) → ∃ bs : List β, bs.length = zs.length ∧ (∀ b ∈ bs, Q b) ∧ zs.map (·.2) = bs.map f
  | [], _ => ⟨[], rfl, fun _ h => (nomatch h), rfl⟩
  | z :: zs, h => by
    obtain ⟨b, h1, h2⟩ := h z List.mem_cons_self
    obtain ⟨bs, h3, h4, h5⟩ := choose fun y hy => h y (List.mem_cons_of_mem _ hy)
    refine ⟨b :: bs, by simp [h3], fun c hc => ?_, by rw [List.map_cons, List.map_cons, h2, h5]⟩
    rcases List.mem_cons.mp hc with rfl | hc
    · exact h1
    · exact h4 c hc
/-- all of n came in, each of a kind -/
theorem lres_all {α β : Type} {xs : List α} {F : α → Vp → Prop} {f : β → Vp} {Q : β → Prop} (hF : ∀ x r, F x r → ∃ b, Q b ∧ r = f b) {r : Vp} (h : LRes true xs F r) : ∃ bs : List β, bs.length = xs.length ∧ (∀ b ∈ bs, Q b) ∧ r = rL (bs.map f) := by
  obtain ⟨zs, h1, h2, h3⟩ := h
  obtain ⟨bs, k1, k2, k3⟩ := choose (f := f) (Q := Q) fun z hz => hF z.1 z.2 (h2 z hz)
  have : zs.map (·.1) = xs := h1
  exact ⟨bs, by rw [k1, ← this, List.length_map], k2, by rw [h3, k3]⟩
end
end TL
namespace M33
open PySem PySem.Spec PyProof.Rows L2 TL
section
variable [KK] {P : Program} {w : World} {mg : Str → Option Value} {base : Heap}
def S_L_roll (rs : List Vp) (R : Vp → Prop) : Prop := ∃ n : Int, rs = [TL.rI n] ∧ 0 < n ∧ n < 1073741824 ∧ R = RP fun j => 0 ≤ j ∧ j < n
theorem ok_L_roll (T : Txt mg) : Fn P w mg base "_law_roll" 1 (spD S_L_roll) := by
  obtain ⟨fd, F⟩ := T.fd_L_roll
  have nd : (["_law_dice_here", "_law_most", "_law_found", "_law_one", "_law_two"] : List Str).Nodup := by decide +kernel
  refine fnD_ok (N := ["_law_dice_here", "_law_most", "_law_found", "_law_one", "_law_two"]) (ps := ["_law_dice_here", "_law_most"]) F T.g_L_roll (fun _ _ _ _ _ _ us hl => match us, hl with | [_, _], _ => rfl) ⟨rfl, rfl, rfl, nd, rfl, by decide +kernel, by decide +kernel⟩ (by decide)
    (by intro rs r hS; obtain ⟨n, rfl, h0, h1, rfl⟩ := hS <;> rfl) fun cdv A outer s H E d M rs r hr hS => ?_
  have hB := Ex.refl (hide [d] H)
  obtain ⟨n, rfl, h0, h1, rfl⟩ := hS
  have hm : ∀ i j : Int, True → j = n → 0 < j ∧ (0 ≤ i % j ∧ i % j < n) := fun i j _ hj => by subst hj; exact ⟨h0, Int.emod_nonneg _ (by omega), Int.emod_lt_of_pos _ h0⟩
  refine (xb_cons (Mid := TL.Env (hide [d] H) M [d] [some (rA d), some (TL.rI n), none, none, none] []) (xsd_if (xdt_gt (xd_dice (xe_var 0) xe_int (.inl rfl)) (xd_v xe_int)) (fun _ =>
    (xb_cons (xsd_set 2 nd (xd_modI (P := fun _ => True) (Z := fun j => 0 ≤ j ∧ j < n) (xd_toInt T.f_int (xd_dice (xe_var 0) xe_int (.inl rfl))) (xd_v (xe_var 1)) hm)) (xb_ex fun r1 => xb_and fun hr1 => ?_))) (fun _ =>
    (xb_nil fun σ H E => E)))
  (xb_cons (xsd_put (xe_var 0) xe_int (.inr (.inr rfl)) (xd_addI (Z := fun _ => True) (xd_dice (xe_var 0) xe_int (.inr (.inr rfl))) (xd_v xe_int) (fun _ _ _ _ => trivial)))
  (xb_cons (xsd_set 3 nd (xd_modI (P := fun _ => True) (Q := fun j => j = 2305843009213693421) (Z := fun j => 0 ≤ j ∧ j < 2305843009213693421) (xd_toInt T.f_int (xd_addI (xd_dice (xe_var 0) xe_int (.inr (.inl rfl))) (xd_mulI (Z := fun _ => True) (xd_v xe_int) (xd_dice (xe_var 0) xe_int (.inr (.inr rfl))) (fun i j hi _ => ⟨.inl (by subst hi; decide), trivial⟩)) (fun _ _ _ _ => trivial))) (xd_v xe_int) (fun i j _ hj => by subst hj; exact ⟨by decide, Int.emod_nonneg _ (by decide), Int.emod_lt_of_pos _ (by decide)⟩)))
  (xb_ex fun r1 => xb_and fun hr1 => ?_))))
  · obtain ⟨i, hi, rfl⟩ := hr1
    exact (xb_cons (xsd_put (P := fun _ => True) (xe_var 0) xe_int (.inl rfl) (xd_fdivI (xd_dice (xe_var 0) xe_int (.inl rfl)) (xd_v (xe_var 1)) (fun i j _ hj => by subst hj; exact ⟨⟨h0, h1⟩, trivial⟩)))
      (xb_cons (xsd_ret (xd_int (xe_var 2) hi) hB) xb_dead))
  · obtain ⟨i, hi, rfl⟩ := hr1
    refine (xb_cons (xsd_set 4 nd (xd_addI (P := fun _ => True) (Z := fun _ => True) (xd_mulI (P := fun _ => True) (Z := fun _ => True) (xd_modI (P := fun _ => True) (Z := fun _ => True) (xd_toInt T.f_int (xd_addI (Z := fun _ => True) (xd_v (xe_mul (xe_var 3) (xe_var 3) (.inl (by omega)))) (xd_mulI (Z := fun _ => True) (xd_v xe_int) (xd_dice (xe_var 0) xe_int (.inr (.inr rfl))) (fun i j hi _ => ⟨.inl (by subst hi; decide), trivial⟩)) (fun _ _ _ _ => trivial))) (xd_v xe_int) (fun i j _ hj => by subst hj; exact ⟨by decide, trivial⟩)) (xd_v xe_int) (fun i j _ hj => ⟨.inr (by subst hj; decide), trivial⟩)) (xd_v (xe_var 3)) (fun _ _ _ _ => trivial)))
      (xb_ex fun r2 => xb_and fun hr2 => ?_))
    obtain ⟨i2, _, rfl⟩ := hr2
    exact (xb_cons (xsd_ret (xd_modI (P := fun _ => True) (xd_toInt T.f_int (xd_int (xe_fdiv (xe_var 4) xe_int ⟨by decide, by decide⟩) trivial)) (xd_v (xe_var 1)) hm) hB) xb_dead)
section
variable {X : Cx} {G : En} {d : Addr} {e b : Expr} {pos ps : Pos} {k : Nat}
theorem xd_roll {n : Int} (T : Txt mg) (hr : Room k X.A) (hv : XE X e G (rA d)) (hb : XE X b G (TL.rI n)) (h0 : 0 < n) (h1 : n < 1073741824) (hj : 1 ≤ k := by decide) (hm : X.mg = mg := by rfl) (hg : Gl X "_law_roll" := by rfl) (hK : X.K = KK.K := by rfl)
    (he : starEach (e :: [b]) X.env = (false, eval e X.env) :: starEach [b] X.env := by rfl) (hb2 : starEach [b] X.env = (false, eval b X.env) :: starEach [] X.env := by rfl) (hpl : (backTo pos (starEach [b] X.env)).any (·.1) = false := by rfl) : XD X (.Call (.Name "_law_roll" ps) [e, b] [] pos) G d (RP fun j => 0 ≤ j ∧ j < n) :=
  xd_callD (SF := S_L_roll) (by rw [hm]; exact ok_L_roll T) hr hv (xad_cons (xd_xe hb) xad_nil hb2) (fun rs ⟨r, qs, h1', h2, h3⟩ => ⟨_, ⟨n, by subst h1' h2 h3; rfl, h0, h1, rfl⟩, fun r h => h⟩) hj hg hK (by decide) he hpl
end
def S_L_pick (rs : List Vp) (R : Vp → Prop) : Prop := ∃ qs, rs = [rL qs] ∧ 0 < qs.length ∧ qs.length ≤ 1000 ∧ R = fun r => r ∈ qs
theorem ok_L_pick (T : Txt mg) : Fn P w mg base "_law_pick" 2 (spD S_L_pick) := by
  obtain ⟨fd, F⟩ := T.fd_L_pick
  have nd : (["_law_dice_here", "_law_items"] : List Str).Nodup := by decide +kernel
  refine fnD_ok (N := ["_law_dice_here", "_law_items"]) (ps := ["_law_dice_here", "_law_items"]) F T.g_L_pick (fun _ _ _ _ _ _ us hl => match us, hl with | [_, _], _ => rfl) ⟨rfl, rfl, rfl, nd, rfl, by decide +kernel, by decide +kernel⟩ (by decide)
    (by intro rs r hS; obtain ⟨qs, rfl, h0, h1, rfl⟩ := hS <;> rfl) fun cdv A outer s H E d M rs r hr hS => ?_
  have hB := Ex.refl (hide [d] H)
  obtain ⟨qs, rfl, h0, h1, rfl⟩ := hS
  exact (xb_cons (xsd_ret (xd_ix (R := fun p => p = rL qs) (Z := fun r => r ∈ qs) ix_list (fun p q hp hq => by
    obtain ⟨j, hj, hq⟩ := hq
    subst hp hq
    have hlt : j.toNat < qs.length := by omega
    exact ⟨qs[j.toNat], List.getElem_mem hlt, r2_ixL (atI_int hj.1 (List.getElem?_eq_getElem hlt))⟩) (xd_xe (xe_var 1)) (xd_roll (n := (qs.length : Int)) T hr (xe_var 0) (xe_lenL T.f_len (xe_var 1)) (by omega) (by omega))) hB) xb_dead)
section
variable {X : Cx} {G : En} {d : Addr} {e b : Expr} {pos ps : Pos} {k : Nat}
theorem xd_pick {qs : List Vp} (T : Txt mg) (hr : Room k X.A) (hv : XE X e G (rA d)) (hb : XE X b G (rL qs)) (h0 : 0 < qs.length) (h1 : qs.length ≤ 1000) (hj : 2 ≤ k := by decide) (hm : X.mg = mg := by rfl) (hg : Gl X "_law_pick" := by rfl) (hK : X.K = KK.K := by rfl)
    (he : starEach (e :: [b]) X.env = (false, eval e X.env) :: starEach [b] X.env := by rfl) (hb2 : starEach [b] X.env = (false, eval b X.env) :: starEach [] X.env := by rfl) (hpl : (backTo pos (starEach [b] X.env)).any (·.1) = false := by rfl) : XD X (.Call (.Name "_law_pick" ps) [e, b] [] pos) G d (fun r => r ∈ qs) :=
  xd_callD (SF := S_L_pick) (by rw [hm]; exact ok_L_pick T) hr hv (xad_cons (xd_xe hb) xad_nil hb2) (fun rs ⟨r, qs', h1', h2, h3⟩ => ⟨_, ⟨qs, by subst h1' h2 h3; rfl, h0, h1, rfl⟩, fun r h => h⟩) hj hg hK (by decide) he hpl
end
def RGd (m : Int) : Vp → Prop := fun r => ∃ g : Int × Int, (0 ≤ g.1 ∧ g.1 ≤ g.2 ∧ g.2 ≤ m) ∧ r = rG g
def S_L_ma_guard (rs : List Vp) (R : Vp → Prop) : Prop := ∃ m : Int, rs = [TL.rI m] ∧ 0 ≤ m ∧ m ≤ 1000 ∧ R = RGd m
theorem ok_L_ma_guard (T : Txt mg) : Fn P w mg base "_law_ma_guard" 2 (spD S_L_ma_guard) := by
  obtain ⟨fd, F⟩ := T.fd_L_ma_guard
  have nd : (["_law_dice_here", "_law_most", "_law_low"] : List Str).Nodup := by decide +kernel
  refine fnD_ok (N := ["_law_dice_here", "_law_most", "_law_low"]) (ps := ["_law_dice_here", "_law_most"]) F T.g_L_ma_guard (fun _ _ _ _ _ _ us hl => match us, hl with | [_, _], _ => rfl) ⟨rfl, rfl, rfl, nd, rfl, by decide +kernel, by decide +kernel⟩ (by decide)
    (by intro rs r hS; obtain ⟨m, rfl, h0, h1, rfl⟩ := hS <;> rfl) fun cdv A outer s H E d M rs r hr hS => ?_
  have hB := Ex.refl (hide [d] H)
  obtain ⟨m, rfl, h0, h1, rfl⟩ := hS
  refine (xb_cons (xsd_set 2 nd (xd_roll T hr (xe_var 0) (xe_add (xe_var 1) xe_int) (by omega) (by omega))) (xb_ex fun r1 => xb_and fun hr1 => ?_))
  obtain ⟨i, ⟨h2, h3⟩, rfl⟩ := hr1
  exact (xb_cons (xsd_ret ((xd_tup (xad_cons (xd_v (xe_var 2)) (xad_cons (xd_addI (Z := fun j => i ≤ j ∧ j ≤ m) (xd_v (xe_var 2)) (xd_roll T hr (xe_var 0) (xe_sub (xe_add (xe_var 1) xe_int) (xe_var 2)) (by omega) (by omega)) (fun a b ha hb => by subst ha; constructor <;> omega)) xad_nil)) (fun rs hh => by obtain ⟨_, _, _, ⟨_, _, _, h, h'⟩, h''⟩ := hh; subst h'' h' h; show 2 ≤ 1000; decide)).imp fun r hh => by
    obtain ⟨rs, ⟨r1, q1, h4, ⟨r2, q2, h5, h6, h7⟩, h8⟩, h9⟩ := hh
    obtain ⟨a, rfl, ha⟩ := h4
    obtain ⟨b, hb, hb2⟩ := h5
    subst h6 h7 h8 h9 ha hb2
    exact ⟨(a, b), ⟨h2, hb.1, hb.2⟩, rfl⟩) hB) xb_dead)
def RLot (c : Nat) : Vp → Prop := fun r => ∃ l : List Int, ((∀ x ∈ l, 0 ≤ x ∧ x < c) ∧ l.Pairwise (· < ·)) ∧ r = rT (l.map TL.rI)
def S_L_ma_lot (rs : List Vp) (R : Vp → Prop) : Prop := ∃ c : Nat, rs = [TL.rI (c : Int)] ∧ c ≤ 100 ∧ R = RLot c
theorem ok_L_ma_lot (T : Txt mg) : Fn P w mg base "_law_ma_lot" 2 (spD S_L_ma_lot) := by
  obtain ⟨fd, F⟩ := T.fd_L_ma_lot
  have nd : (["_law_dice_here", "_law_clocks", "_law_clock"] : List Str).Nodup := by decide +kernel
  refine fnD_ok (N := ["_law_dice_here", "_law_clocks", "_law_clock"]) (ps := ["_law_dice_here", "_law_clocks"]) F T.g_L_ma_lot (fun _ _ _ _ _ _ us hl => match us, hl with | [_, _], _ => rfl) ⟨rfl, rfl, rfl, nd, rfl, by decide +kernel, by decide +kernel⟩ (by decide)
    (by intro rs r hS; obtain ⟨c, rfl, h1, rfl⟩ := hS <;> rfl) fun cdv A outer s H E d M rs r hr hS => ?_
  have hB := Ex.refl (hide [d] H)
  obtain ⟨c, rfl, h1, rfl⟩ := hS
  exact (xb_cons (xsd_ret ((xd_tuple (RS := fun rs => ∃ l : List Int, ((∀ x ∈ l, 0 ≤ x ∧ x < c) ∧ l.Pairwise (· < ·)) ∧ rs = l.map TL.rI) T.f_tuple ((xd_lc (XS' := fun xs => xs = List.range c) (qf := fun i : Nat => TL.rI (i : Int)) (F := fun i r => r = TL.rI (i : Int)) (P := fun _ => True) false nd (own := [("_law_clock", 2)]) (blkOk_by (N := ["_law_dice_here", "_law_clocks", "_law_clock"]) (by rfl)) ((xid_xi (xi_range T.f_range (xe_var 1) (by omega))).imp fun rs h => ⟨_, rfl, h⟩) (fun xs hxs x hx => ⟨_, _, by decide, fun _ _ _ _ _ => ⟨(xg_name 2 nd), xtsd_one (xdt_eq (xd_roll T hr (xe_var 0) xe_int (by decide) (by decide)) (xd_v xe_int)), xd_xe (xe_var 2)⟩⟩) (fun h => nomatch h) (fun xs hxs => by subst hxs; rw [List.length_range]; omega)).imp fun r ⟨xs, hxs, zs, h2, h3, h4⟩ => by
    have hsub : (zs.map (·.1)).Sublist (List.range c) := by rw [← hxs]; exact h2
    refine ⟨_, ⟨zs.map fun z => (z.1 : Int), ⟨fun x hx => ?_, ?_⟩, rfl⟩, ?_⟩
    · obtain ⟨z, hz, rfl⟩ := List.mem_map.mp hx
      have := List.mem_range.mp (hsub.subset (List.mem_map.mpr ⟨z, hz, rfl⟩))
      constructor <;> omega
    · have := List.Pairwise.sublist hsub List.pairwise_lt_range
      rw [List.pairwise_map] at this ⊢
      exact this.imp fun h => by omega
    · rw [h4, List.map_map]
      congr 1
      exact List.map_congr_left fun z hz => h3 z hz)).imp fun r ⟨rs, ⟨l, h2, h3⟩, h4⟩ => ⟨l, h2, by rw [h4, h3]⟩) hB) xb_dead)
def RDoor (c n : Nat) : Vp → Prop := fun r => ∃ dr : Door, DoorOk c n dr ∧ r = rDoor dr
def S_L_ma_door (rs : List Vp) (R : Vp → Prop) : Prop := ∃ c n : Nat, rs = [TL.rI (c : Int), TL.rI (n : Int)] ∧ c ≤ 3 ∧ 1 ≤ n ∧ n ≤ 6 ∧ R = RDoor c n
theorem ok_L_ma_door (T : Txt mg) : Fn P w mg base "_law_ma_door" 3 (spD S_L_ma_door) := by
  obtain ⟨fd, F⟩ := T.fd_L_ma_door
  have nd : (["_law_dice_here", "_law_clocks", "_law_rooms", "_law_guards", "_law_clock"] : List Str).Nodup := by decide +kernel
  refine fnD_ok (N := ["_law_dice_here", "_law_clocks", "_law_rooms", "_law_guards", "_law_clock"]) (ps := ["_law_dice_here", "_law_clocks", "_law_rooms"]) F T.g_L_ma_door (fun _ _ _ _ _ _ us hl => match us, hl with | [_, _, _], _ => rfl) ⟨rfl, rfl, rfl, nd, rfl, by decide +kernel, by decide +kernel⟩ (by decide)
    (by intro rs r hS; obtain ⟨c, n, rfl, h1, h2, h3, rfl⟩ := hS <;> rfl) fun cdv A outer s H E d M rs r hr hS => ?_
  have hB := Ex.refl (hide [d] H)
  obtain ⟨c, n, rfl, h1, h2, h3, rfl⟩ := hS
  refine (xb_cons (xsd_set (R := fun r => ∃ rs, (∃ gs : List (Int × Int), gs.length = c ∧ (∀ g ∈ gs, GdOk g) ∧ rs = gs.map rG) ∧ r = rT rs) 3 nd (xd_tuple T.f_tuple ((xd_lc (XS' := fun xs => xs = List.range c) (qf := fun i : Nat => TL.rI (i : Int)) (F := fun i r => ∃ g, GdOk g ∧ r = rG g) (P := fun b => b = true) true nd (own := [("_law_clock", 4)]) (blkOk_by (N := ["_law_dice_here", "_law_clocks", "_law_rooms", "_law_guards", "_law_clock"]) (by rfl)) ((xid_xi (xi_range T.f_range (xe_var 1) (by omega))).imp fun rs h => ⟨_, rfl, h⟩)
    (fun xs hxs x hx => ⟨_, _, by decide, fun _ _ _ _ _ => ⟨(xg_name 4 nd), xtsd_nil, xd_ife (xdt_gt (xd_roll T hr (xe_var 0) xe_int (by decide) (by decide)) (xd_v xe_int)) (xd_callD (R := fun r => ∃ g, GdOk g ∧ r = rG g) (ok_L_ma_guard T) hr (xe_var 0) (xad_cons (xd_xe xe_int) xad_nil) (fun rs hh => by obtain ⟨r, qs, e1, e2, e3⟩ := hh; subst e1 e2 e3; exact ⟨_, ⟨3, rfl, by decide, by decide, rfl⟩, fun r ⟨g, hg, e⟩ => ⟨g, ⟨hg.1, hg.2.1, by have := hg.2.2; omega⟩, e⟩⟩)) ((xd_xe (xe_tup (xa_cons xe_int (xa_cons xe_int xa_nil)))).imp fun r e => ⟨(0, 4), by unfold GdOk; decide, e⟩)⟩⟩) (fun _ b h => h) (fun xs hxs => by subst hxs; rw [List.length_range]; omega)).imp fun r ⟨xs, hxs, hl⟩ => by
      obtain ⟨gs, k1, k2, k3⟩ := lres_all (f := rG) (Q := GdOk) (fun x r h => h) hl
      exact ⟨_, ⟨gs, by rw [k1, hxs, List.length_range], k2, rfl⟩, k3⟩))) (xb_ex fun r1 => xb_and fun hr1 => ?_))
  obtain ⟨rs1, ⟨gs, g1, g2, rfl⟩, rfl⟩ := hr1
  exact (xb_cons (xsd_ret ((xd_tup (xad_cons (xd_roll T hr (xe_var 0) (xe_var 2) (by omega) (by omega)) (xad_cons (xd_xe (xe_var 3)) (xad_cons (xd_callD (R := RLot c) (ok_L_ma_lot T) hr (xe_var 0) (xad_cons (xd_xe (xe_var 1)) xad_nil) (fun rs hh => by obtain ⟨r, qs, e1, e2, e3⟩ := hh; subst e1 e2 e3; exact ⟨_, ⟨c, rfl, by omega, rfl⟩, fun r h => h⟩)) (xad_cons (xd_roll T hr (xe_var 0) (xe_var 2) (by omega) (by omega)) xad_nil)))) (fun rs hh => by obtain ⟨_, _, _, ⟨_, _, _, ⟨_, _, _, ⟨_, _, _, a1, a2⟩, a3⟩, a4⟩, a5⟩ := hh; subst a5 a4 a3 a2 a1; show 4 ≤ 1000; decide)).imp
    fun r hh => by
      obtain ⟨rs, ⟨_, _, b1, ⟨_, _, b2, ⟨_, _, b3, ⟨_, _, b4, a1, a2⟩, a3⟩, a4⟩, a5⟩, a6⟩ := hh
      obtain ⟨i, hi, rfl⟩ := b1
      obtain ⟨l, ⟨l1, l2⟩, rfl⟩ := b3
      obtain ⟨j, hj, rfl⟩ := b4
      subst a6 a5 a4 a3 a2 a1 b2
      exact ⟨⟨i, gs, l, j⟩, ⟨hi.1, hi.2, g1, g2, l1, l2, hj.1, hj.2⟩, rfl⟩) hB) xb_dead)
def RW' : Vp → Prop := fun r => ∃ k : Int, (0 ≤ k ∧ k ≤ 96) ∧ r = rF k
def S_L_fr_wait (rs : List Vp) (R : Vp → Prop) : Prop := rs = [] ∧ R = RW'
theorem ok_L_fr_wait (T : Txt mg) : Fn P w mg base "_law_fr_wait" 3 (spD S_L_fr_wait) := by
  obtain ⟨fd, F⟩ := T.fd_L_fr_wait
  have nd : (["_law_dice_here"] : List Str).Nodup := by decide +kernel
  refine fnD_ok (N := ["_law_dice_here"]) (ps := ["_law_dice_here"]) F T.g_L_fr_wait (fun _ _ _ _ _ _ us hl => match us, hl with | [_], _ => rfl) ⟨rfl, rfl, rfl, nd, rfl, by decide +kernel, by decide +kernel⟩ (by decide)
    (by intro rs r hS; obtain ⟨rfl, rfl⟩ := hS <;> rfl) fun cdv A outer s H E d M rs r hr hS => ?_
  have hB := Ex.refl (hide [d] H)
  obtain ⟨rfl, rfl⟩ := hS
  exact (xb_cons (xsd_ret (xd_call (SF := S_L_fr_low) (ok_L_fr_low T) hr (xad_cons (xd_roll T hr (xe_var 0) xe_int (by decide) (by decide)) (xad_cons (xd_pick T hr (xe_var 0) (xe_lst (xa_cons xe_int (xa_cons xe_int (xa_cons xe_int (xa_cons xe_int (xa_cons xe_int (xa_cons xe_int xa_nil))))))) (by decide) (by decide)) xad_nil)) (fun rs hh => by
    obtain ⟨_, _, b1, ⟨_, _, b2, a1, a2⟩, a3⟩ := hh
    obtain ⟨t, ht, rfl⟩ := b1
    subst a3 a2 a1
    simp only [List.mem_cons, List.not_mem_nil, or_false] at b2
    have go : ∀ b k : Int, 0 < b → b < 1073741824 → 12 * t = k * b → 0 ≤ k → k ≤ 96 → ∃ r, RW' r ∧ S_L_fr_low [TL.rI t, TL.rI b] r := fun b k p1 p2 p3 p4 p5 => ⟨rF k, ⟨k, ⟨p4, p5⟩, rfl⟩, sLow p1 p2 p3⟩
    rcases b2 with rfl | rfl | rfl | rfl | rfl | rfl
    · exact go 1 (12 * t) (by decide) (by decide) (by omega) (by omega) (by omega)
    · exact go 1 (12 * t) (by decide) (by decide) (by omega) (by omega) (by omega)
    · exact go 2 (6 * t) (by decide) (by decide) (by omega) (by omega) (by omega)
    · exact go 3 (4 * t) (by decide) (by decide) (by omega) (by omega) (by omega)
    · exact go 4 (3 * t) (by decide) (by decide) (by omega) (by omega) (by omega)
    · exact go 6 (2 * t) (by decide) (by decide) (by omega) (by omega) (by omega))) hB) xb_dead)
end
end M33
namespace TL
open PySem PySem.Spec PyProof.Rows L2
/-- what an expression gives where this frame's own lists are known -/
structure XEE (X : Cx) (e : Expr) (B : Hp) (N W : List Addr) (G : En) (Ms : MS) (r : Vp) : Prop where
  to : ∀ (σ : L2.St) (H : Hp) (Q : VK), Env B N W G Ms σ H → (∀ v H', Ex H H' → r.p (hide (hid N W Ms) H') v → Q v H') → semE X e σ H Q
section
variable [KK] {X : Cx} {a b c e o : Expr} {B : Hp} {N W : List Addr} {G : En} {Ms : MS} {p q z r : Vp} {rs : List Vp} {pos pos' ps : Pos} {x : Str} {rt : VK} {bk ct : L2.St → Hp → Prop}
theorem xee_xe (h : XE X e G r) : XEE X e B N W G Ms r := ⟨fun σ H Q E hQ => h.to σ H _ Q E.kn hQ⟩
theorem xee_ixM {l : Addr} {qs : List Vp} {i : Int} (k : Nat) (ho : XE X o G (rA l)) (hb : XE X b G (rI i)) (hk : Ms[k]? = some (l, qs)) (hi : atI qs i = some r) (hs : PlainIx b := by intro _ _; rfl) : XEE X (.Subscript o b pos) B N W G Ms r :=
  ⟨fun σ H Q E hQ pins s I => (pe_ix ix_list pe_sem pe_sem hs).run pins s σ H Q I (ho.to σ H _ _ E.kn fun v H1 e1 h1 => hb.to σ H1 _ _ (E.ex e1).kn fun u H2 e2 h2 => by
    have E2 := (E.ex e1).ex e2
    obtain ⟨vs, hv, hA⟩ := E2.cont (l, qs) (List.mem_of_getElem? hk)
    obtain ⟨w, h3, h4⟩ := atI_all hA hi
    exact ⟨l, vs, i, w, h1, h2, SqL.of hv, h3, hQ w H2 (e1.trans e2) h4⟩)⟩
theorem xee_ixT {i : Int} (ha : XEE X a B N W G Ms (rT rs)) (hb : XEE X b B N W G Ms (rI i)) (hi : atI rs i = some r := by rfl) (hK : X.K = KK.K := by rfl) (hs : PlainIx b := by intro _ _; rfl) : XEE X (.Subscript a b pos) B N W G Ms r :=
  ⟨fun σ H Q E hQ pins s I => (pe_ix ix_tup pe_sem pe_sem hs).run pins s σ H Q I (ha.to σ H _ E fun v H1 e1 h1 => hb.to σ H1 _ (E.ex e1) fun u H2 e2 h2 => by
    have h1 := (rT rs).mono (e2.hide _) h1
    obtain ⟨t, vs, hv, hS, hA⟩ := h1
    obtain ⟨w, h3, h4⟩ := atI_all hA hi
    exact ⟨t, vs, i, w, hv, h2, by rw [hK]; exact sqT_mono (hide_le _ _) hS, h3, hQ w H2 (e1.trans e2) h4⟩)⟩
theorem xs_setE (i : Nat) (hN : X.N.Nodup) (he : XEE X e B N W G Ms r) (hi : X.N[i]? = some x := by rfl) (hx : Loc X.env.scope x := by first | exact Or.inl rfl | exact Or.inr rfl)
    (hs : swapsWith e (some (.Name x pos')) pos.line X.env = pure false := by rfl) (hf : X.fn x = true ∨ X.env.scope.names.lookup x = some .local := by first | exact .inl rfl | exact .inr rfl) :
    XS X (.Assign [.Name x pos'] e pos) (Env B N W G Ms) ⟨Env B N W (G.set i (some r)) Ms, rt, bk, ct⟩ :=
  XS.of (ps_set hN hi hx pe_sem hs hf) fun σ H E => he.to σ H _ E fun v H1 e1 h1 => (E.ex e1).set h1
/-- x, y = (e, []), not by a swap: the list is this frame's -/
theorem xs_asg_vm {tg : Expr} {Gf : Addr → En} {k2 : Nat} {pl pt2 : Pos} (ha : XE X a G p) (hg : ∀ l, ∃ ts, XG X tg (rT [p, rA l]) G (Gf l) ts)
    (hs : swapsWithSole [tg] (.Tuple [a, .List [] pl] k2 pt2) pos.line X.env = pure false := by rfl) (hw : swappedStores [tg] (.Tuple [a, .List [] pl] k2 pt2) X.env = pure none := by rfl) (h1 : (assignEach [tg] X.env).map (·.2) = [assign tg X.env] := by rfl)
    (hs1 : starEach [a, .List [] pl] X.env = (false, eval a X.env) :: starEach [.List [] pl] X.env := by rfl) (hs2 : starEach [.List [] pl] X.env = (false, eval (.List [] pl) X.env) :: starEach [] X.env := by rfl) :
    XS X (.Assign [tg] (.Tuple [a, .List [] pl] k2 pt2) pos) (Env B N W G Ms) ⟨fun σ H => ∃ l, Env B N W (Gf l) (Ms ++ [(l, [])]) σ H, rt, bk, ct⟩ :=
  XS.of (ps_asg (pe_tup (pa_cons pe_sem (pa_cons (pe_lst pa_nil) pa_nil hs2) hs1)) pg_sem hs hw h1) fun σ H E => ha.to σ H _ _ E.kn fun v H1 e1 h1 => ⟨by decide, fun l hl => ⟨by show 2 ≤ sizeLine; decide, fun t ht => by
    have E2 := (E.ex e1).newM (rs := []) (vs := []) hl trivial
    have E3 := E2.ex (Ex.new (o := .tup [v, .ref l]) ht)
    obtain ⟨ts, hg⟩ := hg l
    show semG X tg (.ref t) σ _ _
    exact hg.to σ _ _ (.ref t) _ E3.kn ⟨t, [v, .ref l], rfl, SqT.of (hide_new E2.kn.mu ht), ⟨p.mono ((hide_snoc hl).trans ((Ex.new ht).hide _)) h1, rfl, trivial⟩⟩ fun σ' k' _ => ⟨l, E3.re k'⟩⟩⟩
end
end TL
namespace M33
open PySem PySem.Spec PyProof.Rows L2 TL
/-! ### where one stands -/
def endR (m : Mach) (h : Int) (is : List Int) : Int := is.foldl (fun _ i => (door m i).goal) h
theorem endR_snoc (m : Mach) (h i : Int) (is : List Int) : endR m h (is ++ [i]) = (door m i).goal := by unfold endR; rw [List.foldl_append]; rfl
theorem follow_snoc {m : Mach} {i : Int} (hi : i.toNat < m.doors.length) : ∀ {is : List Int} {h : Int}, follow m h is = true → (door m i).room = endR m h is → follow m h (is ++ [i]) = true
  | [], h, _, e => by
    rw [List.nil_append, follow_cons, door_get hi]
    dsimp only
    rw [decide_eq_true (show (door m i).room = h from e)]
    rfl
  | j :: is, h, hf, e => by
    rw [follow_cons] at hf
    rw [List.cons_append, follow_cons]
    cases q : m.doors[j.toNat]? with
    | none => rw [q] at hf; cases hf
    | some d =>
      rw [q] at hf
      dsimp only at hf ⊢
      obtain ⟨h1, h2⟩ := He.ba hf
      rw [h1, Bool.true_and]
      refine follow_snoc hi h2 ?_
      have hd := door_get (m := m) (i := j) (List.getElem?_eq_some_iff.mp q).1
      rw [q] at hd
      rw [e]
      show endR m h (j :: is) = _
      show endR m (door m j).goal is = _
      rw [← Option.some.inj hd]
structure DRun (m : Mach) (n : Nat) (run : List (Int × Int)) : Prop where
  len : run.length ≤ n
  w : ∀ x ∈ run, 0 ≤ x.1 ∧ x.1 ≤ 96
  d : ∀ x ∈ run, 0 ≤ x.2 ∧ x.2.toNat < m.doors.length
  f : follow m 0 (run.map (·.2)) = true
theorem DRun.snoc {m : Mach} {n : Nat} {run : List (Int × Int)} (h : DRun m n run) {k j : Int} (hk : 0 ≤ k ∧ k ≤ 96) (hj : 0 ≤ j ∧ j.toNat < m.doors.length) (hr : (door m j).room = endR m 0 (run.map (·.2))) : DRun m (n + 1) (run ++ [(k, j)]) := by
  refine ⟨?_, fun x hx => ?_, fun x hx => ?_, ?_⟩
  · rw [List.length_append, List.length_singleton]; have := h.len; omega
  · rcases List.mem_append.mp hx with hx | hx
    · exact h.w x hx
    · obtain rfl := List.mem_singleton.mp hx; exact hk
  · rcases List.mem_append.mp hx with hx | hx
    · exact h.d x hx
    · obtain rfl := List.mem_singleton.mp hx; exact hj
  · rw [List.map_append]; exact follow_snoc hj.2 h.f hr
section
variable [KK] {P : Program} {w : World} {mg : Str → Option Value} {base : Heap}
omit [TL.KK] in
theorem shaped_ints (l : List Int) : SeqAt.shaped (.list (l.map PyData.int)) = true := by
  have h1 : ∀ l : List Int, PyData.canLayAll0 (l.map PyData.int) = true := by
    intro l
    induction l with
    | nil => rfl
    | cons p l ih => rw [List.map_cons, PyData.canLayAll0, ih]; rfl
  have h2 : ∀ l : List Int, PyData.depthAll (l.map PyData.int) ≤ 1 := by
    intro l
    induction l with
    | nil => decide
    | cons p l ih =>
      rw [List.map_cons, PyData.depthAll]
      have : (PyData.int p).depth ≤ 1 := by simp [PyData.depth]
      omega
  have := h2 l
  unfold SeqAt.shaped
  rw [show (PyData.list (l.map PyData.int)).canLay0 = PyData.canLayAll0 (l.map PyData.int) by simp [PyData.canLay0], h1 l, show (PyData.list (l.map PyData.int)).depth = PyData.depthAll (l.map PyData.int) + 1 by simp [PyData.depth], decide_eq_true (by omega)]
  rfl
omit [TL.KK] in
theorem eqv_ints (l : List Int) : PyData.eqv (.list (l.map PyData.int)) (.list []) = l.isEmpty := by
  cases l with
  | nil => simp [PyData.eqv, PyData.eqvAll]
  | cons p l => simp [PyData.eqv, PyData.eqvAll]
theorem xt_neInts {X : Cx} {G : En} {a : Expr} {p1 pos : Pos} {k : Nat} {l : List Int} (hr : Room k X.A) (ha : XE X a G (rL (l.map TL.rI))) (hK : X.K = KK.K := by rfl) : XT X (.Compare a [.NotEq] [.List [] p1] pos) G (!l.isEmpty) :=
  (xt_neD (d := .list (l.map PyData.int)) (d' := .list []) (h1 := inferInstanceAs (Dt (rL (l.map TL.rI)) (.list (l.map PyData.int)))) hr ha (xe_lst xa_nil) (shaped_ints l) rfl hK).cast (by rw [eqv_ints])
def RRun (m : Mach) (n : Nat) : Vp → Prop := fun r => ∃ run, DRun m n run ∧ r = rRun run
def S_L_ru_drawn (rs : List Vp) (R : Vp → Prop) : Prop := ∃ (m : Mach) (n : Nat), rs = [rTold m, TL.rI (n : Int)] ∧ MachOk m ∧ n ≤ 8 ∧ R = RRun m n
theorem ok_L_ru_drawn (T : Txt mg) : Fn P w mg base "_law_ru_drawn" 4 (spD S_L_ru_drawn) := by
  obtain ⟨fd, F⟩ := T.fd_L_ru_drawn
  have nd : (["_law_dice_here", "_law_told", "_law_most", "_law_room", "_law_found", "_law_turn", "_law_some", "_law_index", "_law_door"] : List Str).Nodup := by decide +kernel
  refine fnD_ok (N := ["_law_dice_here", "_law_told", "_law_most", "_law_room", "_law_found", "_law_turn", "_law_some", "_law_index", "_law_door"]) (ps := ["_law_dice_here", "_law_told", "_law_most"]) F T.g_L_ru_drawn (fun _ _ _ _ _ _ us hl => match us, hl with | [_, _, _], _ => rfl) ⟨rfl, rfl, rfl, nd, rfl, by decide +kernel, by decide +kernel⟩ (by decide)
    (by intro rs r hS; obtain ⟨m, n, rfl, hm, h8, rfl⟩ := hS <;> rfl) fun cdv A outer s H E d M rs r hr hS => ?_
  have hB := Ex.refl (hide [d] H)
  obtain ⟨m, n, rfl, hm, h8, rfl⟩ := hS
  have h12 := hm.d12
  refine (xb_cons (xs_asg_vm (Gf := fun l => [some (rA d), some (rTold m), some (TL.rI (n : Int)), some (TL.rI 0), some (rA l), none, none, none, none]) xe_int (fun l => ⟨_, xg_tup (xgs_cons (xg_name 3 nd) (xgs_cons (xg_name 4 nd) xgs_nil))⟩)) (xb_ex fun l => ?_))
  let GG : Int → En := fun room => [some (rA d), some (rTold m), none, some (TL.rI room), some (rA l), none, none, none, none]
  refine (xb_cons (Mid := fun σ H' => ∃ run, DRun m n run ∧ TL.Env (hide [d] H) M [d] [none, none, none, none, some (rL (run.map rStep)), none, none, none, none] [] σ H')
    (xsd_for (A := List (Int × Int)) (fun i a => DRun m i a) (fun i a => GG (endR m 0 (a.map (·.2)))) (fun i a => [(l, a.map rStep)]) (xid_range T.f_range (xd_roll (n := (n : Int) + 1) T hr (xe_var 0) (xe_add (xe_var 2) xe_int) (by omega) (by omega)) (fun i hi => by constructor <;> omega)) [] ⟨Nat.le_refl _, fun x h => (nomatch h), fun x h => (nomatch h), rfl⟩ ⟨rfl, rfl, rfl, rfl, trivial⟩ rfl (fun rs hrs B1 i p a hB1 hBd hp hI => ?_) (fun rs hrs a hI σ H' E => ?_))
    (xb_ex fun run => xb_and fun hrun => (xb_cons (xsd_ret ((xd_xe (xe_tuple T.f_tuple (xe_var 4))).imp fun r e => ⟨run, hrun, e⟩) hB) xb_dead)))
  · obtain ⟨n', hn', rfl⟩ := hrs
    obtain ⟨i', hi', rfl⟩ := map_at hp
    have hin : i < n' := by
      have := (List.getElem?_eq_some_iff.mp hi').1
      simpa using this
    have hlen := hI.len
    have hal : a.length ≤ 8 := by omega
    let bf : Door × Nat → Bool := fun q => decide (q.1.room = endR m 0 (a.map (·.2)))
    let is : List Int := (m.doors.zipIdx.filter bf).map fun q => (q.2 : Int)
    have his : is.length ≤ 12 := by
      show ((m.doors.zipIdx.filter bf).map _).length ≤ 12
      rw [List.length_map]
      have := List.length_filter_le bf m.doors.zipIdx
      rw [List.length_zipIdx] at this
      omega
    have hin2 : ∀ j ∈ is, 0 ≤ j ∧ j.toNat < m.doors.length ∧ (door m j).room = endR m 0 (a.map (·.2)) := fun j hj => by
      obtain ⟨q, hq, rfl⟩ := List.mem_map.mp hj
      obtain ⟨hq1, hq2⟩ := List.mem_filter.mp hq
      have hz := zi_at hq1
      have hlt : q.2 < m.doors.length := (List.getElem?_eq_some_iff.mp hz).1
      have hd := door_get (m := m) (i := (q.2 : Int)) (by simpa using hlt)
      rw [Int.toNat_natCast, hz] at hd
      refine ⟨by omega, by simpa using hlt, ?_⟩
      rw [← Option.some.inj hd]
      exact of_decide_eq_true hq2
    refine ⟨_, _, (xg_name 5 nd), (xb_cons (xs_setLc 6 (xs := m.doors.zipIdx) (bf := bf) (f := fun q => TL.rI (q.2 : Int)) (own := [("_law_index", 7), ("_law_door", 8)]) nd (blkOk_by (N := ["_law_dice_here", "_law_told", "_law_most", "_law_room", "_law_found", "_law_turn", "_law_some", "_law_index", "_law_door"]) (by rfl)) ((xi_enumT T.f_enumerate (xe_ixT (xe_var 1) xe_int)).cast (enumP_map m.doors)) (fun x hx' => ⟨_, _, by decide, fun _ _ _ _ _ => ⟨(xg_tup (xgs_cons (xg_name 7 nd) (xgs_cons (xg_name 8 nd) xgs_nil))), xts_one (xt_eq (xe_ixT (xe_var 8) xe_int) (xe_var 3)), fun _ => (xe_var 7)⟩⟩) (lt_of_len (by rw [List.length_zipIdx]; omega))) ?_)⟩
    have hg6 : rL ((m.doors.zipIdx.filter bf).map fun q => TL.rI (q.2 : Int)) = rL (is.map TL.rI) := by
      show _ = rL (((m.doors.zipIdx.filter bf).map fun q => (q.2 : Int)).map TL.rI)
      rw [List.map_map]
      rfl
    refine (xb_cons (Mid := TL.Nx B1 M [d] (fun i a => DRun m i a) (fun i a => GG (endR m 0 (a.map (·.2)))) (fun i a => [(l, a.map rStep)]) (i + 1)) (xs_if (xt_neInts hr ((xe_var 6).cast hg6)) (fun hc => ?_) (fun hc => (xb_nil fun σ H' E => ⟨a, ⟨by omega, hI.w, hI.d, hI.f⟩, E.sub ⟨rfl, rfl, rfl, rfl, trivial⟩⟩))) (xb_nil fun σ H' E => E))
    have hne : 0 < is.length := by
      cases q : is with
      | nil => rw [q] at hc; cases hc
      | cons _ _ => simp
    refine (xb_cons (xsd_app 0 (R := fun r => ∃ x : Int × Int, ((0 ≤ x.1 ∧ x.1 ≤ 96) ∧ x.2 ∈ is) ∧ r = rStep x) (hk := rfl) (xe_var 4) ((xd_tup (xad_cons (xd_callD (R := RW') (ok_L_fr_wait T) hr (xe_var 0) xad_nil (fun rs hh => by subst hh; exact ⟨_, ⟨rfl, rfl⟩, fun r h => h⟩)) (xad_cons (xd_pick T hr (xe_var 0) ((xe_var 6).cast hg6) (by rw [List.length_map]; exact hne) (by rw [List.length_map]; omega)) xad_nil)) (fun rs hh => by obtain ⟨_, _, _, ⟨_, _, _, h, h'⟩, h''⟩ := hh; subst h'' h' h; show 2 ≤ 1000; decide)).imp fun r hh => by
        obtain ⟨rs, ⟨_, _, b1, ⟨_, _, b2, a1, a2⟩, a3⟩, a4⟩ := hh
        obtain ⟨k, hk, rfl⟩ := b1
        obtain ⟨j, hj, rfl⟩ := List.mem_map.mp b2
        subst a4 a3 a2 a1
        exact ⟨(k, j), ⟨hk, hj⟩, rfl⟩) (by rw [List.length_map]; omega)) (xb_ex fun r1 => xb_and fun hr1 => ?_))
    obtain ⟨⟨k, j⟩, ⟨hk, hj⟩, rfl⟩ := hr1
    obtain ⟨j0, j1, j2⟩ := hin2 j hj
    have hat : atI (m.doors.map rDoor) j = some (rDoor (door m j)) := atI_int j0 (map_at' (door_get j1))
    exact (xb_cons (xs_setE 3 nd (xee_ixT (xee_ixT (xee_xe (xe_ixT (xe_var 1) xe_int)) (xee_ixT (r := TL.rI j) (xee_ixM (r := rStep (k, j)) (qs := a.map rStep ++ [rStep (k, j)]) 0 (xe_var 4) (xe_neg xe_int) rfl atI_last) (xee_xe xe_int)) hat) (xee_xe xe_int)))
      (xb_nil fun σ H' E => ⟨a ++ [(k, j)], hI.snoc hk ⟨j0, j1⟩ j2, by
        show TL.Env B1 M [d] (GG (endR m 0 ((a ++ [(k, j)]).map (·.2)))) [(l, (a ++ [(k, j)]).map rStep)] σ H'
        rw [List.map_append, List.map_append]
        show TL.Env B1 M [d] (GG (endR m 0 (a.map (·.2) ++ [j]))) _ σ H'
        rw [endR_snoc]
        exact E.sub ⟨rfl, rfl, rfl, rfl, trivial⟩⟩))
  · obtain ⟨n', hn', rfl⟩ := hrs
    rw [List.length_map, List.length_range] at hI
    exact ⟨a, ⟨by have := hI.len; omega, hI.w, hI.d, hI.f⟩, (Env.frz (Ms := []) (i := 4) E rfl).sub ⟨rfl, trivial⟩⟩
end
end M33
namespace M33
open PySem PySem.Spec PyProof.Rows L2 TL
section
variable [KK] {P : Program} {w : World} {mg : Str → Option Value} {base : Heap}
structure MachIn (c n many : Nat) (m : Mach) : Prop where
  ok : MachOk m
  c : m.cl = c
  n : m.lims.length = n
  d : m.doors.length ≤ many
def RMach (c n many : Nat) : Vp → Prop := fun r => ∃ m, MachIn c n many m ∧ r = rTold m
def LimOk (c : Nat) (l : List Int) : Prop := l.length = c ∧ ∀ x ∈ l, 0 ≤ x ∧ x ≤ 4
def S_L_ne_machine (rs : List Vp) (R : Vp → Prop) : Prop := ∃ c n many : Nat, rs = [TL.rI (c : Int), TL.rI (n : Int), TL.rI (many : Int)] ∧ 1 ≤ c ∧ c ≤ 3 ∧ 1 ≤ n ∧ n ≤ 6 ∧ many ≤ 12 ∧ R = RMach c n many
theorem ok_L_ne_machine (T : Txt mg) : Fn P w mg base "_law_ne_machine" 4 (spD S_L_ne_machine) := by
  obtain ⟨fd, F⟩ := T.fd_L_ne_machine
  have nd : (["_law_dice_here", "_law_clocks", "_law_rooms", "_law_many", "_law_doors", "_law_limits", "_law_turn", "_law_room", "_law_clock"] : List Str).Nodup := by decide +kernel
  refine fnD_ok (N := ["_law_dice_here", "_law_clocks", "_law_rooms", "_law_many", "_law_doors", "_law_limits", "_law_turn", "_law_room", "_law_clock"]) (ps := ["_law_dice_here", "_law_clocks", "_law_rooms", "_law_many"]) F T.g_L_ne_machine (fun _ _ _ _ _ _ us hl => match us, hl with | [_, _, _, _], _ => rfl) ⟨rfl, rfl, rfl, nd, rfl, by decide +kernel, by decide +kernel⟩ (by decide)
    (by intro rs r hS; obtain ⟨c, n, many, rfl, c1, c3, n1, n6, h12, rfl⟩ := hS <;> rfl) fun cdv A outer s H E d M rs r hr hS => ?_
  have hB := Ex.refl (hide [d] H)
  obtain ⟨c, n, many, rfl, c1, c3, n1, n6, h12, rfl⟩ := hS
  refine (xb_cons (xsd_setLc 4 true (XS' := fun xs => ∃ k, k ≤ many ∧ xs = List.range k) (qf := fun i : Nat => TL.rI (i : Int)) (F := fun _ r => RDoor c n r) (P := fun b => b = true) (own := [("_law_turn", 6)]) nd (blkOk_by (N := ["_law_dice_here", "_law_clocks", "_law_rooms", "_law_many", "_law_doors", "_law_limits", "_law_turn", "_law_room", "_law_clock"]) (by rfl)) ((xid_range T.f_range (xd_roll (n := (many : Int) + 1) T hr (xe_var 0) (xe_add (xe_var 3) xe_int) (by omega) (by omega)) (fun i hi => by constructor <;> omega)).imp fun rs hh => by
      obtain ⟨k, hk, e⟩ := hh
      exact ⟨_, ⟨k, by omega, rfl⟩, e⟩)
    (fun xs hxs x hx => ⟨_, _, by decide, fun _ _ _ _ _ => ⟨(xg_name 6 nd), xtsd_nil, xd_callD (R := RDoor c n) (ok_L_ma_door T) hr (xe_var 0) (xad_xa (xa_cons (xe_var 1) (xa_cons (xe_var 2) xa_nil))) (fun rs hh => by subst hh; exact ⟨_, ⟨c, n, rfl, c3, n1, n6, rfl⟩, fun r h => h⟩)⟩⟩) (fun _ b h => h) (fun xs hxs => by obtain ⟨k, hk, rfl⟩ := hxs; rw [List.length_range]; omega)) (xb_ex fun r1 => xb_and fun hr1 => ?_))
  obtain ⟨xs1, ⟨k1, hk1, hxs1⟩, hl1⟩ := hr1
  obtain ⟨ds, ds1, ds2, rfl⟩ := lres_all (f := rDoor) (Q := DoorOk c n) (fun x r h => h) hl1
  rw [hxs1, List.length_range] at ds1
  refine (xb_cons (xsd_setLc 5 true (XS' := fun xs => xs = List.range n) (qf := fun i : Nat => TL.rI (i : Int)) (F := fun _ r => ∃ l, LimOk c l ∧ r = rLim l) (P := fun b => b = true) (own := [("_law_room", 7)]) nd (blkOk_by (N := ["_law_dice_here", "_law_clocks", "_law_rooms", "_law_many", "_law_doors", "_law_limits", "_law_turn", "_law_room", "_law_clock"]) (by rfl)) ((xid_xi (xi_range T.f_range (xe_var 2) (by omega))).imp fun rs h => ⟨_, rfl, h⟩)
    (fun xs hxs x hx => ⟨_, _, by decide, fun _ _ _ _ _ => ⟨(xg_name 7 nd), xtsd_nil, (xd_tuple (RS := fun rs => ∃ l, LimOk c l ∧ rs = l.map TL.rI) T.f_tuple ((xd_lc (XS' := fun xs => xs = List.range c) (qf := fun i : Nat => TL.rI (i : Int)) (F := fun _ r => ∃ i : Int, (0 ≤ i ∧ i ≤ 4) ∧ r = TL.rI i) (P := fun b => b = true) true nd (own := [("_law_clock", 8)]) (blkOk_by (N := ["_law_dice_here", "_law_clocks", "_law_rooms", "_law_many", "_law_doors", "_law_limits", "_law_turn", "_law_room", "_law_clock"]) (by rfl)) ((xid_xi (xi_range T.f_range (xe_var 1) (by omega))).imp fun rs h => ⟨_, rfl, h⟩)
      (fun xs hxs x hx => ⟨_, _, by decide, fun _ _ _ _ _ => ⟨(xg_name 8 nd), xtsd_nil, (xd_pick T hr (xe_var 0) (xe_lst (xa_cons xe_int (xa_cons xe_int (xa_cons xe_int (xa_cons xe_int (xa_cons xe_int xa_nil)))))) (by decide) (by decide)).imp fun r hh => by
        simp only [List.mem_cons, List.not_mem_nil, or_false] at hh
        rcases hh with rfl | rfl | rfl | rfl | rfl <;> exact ⟨_, by decide, rfl⟩⟩⟩) (fun _ b h => h) (fun xs hxs => by subst hxs; rw [List.length_range]; omega)).imp fun r ⟨xs, hxs, hl⟩ => by
        obtain ⟨l, k1, k2, k3⟩ := lres_all (f := TL.rI) (Q := fun i => 0 ≤ i ∧ i ≤ 4) (fun x r h => h) hl
        exact ⟨_, ⟨l, ⟨by rw [k1, hxs, List.length_range], k2⟩, rfl⟩, k3⟩)).imp fun r ⟨rs, ⟨l, h2, h3⟩, h4⟩ => ⟨l, h2, by rw [h4, h3]; rfl⟩⟩⟩) (fun _ b h => h) (fun xs hxs => by subst hxs; rw [List.length_range]; omega)) (xb_ex fun r1 => xb_and fun hr1 => ?_))
  obtain ⟨xs2, hxs2, hl2⟩ := hr1
  obtain ⟨ls, ls1, ls2, rfl⟩ := lres_all (f := rLim) (Q := LimOk c) (fun x r h => h) hl2
  rw [hxs2, List.length_range] at ls1
  exact (xb_cons (xsd_ret ((xd_xe (xe_tup (xa_cons (xe_var 1) (xa_cons (xe_tuple T.f_tuple (xe_var 5)) (xa_cons (xe_tuple T.f_tuple (xe_var 4)) xa_nil))))).imp fun r e =>
    ⟨⟨c, ls, ds⟩, ⟨⟨c1, c3, by show 1 ≤ ls.length; omega, by show ls.length ≤ 6; omega, fun l hl => (ls2 l hl).1, fun l hl => (ls2 l hl).2, by show ds.length ≤ 12; omega, fun dr hdr => by show DoorOk c ls.length dr; rw [ls1]; exact ds2 dr hdr⟩, rfl, ls1, by show ds.length ≤ many; omega⟩, e⟩) hB) xb_dead)
/-! ### two machines and shared pairs -/
omit [TL.KK] in
theorem plt1 {p q : Int × Int} (h : p.1 < q.1) : PLt p q := by
  unfold PLt
  rw [HT.lexLt_cons, if_neg (by omega), decide_eq_true h]
omit [TL.KK] in
theorem plt2 {p q : Int × Int} (h1 : p.1 = q.1) (h2 : p.2 < q.2) : PLt p q := by
  unfold PLt
  rw [HT.lexLt_cons, if_pos h1, HT.lexLt_cons, if_neg (by omega), decide_eq_true h2]
theorem cut2 {α : Type} {f : α → Vp} (l : List α) : cutP (l.map f) none (some 2) = (l.take 2).map f := by
  unfold cutP
  rw [HT.sIx_none, List.drop_zero, Nat.sub_zero, List.map_take]
  show List.take (HT.sIx _ _ (some ((2 : Nat) : Int))) _ = _
  rw [HT.sIx_nat, List.length_map]
  by_cases h : 2 ≤ l.length
  · rw [Nat.min_eq_left h]
  · rw [Nat.min_eq_right (by omega), List.take_of_length_le (by rw [List.length_map]; omega), List.take_of_length_le (by rw [List.length_map]; omega)]
def RNet : Vp → Prop := fun r => ∃ one other sh, NetIn one other sh ∧ r = rT [rTold one, rTold other, rT (sh.map rPr)]
def S_L_ne_drawn (rs : List Vp) (R : Vp → Prop) : Prop := rs = [] ∧ R = RNet
structure PrsIn (i n : Nat) (a : List (Int × Int)) : Prop where
  len : a.length ≤ 12 * i
  b1 : ∀ p ∈ a, 0 ≤ p.1 ∧ p.1 < i
  b2 : ∀ p ∈ a, 0 ≤ p.2 ∧ p.2 < n
  asc : a.Pairwise PLt
theorem ok_L_ne_drawn (T : Txt mg) : Fn P w mg base "_law_ne_drawn" 5 (spD S_L_ne_drawn) := by
  obtain ⟨fd, F⟩ := T.fd_L_ne_drawn
  have nd : (["_law_dice_here", "_law_one", "_law_other", "_law_pairs", "_law_first", "_law_last"] : List Str).Nodup := by decide +kernel
  refine fnD_ok (N := ["_law_dice_here", "_law_one", "_law_other", "_law_pairs", "_law_first", "_law_last"]) (ps := ["_law_dice_here"]) F T.g_L_ne_drawn (fun _ _ _ _ _ _ us hl => match us, hl with | [_], _ => rfl) ⟨rfl, rfl, rfl, nd, rfl, by decide +kernel, by decide +kernel⟩ (by decide)
    (by intro rs r hS; obtain ⟨rfl, rfl⟩ := hS <;> rfl) fun cdv A outer s H E d M rs r hr hS => ?_
  have hB := Ex.refl (hide [d] H)
  obtain ⟨rfl, rfl⟩ := hS
  have r2 : ∀ {X : Cx}, True := trivial
  refine (xb_cons (xsd_set (R := fun r => ∃ c n : Nat, c ≤ 2 ∧ n ≤ 2 ∧ RMach c n 3 r) 1 nd (xd_callD (ok_L_ne_machine T) hr (xe_var 0) (xad_cons (xd_addI (Z := fun j => 1 ≤ j ∧ j ≤ 2) (xd_v xe_int) (xd_roll T hr (xe_var 0) xe_int (by decide) (by decide)) (fun i j hi hj => by subst hi; constructor <;> omega)) (xad_cons (xd_addI (Z := fun j => 1 ≤ j ∧ j ≤ 2) (xd_v xe_int) (xd_roll T hr (xe_var 0) xe_int (by decide) (by decide)) (fun i j hi hj => by subst hi; constructor <;> omega)) (xad_cons (xd_xe xe_int) xad_nil))) (fun rs hh => by
      obtain ⟨_, _, b1, ⟨_, _, b2, ⟨_, _, b3, a1, a2⟩, a3⟩, a4⟩ := hh
      obtain ⟨c, hc, rfl⟩ := b1
      obtain ⟨n, hn, rfl⟩ := b2
      subst a4 a3 a2 a1 b3
      obtain ⟨c, rfl⟩ : ∃ k : Nat, c = k := ⟨c.toNat, by omega⟩
      obtain ⟨n, rfl⟩ : ∃ k : Nat, n = k := ⟨n.toNat, by omega⟩
      exact ⟨_, ⟨c, n, 3, rfl, by omega, by omega, by omega, by omega, by decide, rfl⟩, fun r h => ⟨c, n, by omega, by omega, h⟩⟩))) (xb_ex fun r1 => xb_and fun hr1 => ?_))
  obtain ⟨ca, na, ha1, ha2, one, hone, rfl⟩ := hr1
  refine (xb_cons (xsd_par_vm 2 3 (R := fun r => ∃ n : Nat, n ≤ 2 ∧ RMach 1 n 2 r) nd (xd_callD (ok_L_ne_machine T) hr (xe_var 0) (xad_cons (xd_xe xe_int) (xad_cons (xd_addI (Z := fun j => 1 ≤ j ∧ j ≤ 2) (xd_v xe_int) (xd_roll T hr (xe_var 0) xe_int (by decide) (by decide)) (fun i j hi hj => by subst hi; constructor <;> omega)) (xad_cons (xd_xe xe_int) xad_nil))) (fun rs hh => by
      obtain ⟨_, _, b1, ⟨_, _, b2, ⟨_, _, b3, a1, a2⟩, a3⟩, a4⟩ := hh
      obtain ⟨n, hn, rfl⟩ := b2
      subst a4 a3 a2 a1 b3 b1
      obtain ⟨n, rfl⟩ : ∃ k : Nat, n = k := ⟨n.toNat, by omega⟩
      exact ⟨_, ⟨1, n, 2, rfl, by decide, by decide, by omega, by omega, by decide, rfl⟩, fun r h => ⟨n, by omega, h⟩⟩))) (xb_ex fun r1 => xb_ex fun l => xb_and fun hr1 => ?_))
  obtain ⟨nb, hb2, other, hother, rfl⟩ := hr1
  have od := hone.d
  have ol := hone.n
  have oc := hone.c
  have td := hother.d
  have tl := hother.n
  have tc := hother.c
  let GG : En := [some (rA d), some (rTold one), some (rTold other), some (rA l), none, none]
  refine (xb_cons (Mid := fun σ H' => ∃ a, PrsIn one.doors.length other.doors.length a ∧ TL.Env (hide [d] H) M [d] [some (rA d), some (rTold one), some (rTold other), some (rL (a.map rPr)), none, none] [] σ H')
    (xsd_for (A := List (Int × Int)) (fun i a => PrsIn i other.doors.length a) (fun i a => GG) (fun i a => [(l, a.map rPr)]) ((xid_xi (xi_range (n := one.doors.length) T.f_range ((xe_len T.f_len (xe_ixT (xe_var 1) xe_int)).cast (by rw [List.length_map])) (by omega))).imp fun rs h => h) [] ⟨Nat.le_refl _, fun x h => (nomatch h), fun x h => (nomatch h), .nil⟩ ⟨rfl, rfl, rfl, rfl, trivial⟩ rfl (fun rs hrs B1 i p a hB1 hBd hp hI => ?_) (fun rs hrs a hI σ H' E => ?_))
    (xb_ex fun a => xb_and fun ha => ?_))
  · subst hrs
    obtain ⟨i', hi', rfl⟩ := map_at hp
    have hii : i' = i ∧ i < one.doors.length := by
      obtain ⟨hl, e⟩ := List.getElem?_eq_some_iff.mp hi'
      rw [List.getElem_range] at e
      rw [List.length_range] at hl
      exact ⟨e.symm, hl⟩
    obtain ⟨rfl, hil⟩ := hii
    have hlen := hI.len
    refine ⟨_, _, (xg_name 4 nd), (xb_cons (xsd_ext 0 (RS := fun rs => ∃ l : List Int, ((∀ x ∈ l, 0 ≤ x ∧ x < other.doors.length) ∧ l.Pairwise (· < ·) ∧ l.length ≤ 12) ∧ rs = l.map fun j => rPr (i', j)) (hk := rfl) (xe_var 3) ((xd_lc (XS' := fun xs => xs = List.range other.doors.length) (qf := fun i : Nat => TL.rI (i : Int)) (F := fun j r => r = rPr ((i' : Int), (j : Int))) (P := fun _ => True) false nd (own := [("_law_last", 5)]) (blkOk_by (N := ["_law_dice_here", "_law_one", "_law_other", "_law_pairs", "_law_first", "_law_last"]) (by rfl)) ((xid_xi (xi_range (n := other.doors.length) T.f_range ((xe_len T.f_len (xe_ixT (xe_var 2) xe_int)).cast (by rw [List.length_map])) (by omega))).imp fun rs h => ⟨_, rfl, h⟩) (fun xs hxs x hx => ⟨_, _, by decide, fun _ _ _ _ _ => ⟨(xg_name 5 nd), xtsd_one (xdt_eq (xd_roll T hr (xe_var 0) xe_int (by decide) (by decide)) (xd_v xe_int)), (xd_xe (xe_tup (xa_cons (xe_var 4) (xa_cons (xe_var 5) xa_nil)))).imp fun r e => e⟩⟩) (fun h => nomatch h) (fun xs hxs => by subst hxs; rw [List.length_range]; omega)).imp fun r ⟨xs, hxs, zs, h2, h3, h4⟩ => by
        have hsub : (zs.map (·.1)).Sublist (List.range other.doors.length) := by rw [← hxs]; exact h2
        refine ⟨_, ⟨zs.map fun z => (z.1 : Int), ⟨fun x hx => ?_, ?_, ?_⟩, rfl⟩, ?_⟩
        · obtain ⟨z, hz, rfl⟩ := List.mem_map.mp hx
          have := List.mem_range.mp (hsub.subset (List.mem_map.mpr ⟨z, hz, rfl⟩))
          constructor <;> omega
        · have := List.Pairwise.sublist hsub List.pairwise_lt_range
          rw [List.pairwise_map] at this ⊢
          exact this.imp fun h => by omega
        · have := hsub.length_le
          rw [List.length_map, List.length_range] at this
          rw [List.length_map]
          omega
        · rw [h4, List.map_map]
          congr 1
          exact List.map_congr_left fun z hz => h3 z hz) (fun rs hh => by
        obtain ⟨l', ⟨_, _, hl'⟩, rfl⟩ := hh
        rw [List.length_map, List.length_map]
        omega)) (xb_ex fun rs => xb_and fun hrs => ?_))⟩
    obtain ⟨l', ⟨k1, k2, k3⟩, rfl⟩ := hrs
    refine (xb_nil fun σ H' E => ⟨a ++ l'.map fun j => ((i' : Int), j), ⟨?_, fun p hp => ?_, fun p hp => ?_, ?_⟩, ?_⟩)
    · rw [List.length_append, List.length_map]; omega
    · rcases List.mem_append.mp hp with hp | hp
      · have := hI.b1 p hp
        constructor <;> omega
      · obtain ⟨j, hj, rfl⟩ := List.mem_map.mp hp
        constructor
        · show (0 : Int) ≤ (i' : Int); omega
        · show (i' : Int) < ((i' + 1 : Nat) : Int); omega
    · rcases List.mem_append.mp hp with hp | hp
      · exact hI.b2 p hp
      · obtain ⟨j, hj, rfl⟩ := List.mem_map.mp hp
        exact k1 j hj
    · refine List.pairwise_append.mpr ⟨hI.asc, ?_, fun p hp q hq => ?_⟩
      · exact List.pairwise_map.mpr (k2.imp fun {x y} (h : x < y) => plt2 (p := ((i' : Int), x)) (q := ((i' : Int), y)) rfl h)
      · obtain ⟨j, hj, rfl⟩ := List.mem_map.mp hq
        exact plt1 (hI.b1 p hp).2
    · show TL.Env B1 M [d] GG [(l, (a ++ l'.map fun j => ((i' : Int), j)).map rPr)] σ H'
      rw [List.map_append, List.map_map]
      exact E.sub ⟨rfl, rfl, rfl, rfl, trivial⟩
  · subst hrs
    rw [List.length_map, List.length_range] at hI
    exact ⟨a, hI, (Env.frz (Ms := []) (i := 3) E rfl).sub ⟨rfl, rfl, rfl, rfl, trivial⟩⟩
  · have h1 := hone.ok
    have h2 := hother.ok
    have ht : (a.take 2).length ≤ 2 := by rw [List.length_take]; omega
    have m1 : one.doors.length * other.lims.length ≤ 3 * 2 := Nat.mul_le_mul od (by omega)
    have m2 : other.doors.length * one.lims.length ≤ 2 * 2 := Nat.mul_le_mul td (by omega)
    have m3 : one.lims.length * other.lims.length ≤ 2 * 2 := Nat.mul_le_mul (by omega) (by omega)
    have hnet : NetIn one other (a.take 2) := ⟨h1, h2, by omega, by omega, by omega, fun p hp => by have := ha.b1 p (List.mem_of_mem_take hp); constructor <;> omega, fun p hp => by have := ha.b2 p (List.mem_of_mem_take hp); constructor <;> omega, ha.asc.sublist (List.take_sublist 2 a)⟩
    exact (xb_cons (xsd_ret ((xd_xe (xe_tup (xa_cons (xe_var 1) (xa_cons (xe_var 2) (xa_cons (xe_tuple T.f_tuple ((xe_slL (xe_var 3) xo_none (xo_some xe_int)).cast (by rw [cut2]))) xa_nil))))).imp fun r e => ⟨one, other, a.take 2, hnet, e⟩) hB) xb_dead)
end
end M33
namespace TL
open PySem PySem.Spec PyProof.Rows L2
/-- tg = e, e one of a kind -/
theorem xsd_asgP {X : Cx} {B : Hp} {N : List Addr} {G : En} {Ms : MS} {rt : VK} {bk ct : L2.St → Hp → Prop} {e : Expr} {pos : Pos} {d : Addr} {A : Type} {Q : A → Prop} {f : A → Vp} {Gr : A → En} {tg : Expr} (he : XD X e G d (fun r => ∃ a, Q a ∧ r = f a)) (hg : ∀ a, Q a → ∃ ts, XG X tg (f a) G (Gr a) ts) (hs : swapsWithSole [tg] e pos.line X.env = pure false := by rfl) (hw : swappedStores [tg] e X.env = pure none := by rfl) (h1 : (assignEach [tg] X.env).map (·.2) = [assign tg X.env] := by rfl) :
    XS X (.Assign [tg] e pos) (Env B N [d] G Ms) ⟨fun σ H => ∃ a, Q a ∧ Env B N [d] (Gr a) Ms σ H, rt, bk, ct⟩ :=
  XS.of (ps_asg pe_sem pg_sem hs hw h1) fun σ H E => he.to σ H _ _ E.kn E.din E.dd fun r v H1 hr e1 h1 => by
    obtain ⟨a, ha, rfl⟩ := hr
    obtain ⟨ts, hg⟩ := hg a ha
    exact hg.to σ H1 _ v _ (E.dx e1).kn h1 fun σ' k' _ => ⟨a, ha, (E.dx e1).re k'⟩
end TL
namespace M33
open PySem PySem.Spec PyProof.Rows L2 TL
/-! ### stays as data -/
def pyF (k : Int) : PyData := .tuple [.int (fnum k), .int (fden k)]
def pyStep (x : Int × Int) : PyData := .tuple [pyF x.1, .int x.2]
def pyRun (r : List (Int × Int)) : PyData := .tuple (r.map pyStep)
def pyStay (s : List (Int × Int) × Int) : PyData := .tuple [pyRun s.1, pyF s.2]
structure Lay (d : PyData) (n : Nat) : Prop where
  c : d.canLay0 = true
  d : d.depth ≤ n
theorem layAll {n : Nat} : ∀ {ds : List PyData}, (∀ d ∈ ds, Lay d n) → PyData.canLayAll0 ds = true ∧ PyData.depthAll ds ≤ n
  | [], _ => ⟨rfl, Nat.zero_le _⟩
  | d :: ds, h => by
    obtain ⟨h1, h2⟩ := h d List.mem_cons_self
    obtain ⟨h3, h4⟩ := layAll fun e he => h e (List.mem_cons_of_mem _ he)
    refine ⟨by rw [PyData.canLayAll0, h1, h3]; rfl, ?_⟩
    rw [PyData.depthAll]
    omega
theorem layT {n : Nat} {ds : List PyData} (h : ∀ d ∈ ds, Lay d n) : Lay (.tuple ds) (n + 1) := by
  obtain ⟨h1, h2⟩ := layAll h
  exact ⟨by rw [PyData.canLay0]; exact h1, by rw [PyData.depth]; omega⟩
theorem layL {n : Nat} {ds : List PyData} (h : ∀ d ∈ ds, Lay d n) : Lay (.list ds) (n + 1) := by
  obtain ⟨h1, h2⟩ := layAll h
  exact ⟨by rw [PyData.canLay0]; exact h1, by rw [PyData.depth]; omega⟩
theorem lay_i (i : Int) (n : Nat) : Lay (.int i) n := ⟨by rw [PyData.canLay0], by rw [PyData.depth]; omega⟩
theorem Lay.mono {d : PyData} {n m : Nat} (h : Lay d n) (e : n ≤ m) : Lay d m := ⟨h.c, Nat.le_trans h.d e⟩
theorem lay_two {a b : PyData} {n : Nat} (h1 : Lay a n) (h2 : Lay b n) : ∀ d ∈ [a, b], Lay d n := fun d hd => by
  simp only [List.mem_cons, List.not_mem_nil, or_false] at hd
  rcases hd with rfl | rfl
  · exact h1
  · exact h2
theorem lay_F (k : Int) : Lay (pyF k) 1 := layT (lay_two (lay_i _ 0) (lay_i _ 0))
theorem lay_step (x : Int × Int) : Lay (pyStep x) 2 := layT (lay_two (lay_F _) (lay_i _ 1))
theorem lay_run (r : List (Int × Int)) : Lay (pyRun r) 3 := layT fun d hd => by obtain ⟨x, _, rfl⟩ := List.mem_map.mp hd; exact lay_step x
theorem lay_stay (s : List (Int × Int) × Int) : Lay (pyStay s) 4 := layT (lay_two (lay_run _) ((lay_F _).mono (by decide)))
theorem Lay.shaped {d : PyData} {n : Nat} (h : Lay d n) (hn : n ≤ 64) : SeqAt.shaped d = true := by
  unfold SeqAt.shaped
  rw [h.c, decide_eq_true (Nat.le_trans h.d hn)]
  rfl
section
variable [KK] {P : Program} {w : World} {mg : Str → Option Value} {base : Heap}
instance dtF (k : Int) : Dt (rF k) (pyF k) := inferInstanceAs (Dt (rT [TL.rI (fnum k), TL.rI (fden k)]) (.tuple [.int (fnum k), .int (fden k)]))
instance dtStep (x : Int × Int) : Dt (rStep x) (pyStep x) := inferInstanceAs (Dt (rT [rF x.1, TL.rI x.2]) (.tuple [pyF x.1, .int x.2]))
instance dtRun (r : List (Int × Int)) : Dt (rRun r) (pyRun r) := inferInstanceAs (Dt (rT (r.map rStep)) (.tuple (r.map pyStep)))
instance dtStay (s : List (Int × Int) × Int) : Dt (rStay s) (pyStay s) := inferInstanceAs (Dt (rT [rRun s.1, rF s.2]) (.tuple [pyRun s.1, pyF s.2]))
/-- the same on both sides -/
theorem xt_neSame {X : Cx} {G : En} {a b : Expr} {pos : Pos} {k n : Nat} {p : Vp} {dd : PyData} [h : Dt p dd] (hr : Room k X.A) (ha : XE X a G p) (hb : XE X b G p) (hl : Lay dd n) (hn : n ≤ 64 := by decide) (hK : X.K = KK.K := by rfl) : XT X (.Compare a [.NotEq] [b] pos) G false :=
  (xt_neD hr ha hb (hl.shaped hn) (hl.shaped hn) hK).cast (by rw [SeqAt.eqv_refl dd hl.c]; rfl)
theorem xe_eqSame {X : Cx} {G : En} {a b : Expr} {pos : Pos} {k n : Nat} {p : Vp} {dd : PyData} [h : Dt p dd] (hr : Room k X.A) (ha : XE X a G p) (hb : XE X b G p) (hl : Lay dd n) (hn : n ≤ 64 := by decide) (hK : X.K = KK.K := by rfl) : XE X (.Compare a [.Eq] [b] pos) G (rB true) :=
  (xe_eqD hr ha hb (hl.shaped hn) (hl.shaped hn) hK).cast (by rw [SeqAt.eqv_refl dd hl.c])
omit [TL.KK] in
theorem lneed_b {m : Mach} (hm : MachOk m) {st : List (Int × Int) × Int} (h : StayOk m st) : 0 ≤ lneed m st ∧ lneed m st ≤ 400000 := by
  have hs := stf_ok hm h.r st.1.length (Nat.le_refl _)
  have hlen := h.r.len
  have hg := grownK_b hs.b h.w0
  have w1 := h.w1
  have hn := wneed_b hm h.r
  have ho := ovU_b hg (lim_b hm hs.r1)
  unfold lneed
  refine mx0_b (by decide) fun k hk => ?_
  rcases List.mem_cons.mp hk with rfl | hk
  · have := hn.2
    omega
  · have := (ho k hk).2
    omega
theorem xt_orF2 {X : Cx} {G : En} {a b : Expr} {pos : Pos} (ha : XT X a G false) (hb : XT X b G false) : XT X (.BoolOp .Or [a, b] pos) G false := XW.t (xw_orF ha (xw_or1 hb))
def RStay (m : Mach) : Vp → Prop := fun r => ∃ st, DStay m st ∧ r = rStay st
def S_L_right (rs : List Vp) (R : Vp → Prop) : Prop := rs = [] ∧ R = fun r => r = rB true
theorem ok_L_right (T : Txt mg) : Fn P w mg base "_law_right" 14 (spD S_L_right) := by
  obtain ⟨fd, F⟩ := T.fd_L_right
  have nd : (["_law_dice_here", "_law_one", "_law_other", "_law_shared", "_law_told", "_law_sides", "_law_net", "_law_stay", "_law_due", "_law_margins", "_law_value"] : List Str).Nodup := by decide +kernel
  refine fnD_ok (N := ["_law_dice_here", "_law_one", "_law_other", "_law_shared", "_law_told", "_law_sides", "_law_net", "_law_stay", "_law_due", "_law_margins", "_law_value"]) (ps := ["_law_dice_here"]) F T.g_L_right (fun _ _ _ _ _ _ us hl => match us, hl with | [_], _ => rfl) ⟨rfl, rfl, rfl, nd, rfl, by decide +kernel, by decide +kernel⟩ (by decide)
    (by intro rs r hS; obtain ⟨rfl, rfl⟩ := hS <;> rfl) fun cdv A outer s H E d M rs r hr hS => ?_
  have hB := Ex.refl (hide [d] H)
  obtain ⟨rfl, rfl⟩ := hS
  refine (xb_cons (xsd_asgP (A := Mach × Mach × List (Int × Int)) (Q := fun a => NetIn a.1 a.2.1 a.2.2) (f := fun a => rT [rTold a.1, rTold a.2.1, rT (a.2.2.map rPr)]) (Gr := fun a => [some (rA d), some (rTold a.1), some (rTold a.2.1), some (rT (a.2.2.map rPr)), none, none, none, none, none, none, none]) (xd_callD (ok_L_ne_drawn T) hr (xe_var 0) xad_nil (fun rs hh => by subst hh; exact ⟨_, ⟨rfl, rfl⟩, fun r ⟨one, other, sh, h1, h2⟩ => ⟨(one, other, sh), h1, h2⟩⟩)) (fun a ha => ⟨_, xg_tup (xgs_cons (xg_name 1 nd) (xgs_cons (xg_name 2 nd) (xgs_cons (xg_name 3 nd) xgs_nil)))⟩)) (xb_ex fun a => xb_and fun hnet => ?_))
  obtain ⟨one, other, sh⟩ := a
  dsimp only at hnet ⊢
  have h1 := hnet.h1
  have h2 := hnet.h2
  have hm := nMach_ok hnet
  refine (xb_cons (xs_asg (xe_call (ok_L_ne_net T) hr (xa_cons (xe_var 1) (xa_cons (xe_var 2) (xa_cons (xe_var 3) xa_nil))) ⟨one, other, sh, rfl, hnet, rfl⟩) (xg_tup (xgs_cons (xg_name 4 nd) (xgs_cons (xg_name 5 nd) xgs_nil)))) ?_)
  refine (xb_cons (xs_set 6 nd (xe_Net T hr (xa_cons (xe_Machine T hr (xa_cons (xe_ixT (xe_var 1) xe_int) (xa_cons (xe_ixT (xe_var 1) xe_int) (xa_cons (xe_ixT (xe_var 1) xe_int) xa_nil))) h1) (xa_cons (xe_Machine T hr (xa_cons (xe_ixT (xe_var 2) xe_int) (xa_cons (xe_ixT (xe_var 2) xe_int) (xa_cons (xe_ixT (xe_var 2) xe_int) xa_nil))) h2) (xa_cons (xe_var 3) xa_nil))) hnet)) ?_)
  refine (xb_cons (xsd_set (R := RStay (nMach one other sh)) 7 nd ((xd_tup (xad_cons (xd_callD (R := RRun (nMach one other sh) 8) (ok_L_ru_drawn T) hr (xe_var 0) (xad_xa (xa_cons (xe_var 4) (xa_cons xe_int xa_nil))) (fun rs hh => by subst hh; exact ⟨_, ⟨nMach one other sh, 8, rfl, hm, by decide, rfl⟩, fun r h => h⟩)) (xad_cons (xd_callD (R := RW') (ok_L_fr_wait T) hr (xe_var 0) xad_nil (fun rs hh => by subst hh; exact ⟨_, ⟨rfl, rfl⟩, fun r h => h⟩)) xad_nil)) (fun rs hh => by obtain ⟨_, _, _, ⟨_, _, _, h, h'⟩, h''⟩ := hh; subst h'' h' h; show 2 ≤ 1000; decide)).imp fun r hh => by
      obtain ⟨rs, ⟨_, _, b1, ⟨_, _, b2, a1, a2⟩, a3⟩, a4⟩ := hh
      obtain ⟨run, hrun, rfl⟩ := b1
      obtain ⟨k, hk, rfl⟩ := b2
      subst a4 a3 a2 a1
      exact ⟨(run, k), ⟨hrun.len, hrun.w, hrun.d, hrun.f, hk.1, hk.2⟩, rfl⟩)) (xb_ex fun r1 => xb_and fun hr1 => ?_))
  obtain ⟨st, hst, rfl⟩ := hr1
  have hok := hst.ok
  have L := law_ok hnet hm hst
  refine (xb_cons (xs_set 8 nd (xe_call (ok_L_ne_split T) hr (xa_cons (xe_var 5) (xa_cons (xe_var 7) xa_nil)) ⟨nSides one other sh, st, nMach one other sh, rfl, hok, L.sd, rfl⟩)) ?_)
  refine xb_ifF (xt_orF2 (xt_neSame (n := 5) hr (xe_call (ok_split T) hr (xa_cons (xe_var 6) (xa_cons (xe_var 7) xa_nil)) ⟨nNet one other sh, st, rfl, hok, L.net, L.sd, rfl⟩) (xe_var 8) (layT (lay_two (lay_stay _) (lay_stay _)))) (xt_neSame (n := 1) hr (xe_call (ok_stay_needed T) hr (xa_cons (xe_pr_machine T hr (xe_var 6)) (xa_cons (xe_var 7) xa_nil)) ⟨nMach one other sh, st, rfl, hm, hok, L.net, rfl⟩) (xe_call (ok_L_ru_long T) hr (xa_cons (xe_var 4) (xa_cons (xe_var 7) xa_nil)) ⟨nMach one other sh, st, rfl, hm, hok, by rw [need_eq]⟩) (lay_F _))) ?_
  refine (xb_cons (xs_set 9 nd (xe_lst (xa_cons (xe_call (ok_stay_needed T) hr (xa_cons (xe_pr_one T hr (xe_var 6)) (xa_cons (xe_ixT (xe_var 8) xe_int) xa_nil)) ⟨one, sideStay (nSides one other sh) false st, rfl, h1, L.o1, L.s1, rfl⟩) (xa_cons (xe_call (ok_stay_needed T) hr (xa_cons (xe_pr_other T hr (xe_var 6)) (xa_cons (xe_ixT (xe_var 8) xe_int) xa_nil)) ⟨other, sideStay (nSides one other sh) true st, rfl, h2, L.o2, L.s2, rfl⟩) xa_nil)))) ?_)
  refine xb_ifF (xt_neSame (n := 2) hr (xe_var 9) (xe_lst (xa_cons (xe_call (ok_L_ru_long T) hr (xa_cons (xe_var 1) (xa_cons (xe_ixT (xe_var 8) xe_int) xa_nil)) ⟨one, sideStay (nSides one other sh) false st, rfl, h1, L.o1, by rw [need_eq]⟩) (xa_cons (xe_call (ok_L_ru_long T) hr (xa_cons (xe_var 2) (xa_cons (xe_ixT (xe_var 8) xe_int) xa_nil)) ⟨other, sideStay (nSides one other sh) true st, rfl, h2, L.o2, by rw [need_eq]⟩) xa_nil))) (layL (lay_two (lay_F _) (lay_F _)))) ?_
  refine xb_ifF (xt_orF2 (xt_neSame (n := 1) hr (xe_call (ok_L_fr_most T) hr (xa_cons (xe_var 9) xa_nil) ⟨[lneed one (sideStay (nSides one other sh) false st), lneed other (sideStay (nSides one other sh) true st)], by rw [need_eq, need_eq]; rfl, fun x hx => by
      have k1 := lneed_b h1 L.o1
      have k2 := lneed_b h2 L.o2
      simp only [List.mem_cons, List.not_mem_nil, or_false] at hx
      rcases hx with rfl | rfl
      · constructor <;> omega
      · constructor <;> omega, rfl⟩) (xe_call (ok_L_ru_long T) hr (xa_cons (xe_var 4) (xa_cons (xe_var 7) xa_nil)) ⟨nMach one other sh, st, rfl, hm, hok, by rw [L.mx]⟩) (lay_F _)) (xt_neSame (n := 1) hr (xe_call (ok_L_ru_length T) hr (xa_cons (xe_ixT (xe_var 8) xe_int) xa_nil) ⟨one, sideStay (nSides one other sh) false st, rfl, L.o1, rfl⟩) (xe_call (ok_L_ru_length T) hr (xa_cons (xe_var 7) xa_nil) ⟨nMach one other sh, st, rfl, hok, by have := L.t1; unfold stayLen at this; congr 1; omega⟩) (lay_F _))) ?_
  refine xb_ifF (xt_orF2 (xt_neSame (n := 1) hr (xe_call (ok_stay_length T) hr (xa_cons (xe_pr_machine T hr (xe_var 6)) (xa_cons (xe_var 7) xa_nil)) ⟨nMach one other sh, st, rfl, hok, L.net, rfl⟩) (xe_call (ok_L_ru_length T) hr (xa_cons (xe_var 7) xa_nil) ⟨nMach one other sh, st, rfl, hok, by unfold stayLen; congr 1; omega⟩) (lay_F _)) (xt_neSame (n := 1) hr (xe_call (ok_stay_length T) hr (xa_cons (xe_pr_other T hr (xe_var 6)) (xa_cons (xe_ixT (xe_var 8) xe_int) xa_nil)) ⟨other, sideStay (nSides one other sh) true st, rfl, L.o2, L.s2, rfl⟩) (xe_call (ok_L_ru_length T) hr (xa_cons (xe_var 7) xa_nil) ⟨nMach one other sh, st, rfl, hok, by have := L.t2; rw [this]; unfold stayLen; congr 1; omega⟩) (lay_F _))) ?_
  have hnear := near_all (st := st) (by have := hst.len; omega) (fun x hx => by have := hst.w x hx; constructor <;> omega) (by have := hst.r0; have := hst.r1; constructor <;> omega)
  refine (xb_cons (Mid := TL.Env (hide [d] H) M [d] [none, none, none, none, none, none, none, none, none, none, none] []) (xs_for (fun i (_ : Unit) => True) (fun i _ => [none, none, none, none, some (rTold (nMach one other sh)), none, some (rNet (nNet one other sh)), none, none, none, none]) (fun _ _ => []) (xi_list (xe_call (ok_L_near T) hr (xa_cons (xe_var 7) xa_nil) ⟨st, rfl, by have := hst.len; omega, rfl⟩)) () trivial ⟨rfl, rfl, trivial⟩ rfl (fun B1 i p _ hB1 hp _ => ?_) (fun _ _ σ H' E => E.sub trivial)) (xb_cons (xsd_ret (xd_xe xe_bl) hB) xb_dead))
  obtain ⟨v, hv, rfl⟩ := map_at hp
  have hn := hnear v (mem_at hv)
  refine ⟨_, _, (xg_name 10 nd), xb_ifF ((xt_nes (xe_repr T.f_repr (xe_call (ok_is_stay T) hr (xa_cons (xe_pr_machine T hr (xe_var 6)) (xa_cons (xe_var 10) xa_nil)) ⟨nMach one other sh, v, rfl, hn.s, rfl⟩)) (xe_repr T.f_repr (xe_call (ok_L_is_due T) hr (xa_cons (xe_var 4) (xa_cons (xe_var 10) xa_nil)) ⟨nMach one other sh, v, rfl, hn.g, rfl⟩))).cast (by rw [stay_due hm.d12 hn.s]; simp)) (xb_nil fun σ H' E => ⟨(), trivial, E.sub ⟨rfl, rfl, trivial⟩⟩)⟩
end
end M33
namespace TL
open PySem PySem.Spec PyProof.Rows L2
section
variable {B : Hp} {N W : List Addr} {G : En} {Ms : MS} {σ : L2.St} {H H' : Hp} {d : Addr}
/-- new dice -/
theorem Env.addW (E : Env B N [] G Ms σ H) (e : Ex H H') (hd : H d = none) (hD : Dice H' d) : Env B N [d] G Ms σ H' := by
  have hx : Ex (hide (hid N [] Ms) H) (hide (hid N [d] Ms) H') := fun a o h => by
    by_cases q : a ∈ hid N [] Ms
    · rw [hide_in q] at h; cases h
    · rw [hide_out q] at h
      have had : a ≠ d := fun z => by rw [z, hd] at h; cases h
      rw [hide_out]
      · exact e a o h
      · unfold hid at q ⊢
        simp only [List.mem_append, List.nil_append, List.mem_singleton] at q ⊢
        rintro (z | z | z)
        · exact q (.inl z)
        · exact had z
        · exact q (.inr z)
  refine ⟨⟨fun i r h => ?_, fun a ha => ?_, E.kn.len⟩, fun m hm => ?_, ?_, E.base.trans e, fun a ha => ?_, E.old, fun a ha => ?_⟩
  · obtain ⟨v, h1, h2⟩ := E.kn.get i r h
    exact ⟨v, h1, r.mono hx h2⟩
  · by_cases had : a = d
    · subst had
      obtain ⟨x, y, z, h⟩ := hD
      exact ⟨_, h, rfl⟩
    · have : a ∈ hid N [] Ms := by
        unfold hid at ha ⊢
        simp only [List.mem_append, List.nil_append, List.mem_singleton] at ha ⊢
        rcases ha with z | z | z
        · exact .inl z
        · exact absurd z had
        · exact .inr z
      obtain ⟨o, h1, h2⟩ := E.kn.mu a this
      exact ⟨o, e _ _ h1, h2⟩
  · obtain ⟨vs, h1, h2⟩ := E.cont m hm
    exact ⟨vs, e _ _ h1, h2.mono hx⟩
  · have nd := E.nd
    rw [List.nil_append] at nd
    refine List.nodup_cons.mpr ⟨fun z => ?_, nd⟩
    obtain ⟨m, hm, rfl⟩ := List.mem_map.mp z
    obtain ⟨vs, h1, _⟩ := E.cont m hm
    rw [hd] at h1; cases h1
  · rcases List.mem_cons.mp ha with rfl | ha
    · exact E.base.none hd
    · exact E.new a ha
  · obtain rfl : a = d := by simpa using ha
    exact hD
/-- dice forgotten -/
theorem Env.dropW (E : Env B N [d] G Ms σ H) : Env B N [] G Ms σ H := by
  have hsub : ∀ a ∈ hid N [] Ms, a ∈ hid N [d] Ms := fun a h => by
    unfold hid at h ⊢
    simp only [List.mem_append, List.nil_append] at h ⊢
    rcases h with h | h
    · exact .inl h
    · exact .inr (.inr h)
  have ehid := hide_sub hsub H
  have nd := (List.nodup_cons.mp E.nd).2
  refine ⟨⟨fun i r h => let ⟨v, h1, h2⟩ := E.kn.get i r h; ⟨v, h1, r.mono ehid h2⟩, fun a h => E.kn.mu a (hsub a h), E.kn.len⟩, fun m hm => ?_, nd, E.base, fun a ha => E.new a (List.mem_cons_of_mem _ ha), E.old, fun a ha => (nomatch ha)⟩
  obtain ⟨ws, h1, h2⟩ := E.cont m hm
  exact ⟨ws, h1, h2.mono ehid⟩
end
section
variable [KK] {P : Program} {w : World} {mg : Str → Option Value} {base : Heap}
/-- what a def that makes dice is worth -/
def spN (S : List Vp → Prop) : Sp := fun vs H Q _ => ∃ M rs, (∀ a ∈ M, ∃ o, H a = some o ∧ isM o = true) ∧ S rs ∧ AllP (hide M H) vs rs ∧ ∀ t H', Ex H H' → H t = none → Dice H' t → Q (.ref t) H'
def EndsN (H0 : Hp) : Ends := { nx := fun _ _ => False, rt := fun v H' => ∃ t, v = .ref t ∧ H0 t = none ∧ Ex H0 H' ∧ Dice H' t }
theorem xs_retN {X : Cx} {B H0 : Hp} {N : List Addr} {G : En} {Ms : MS} {bk ct : L2.St → Hp → Prop} {a b c : Expr} {pl pos : Pos} {i j k : Int} (ha : XA X [a, b, c] G [rI i, rI j, rI k]) (hB : Ex H0 B) : XS X (.Return (some (.List [a, b, c] pl)) pos) (Env B N [] G Ms) ⟨fun _ _ => False, (EndsN H0).rt, bk, ct⟩ :=
  XS.of (ps_ret (pe_lst pa_sem)) fun σ H E => ha.to σ H _ _ E.kn fun vs H1 e1 hA => ⟨by rw [hA.len]; show 3 ≤ sizeLine; decide, fun t ht => by
    have E1 := E.ex e1
    have hB1 : B t = none := E1.base.none ht
    have hv := allInts (bs := [i, j, k]) hA
    refine ⟨t, rfl, hB.none hB1, (hB.trans E1.base).trans (Ex.new ht), i, j, k, ?_⟩
    rw [upd_same, hv]
    rfl⟩
theorem fnN_ok {S : List Vp → Prop} {x qual : Str} {st : Stmt} {f : Addr} {fd : FuncData} {N ps : List Str} {k : Nat} (F : FunD KK.K x qual (defArgs st) (defBody st) (defScope st) [] [] f fd) (hm : mg x = some (.ref f))
    (hb : ∀ (kV doc pm : Value) (an : Option Addr) (cdv ct : Value) (us : List Value), us.length = ps.length → bindArgs (PySem.W.fnOf x qual (defArgs st) (defBody st) (defScope st) .none kV doc pm an cdv ct) ⟨us, []⟩ = pure (ps.zip us))
    (sc : FnScope N ps (defScope st)) (hle : ps.length ≤ N.length) (hlen : ∀ rs, S rs → rs.length = ps.length)
    (body : ∀ (cdv : Value) (A : Around) (outer : List PySem.Env) (s : Shared) (H : Hp) (E : XK) (M : List Addr) (rs : List Vp), Room k (A.deeper (envOfC qual (defScope st) s.heap.objs.size f cdv)) → S rs →
      XB (Cx.nox (cxOf CX0 P w KK.K mg base N qual (defScope st) f cdv A outer s H E)) (defBody st) (Env H M [] (rs.map some ++ List.replicate (N.length - ps.length) none) []) (EndsN H)) :
    Fn P w mg base x (k + 1) (spN S) := by
  refine ⟨f, fd, ps, F.ok sc (fun vs H Q E h => ?_) (fun cdv A outer s H vs Q E hr h => ?_), hm, F.kp, F.bindsN hb⟩
  · obtain ⟨M, rs, hM, hS, hA, hQ⟩ := h
    rw [hA.len, hlen rs hS]
  · obtain ⟨M, rs, hM, hS, hA, hQ⟩ := h
    refine ⟨_, PSs.nox pss_sem, ?_⟩
    have E0 : Env H M [] (rs.map some ++ List.replicate (N.length - ps.length) none) [] (L2.start N vs) H := by
      have hh : hid M [] [] = M := by unfold hid; simp
      refine ⟨?_, fun m hm => (nomatch hm), by simp, Ex.refl _, fun a ha => by simp at ha, hM, fun a ha => (nomatch ha)⟩
      rw [hh]
      exact kn_start (hlen rs hS) hle hA hM
    exact semB_le ((body cdv A outer s H E M rs hr hS).to _ H E0) ⟨fun σ H' h => h.elim, fun v H' ⟨t, h1, h2, h3, h4⟩ => by subst h1; exact hQ t H' h3 h2 h4, fun _ _ h => h, fun _ _ h => h⟩
theorem xs_setN {X : Cx} {B : Hp} {N : List Addr} {G : En} {Ms : MS} {rt : VK} {bk ct : L2.St → Hp → Prop} {e : Expr} {es : List Expr} {rs : List Vp} {x y : Str} {pos pos' ps pos2 : Pos} {S : List Vp → Prop} {j k : Nat} (i : Nat) (hN : X.N.Nodup) (F : Fn X.prog X.w X.mg X.base x j (spN S)) (hr : Room k X.A) (ha : XA X (e :: es) G rs) (hS : S rs) (hj : j ≤ k := by decide) (hi : X.N[i]? = some y := by rfl) (hx : Loc X.env.scope y := by first | exact Or.inl rfl | exact Or.inr rfl)
    (hs : swapsWith (.Call (.Name x ps) (e :: es) [] pos) (some (.Name y pos')) pos2.line X.env = pure false := by rfl) (hf : X.fn y = true ∨ X.env.scope.names.lookup y = some .local := by first | exact .inl rfl | exact .inr rfl) (hg : Gl X x := by rfl) (hK : X.K = KK.K := by rfl) (hdb : (x == ("__debug__" : Str)) = false := by decide)
    (he : starEach (e :: es) X.env = (false, eval e X.env) :: starEach es X.env := by rfl) (hpl : (backTo pos (starEach es X.env)).any (·.1) = false := by rfl) :
    XS X (.Assign [.Name y pos'] (.Call (.Name x ps) (e :: es) [] pos) pos2) (Env B N [] G Ms) ⟨fun σ H => ∃ d, Env B N [d] (G.set i (some (rA d))) Ms σ H, rt, bk, ct⟩ := by
  obtain ⟨f, fd, ps', h1, h2, h3, h4⟩ := F.ex
  rw [← hK] at h1 h3 h4
  refine XS.of (ps_set hN hi hx (pe_call h1 (hr.mono hj) hg h2 h3 h4 .nil pass0 pa_sem hdb he hpl) hs hf) fun σ H E => ha.to σ H _ _ E.kn fun vs H1 e1 hA => ?_
  exact ⟨hid N [] Ms, rs, (E.kn.ex e1).mu, hS, by rw [List.append_nil]; exact hA, fun t H2 e2 ht hD => ⟨t, ((E.ex e1).addW e2 ht hD).set rfl⟩⟩
end
end TL
namespace M33
open PySem PySem.Spec PyProof.Rows L2 TL
section
variable [KK] {P : Program} {w : World} {mg : Str → Option Value} {base : Heap}
def S_L_dice (rs : List Vp) : Prop := ∃ (ns : List Int) (s : Nat), rs = [rLr (ns.map TL.rI), TL.rI (s : Int)] ∧ s < 100
theorem xe_mulW {X : Cx} {G : En} {a b : Expr} {pos : Pos} {i j : Int} (ha : XE X a G (TL.rI i)) (hb : XE X b G (TL.rI j)) (h : CMulW i j) : XE X (.BinOp a .Mult b pos) G (TL.rI (i * j)) := xe_op op_mulW (r2_I h) ha hb
theorem ok_L_dice (T : Txt mg) : Fn P w mg base "_law_dice" 1 (spN S_L_dice) := by
  obtain ⟨fd, F⟩ := T.fd_L_dice
  have nd : (["_law_script", "_law_spot", "_law_cell", "_law_left"] : List Str).Nodup := by decide +kernel
  refine fnN_ok (N := ["_law_script", "_law_spot", "_law_cell", "_law_left"]) (ps := ["_law_script", "_law_spot"]) F T.g_L_dice (fun _ _ _ _ _ _ us hl => match us, hl with | [_, _], _ => rfl) ⟨rfl, rfl, rfl, nd, rfl, by decide +kernel, by decide +kernel⟩ (by decide)
    (by intro rs hS; obtain ⟨ns, s, rfl, h⟩ := hS; rfl) fun cdv A outer s H E M rs hr hS => ?_
  have hB := Ex.refl H
  obtain ⟨ns, q, rfl, hq⟩ := hS
  let cell : Int := (ns[q]?).getD (71 * (q : Int) + 43)
  refine (xb_cons (xs_set (r := TL.rI cell) 2 nd (xe_if (k := decide (q < ns.length)) ((xt_lt (xe_var 1) (xe_lenLr T.f_len (xe_var 0))).cast (by rw [List.length_map]; simp)) (fun h => (xe_toInt T.f_int (xe_ixLr (xe_var 0) (xe_var 1) (atI_nat (map_at' (List.getElem?_eq_getElem (of_decide_eq_true h)))))).cast (by
      show _ = TL.rI ((ns[q]?).getD _)
      rw [List.getElem?_eq_getElem (of_decide_eq_true h)]
      rfl)) (fun h => (xe_add (xe_mul xe_int (xe_var 1) (.inl (by decide))) xe_int).cast (by
      show _ = TL.rI ((ns[q]?).getD _)
      rw [List.getElem?_eq_none (by have : ¬ q < ns.length := of_decide_eq_false h; omega)]
      rfl)))) ?_)
  exact (xb_cons (xs_set 3 nd (xe_mod (xe_max2 T.f_max xe_int (xe_sub (xe_abs T.f_abs (xe_var 2)) (xe_pow xe_int xe_int ⟨by decide, by decide, by decide⟩))) (xe_mulW (xe_pow xe_int xe_int ⟨by decide, by decide, by decide⟩) (xe_pow xe_int xe_int ⟨by decide, by decide, by decide⟩) (by unfold CMulW; decide +kernel)) (by decide +kernel)))
    (xb_cons (xs_retN (xa_cons (xe_var 3) (xa_cons (xe_add (xe_add (xe_add (xe_mul (xe_mod (xe_abs T.f_abs (xe_var 2)) xe_int (by decide)) xe_int (.inr (by decide))) (xe_mul xe_int (xe_var 1) (.inl (by decide)))) (xe_mul xe_int (xe_toIntB T.f_int (xe_lt (xe_var 2) xe_int)) (.inl (by decide)))) xe_int) (xa_cons xe_int xa_nil))) hB) xb_dead))
/-! ### the law's last lines -/
def lampM : Mach := ⟨1, [[2], [2]], [⟨0, [(1, 2)], [0], 1⟩, ⟨1, [(1, 1)], [0], 0⟩]⟩
def waitM : Mach := ⟨1, [[4]], [⟨0, [(3, 4)], [0], 0⟩]⟩
def lampSt : List (Int × Int) × Int := ([(12, 0), (12, 1), (12, 2)], 18)
omit [TL.KK] in
theorem lamp_ok : MachOk lampM := by
  refine ⟨by decide, by decide, by decide, by decide, by decide, by decide, by decide, fun d hd => ?_⟩
  simp only [lampM, List.mem_cons, List.not_mem_nil, or_false] at hd
  rcases hd with rfl | rfl <;> exact ⟨by decide, by decide, by decide, by decide, by decide, by decide, by decide, by decide⟩
omit [TL.KK] in
theorem wait_ok : MachOk waitM := by
  refine ⟨by decide, by decide, by decide, by decide, by decide, by decide, by decide, fun d hd => ?_⟩
  simp only [waitM, List.mem_cons, List.not_mem_nil, or_false] at hd
  rcases hd with rfl
  exact ⟨by decide, by decide, by decide, by decide, by decide, by decide, by decide, by decide⟩
omit [TL.KK] in
theorem lamp_net : NetIn lampM waitM [] := ⟨lamp_ok, wait_ok, by decide, by decide, by decide, fun _ h => (nomatch h), fun _ h => (nomatch h), .nil⟩
omit [TL.KK] in
theorem lamp_st : DStay (nMach lampM waitM []) lampSt := ⟨by decide, by decide, by decide +kernel, by decide +kernel, by decide, by decide⟩
omit [TL.KK] in
theorem lamp_s1 : sideStay (nSides lampM waitM []) false lampSt = ([(12, 0), (12, 1)], 30) := by decide +kernel
omit [TL.KK] in
theorem lamp_s2 : sideStay (nSides lampM waitM []) true lampSt = ([(36, 0)], 18) := by decide +kernel
theorem fq (a b k : Int) (h1 : fnum k = a) (h2 : fden k = b) : rT [TL.rI a, TL.rI b] = rF k := by unfold rF; rw [h1, h2]
def spots (L : Nat) : Nat := max 1 (min 3 L)
def S_law (rs : List Vp) (r : Vp) : Prop := ∃ ns : List Int, rs = [rLr (ns.map TL.rI)] ∧ r = rB true
omit [TL.KK] in
theorem spots_eq (L : Nat) : (if (if (L : Int) < 3 then (L : Int) else 3) > 1 then (if (L : Int) < 3 then (L : Int) else 3) else 1) = ((spots L : Nat) : Int) := by
  unfold spots
  split <;> split <;> omega
theorem fnO_ok {S : List Vp → Vp → Prop} {x qual : Str} {st : Stmt} {f : Addr} {fd : FuncData} {N ps : List Str} {k : Nat} (F : FunD KK.K x qual (defArgs st) (defBody st) (defScope st) [] [] f fd)
    (sc : FnScope N ps (defScope st)) (hle : ps.length ≤ N.length) (hlen : ∀ rs r, S rs r → rs.length = ps.length)
    (body : ∀ (cdv : Value) (A : Around) (outer : List PySem.Env) (s : Shared) (H : Hp) (E : XK) (M : List Addr) (rs : List Vp) (r : Vp), Room k (A.deeper (envOfC qual (defScope st) s.heap.objs.size f cdv)) → S rs r →
      XB (Cx.nox (cxOf CX0 P w KK.K mg base N qual (defScope st) f cdv A outer s H E)) (defBody st) (TL.Env H M [] (rs.map some ++ List.replicate (N.length - ps.length) none) []) (EndsR H M r)) :
    FnOk P w KK.K mg base CX0 (k + 1) f fd ps (spF S) := F.ok sc (fun vs H Q E h => by
    obtain ⟨M, rs, r, hM, hS, hA, hQ⟩ := h
    rw [hA.len, hlen rs r hS]) (fun cdv A outer s H vs Q E hr h => by
    obtain ⟨M, rs, r, hM, hS, hA, hQ⟩ := h
    refine ⟨_, PSs.nox pss_sem, ?_⟩
    have E0 : TL.Env H M [] (rs.map some ++ List.replicate (N.length - ps.length) none) [] (L2.start N vs) H := by
      have hh : hid M [] [] = M := by unfold hid; simp
      refine ⟨?_, fun m hm => (nomatch hm), by simp, Ex.refl _, fun a ha => by simp at ha, hM, fun a ha => (nomatch ha)⟩
      rw [hh]
      exact kn_start (hlen rs r hS) hle hA hM
    exact semB_le ((body cdv A outer s H E M rs r hr hS).to _ H E0) ⟨fun σ H' ⟨h1, h2⟩ => hQ _ H' h1 h2, fun v H' ⟨h1, h2⟩ => hQ v H' h1 h2, fun _ _ h => h, fun _ _ h => h⟩)
theorem ok_law (T : Txt mg) {fd : FuncData} (F : FunD KK.K "law" "law" (defArgs s_law) (defBody s_law) (defScope s_law) [] [] (He.ga KK.K "law") fd) : FnOk P w KK.K mg base CX0 15 (He.ga KK.K "law") fd ["_law_script"] (spF S_law) := by
  have nd : (["_law_script", "_law_spot", "_law_dice_here", "_law_turn", "_law_lamp", "_law_net", "_law_stay", "_law_due"] : List Str).Nodup := by decide +kernel
  refine fnO_ok (N := ["_law_script", "_law_spot", "_law_dice_here", "_law_turn", "_law_lamp", "_law_net", "_law_stay", "_law_due"]) (ps := ["_law_script"]) F ⟨rfl, rfl, rfl, nd, rfl, by decide +kernel, by decide +kernel⟩ (by decide)
    (by intro rs r hS; obtain ⟨ns, rfl, rfl⟩ := hS; rfl) fun cdv A outer s H E M rs r hr hS => ?_
  have hB := Ex.refl H
  obtain ⟨ns, rfl, rfl⟩ := hS
  have hm := nMach_ok lamp_net
  have L := law_ok lamp_net hm lamp_st
  refine (xb_cons (Mid := TL.Env H M [] [none, none, none, none, none, none, none, none] []) (xs_for (fun i (_ : Unit) => True) (fun i _ => [some (rLr (ns.map TL.rI)), none, none, none, none, none, none, none]) (fun _ _ => []) (xi_range (n := spots ns.length) T.f_range ((xe_max2 T.f_max xe_int (xe_min2 T.f_min xe_int (xe_lenLr T.f_len (xe_var 0)))).cast (by rw [← spots_eq, List.length_map])) (by unfold spots; omega)) () trivial ⟨rfl, trivial⟩ rfl (fun B1 i p _ hB1 hp _ => ?_) (fun _ _ σ H' E => E.sub trivial)) ?_)
  · obtain ⟨q, hq, rfl⟩ := map_at hp
    have hq3 : q < 100 := by
      have := (List.getElem?_eq_some_iff.mp hq)
      obtain ⟨hl, e⟩ := this
      rw [List.getElem_range] at e
      rw [List.length_range] at hl
      unfold spots at hl
      omega
    refine ⟨_, _, (xg_name 1 nd), (xb_cons (xs_setN 2 nd (ok_L_dice T) hr (xa_cons (xe_var 0) (xa_cons (xe_var 1) xa_nil)) ⟨ns, q, rfl, hq3⟩) (xb_ex fun d => ?_))⟩
    refine (xb_cons (Mid := TL.Env B1 M [d] [some (rLr (ns.map TL.rI)), none, some (rA d), none, none, none, none, none] []) (xsd_for (A := Unit) (fun i _ => True) (fun i _ => [some (rLr (ns.map TL.rI)), none, some (rA d), none, none, none, none, none]) (fun _ _ => []) (xid_xi (xi_range (n := 5) T.f_range xe_int)) () trivial ⟨rfl, rfl, trivial⟩ rfl (fun rs hrs B2 i2 p2 _ hB2 hBd hp2 _ => ⟨_, _, (xg_name 3 nd),
      (xb_cons (xsd_if (xdt_not (xdt_val (k := true) (xd_callD (R := fun r => r = rB true) (ok_L_right T) hr (xe_var 2) xad_nil (fun rs hh => by subst hh; exact ⟨_, ⟨rfl, rfl⟩, fun r h => h⟩)))) (fun hc => nomatch hc) (fun _ => (xb_nil fun σ H' E => E))) (xb_nil fun σ H' E => ⟨(), trivial, E.sub ⟨rfl, rfl, trivial⟩⟩))⟩) (fun rs hrs _ _ σ H' E => E)) (xb_nil fun σ H' E => ⟨(), trivial, E.dropW.sub ⟨rfl, trivial⟩⟩))
  refine (xb_cons (xs_set (r := rM lampM) 4 nd (xe_Machine T hr ((xa_cons xe_int (xa_cons (xe_tup (xa_cons (xe_tup (xa_cons xe_int xa_nil)) (xa_cons (xe_tup (xa_cons xe_int xa_nil)) xa_nil))) (xa_cons (xe_tup (xa_cons (xe_tup (xa_cons xe_int (xa_cons (xe_tup (xa_cons (xe_tup (xa_cons xe_int (xa_cons xe_int xa_nil))) xa_nil)) (xa_cons (xe_tup (xa_cons xe_int xa_nil)) (xa_cons xe_int xa_nil))))) (xa_cons (xe_tup (xa_cons xe_int (xa_cons (xe_tup (xa_cons (xe_tup (xa_cons xe_int (xa_cons xe_int xa_nil))) xa_nil)) (xa_cons (xe_tup (xa_cons xe_int xa_nil)) (xa_cons xe_int xa_nil))))) xa_nil))) xa_nil))).cast rfl) lamp_ok)) ?_)
  refine (xb_cons (xs_set (r := rNet (nNet lampM waitM [])) 5 nd (xe_Net T hr (xa_cons (xe_var 4) (xa_cons (xe_Machine (m := waitM) T hr ((xa_cons xe_int (xa_cons (xe_tup (xa_cons (xe_tup (xa_cons xe_int xa_nil)) xa_nil)) (xa_cons (xe_tup (xa_cons (xe_tup (xa_cons xe_int (xa_cons (xe_tup (xa_cons (xe_tup (xa_cons xe_int (xa_cons xe_int xa_nil))) xa_nil)) (xa_cons (xe_tup (xa_cons xe_int xa_nil)) (xa_cons xe_int xa_nil))))) xa_nil)) xa_nil))).cast rfl) wait_ok) (xa_cons (xe_tup xa_nil) xa_nil))) lamp_net)) ?_)
  have f1 : rT [TL.rI 1, TL.rI 1] = rF 12 := rF12 1
  have f3 : rT [TL.rI 3, TL.rI 1] = rF 36 := rF12 3
  have f32 : rT [TL.rI 3, TL.rI 2] = rF 18 := fq _ _ _ (by decide +kernel) (by decide +kernel)
  have f52 : rT [TL.rI 5, TL.rI 2] = rF 30 := fq _ _ _ (by decide +kernel) (by decide +kernel)
  have f12 : rT [TL.rI 1, TL.rI 2] = rF 6 := fq _ _ _ (by decide +kernel) (by decide +kernel)
  have f92 : rT [TL.rI 9, TL.rI 2] = rF 54 := fq _ _ _ (by decide +kernel) (by decide +kernel)
  have f94 : rT [TL.rI 9, TL.rI 4] = rF 27 := fq _ _ _ (by decide +kernel) (by decide +kernel)
  have f14 : rT [TL.rI 1, TL.rI 4] = rF 3 := fq _ _ _ (by decide +kernel) (by decide +kernel)
  have f0 : rT [TL.rI 0, TL.rI 1] = rF 0 := rF0
  have hst : rT [rT [rT [rT [TL.rI 1, TL.rI 1], TL.rI 0], rT [rT [TL.rI 1, TL.rI 1], TL.rI 1], rT [rT [TL.rI 1, TL.rI 1], TL.rI 2]], rT [TL.rI 3, TL.rI 2]] = rStay lampSt := by rw [f1, f32]; rfl
  have hd1 : rT [rT [rT [rT [TL.rI 1, TL.rI 1], TL.rI 0], rT [rT [TL.rI 1, TL.rI 1], TL.rI 1]], rT [TL.rI 5, TL.rI 2]] = rStay (sideStay (nSides lampM waitM []) false lampSt) := by rw [f1, f52, lamp_s1]; rfl
  have hd2 : rT [rT [rT [rT [TL.rI 3, TL.rI 1], TL.rI 0]], rT [TL.rI 3, TL.rI 2]] = rStay (sideStay (nSides lampM waitM []) true lampSt) := by rw [f3, f32, lamp_s2]; rfl
  refine (xb_cons (xs_set (r := rStay lampSt) 6 nd ((xe_tup (xa_cons (xe_tup (xa_cons (xe_tup (xa_cons (xe_tup (xa_cons xe_int (xa_cons xe_int xa_nil))) (xa_cons xe_int xa_nil))) (xa_cons (xe_tup (xa_cons (xe_tup (xa_cons xe_int (xa_cons xe_int xa_nil))) (xa_cons xe_int xa_nil))) (xa_cons (xe_tup (xa_cons (xe_tup (xa_cons xe_int (xa_cons xe_int xa_nil))) (xa_cons xe_int xa_nil))) xa_nil)))) (xa_cons (xe_tup (xa_cons xe_int (xa_cons xe_int xa_nil))) xa_nil))).cast hst)) ?_)
  refine (xb_cons (xs_set (r := rT [rStay (sideStay (nSides lampM waitM []) false lampSt), rStay (sideStay (nSides lampM waitM []) true lampSt)]) 7 nd (xe_tup (xa_cons ((xe_tup (xa_cons (xe_tup (xa_cons (xe_tup (xa_cons (xe_tup (xa_cons xe_int (xa_cons xe_int xa_nil))) (xa_cons xe_int xa_nil))) (xa_cons (xe_tup (xa_cons (xe_tup (xa_cons xe_int (xa_cons xe_int xa_nil))) (xa_cons xe_int xa_nil))) xa_nil))) (xa_cons (xe_tup (xa_cons xe_int (xa_cons xe_int xa_nil))) xa_nil))).cast hd1) (xa_cons ((xe_tup (xa_cons (xe_tup (xa_cons (xe_tup (xa_cons (xe_tup (xa_cons xe_int (xa_cons xe_int xa_nil))) (xa_cons xe_int xa_nil))) xa_nil)) (xa_cons (xe_tup (xa_cons xe_int (xa_cons xe_int xa_nil))) xa_nil))).cast hd2) xa_nil)))) ?_)
  refine xb_ifF (XW.t (xw_orF (xt_neSame (n := 5) hr (xe_call (ok_split T) hr (xa_cons (xe_var 5) (xa_cons (xe_var 6) xa_nil)) ⟨nNet lampM waitM [], lampSt, rfl, lamp_st.ok, L.net, L.sd, rfl⟩) (xe_var 7) (layT (lay_two (lay_stay _) (lay_stay _)))) (xw_orF (xt_neSame (n := 1) hr (xe_call (ok_stay_needed T) hr (xa_cons (xe_pr_machine T hr (xe_var 5)) (xa_cons (xe_var 6) xa_nil)) ⟨nMach lampM waitM [], lampSt, rfl, hm, lamp_st.ok, L.net, rfl⟩) ((xe_tup (xa_cons xe_int (xa_cons xe_int xa_nil))).cast (f12.trans (by rw [show stayNeed (nMach lampM waitM []) lampSt = 6 by decide +kernel]))) (lay_F _)) (xw_or1 (xt_neSame (n := 1) hr (xe_call (ok_stay_length T) hr (xa_cons (xe_pr_machine T hr (xe_var 5)) (xa_cons (xe_var 6) xa_nil)) ⟨nMach lampM waitM [], lampSt, rfl, lamp_st.ok, L.net, rfl⟩) ((xe_tup (xa_cons xe_int (xa_cons xe_int xa_nil))).cast (f92.trans (by rw [show stayLen lampSt = 54 by decide +kernel]))) (lay_F _)))))) ?_
  have o3 : StayOk lampM ([], 27) := ⟨⟨by decide, by decide, by decide⟩, by decide, by decide⟩
  have e1 : stayNeed lampM (sideStay (nSides lampM waitM []) false lampSt) = 6 := by decide +kernel
  have e2 : stayNeed waitM (sideStay (nSides lampM waitM []) true lampSt) = 0 := by decide +kernel
  have e3 : stayNeed lampM ([], 27) = 3 := by decide +kernel
  exact (xb_cons (xs_retR (xe_eqSame (p := rL [rF 6, rF 0, rF 3]) (n := 2) hr (xe_lst (xa_cons (xe_call (ok_stay_needed T) hr (xa_cons (xe_var 4) (xa_cons (xe_ixT (xe_var 7) xe_int) xa_nil)) ⟨lampM, sideStay (nSides lampM waitM []) false lampSt, rfl, lamp_ok, L.o1, L.s1, by rw [e1]⟩) (xa_cons (xe_call (ok_stay_needed T) hr (xa_cons (xe_pr_other T hr (xe_var 5)) (xa_cons (xe_ixT (xe_var 7) xe_int) xa_nil)) ⟨waitM, sideStay (nSides lampM waitM []) true lampSt, rfl, wait_ok, L.o2, L.s2, by rw [e2]⟩) (xa_cons (xe_call (ok_stay_needed T) hr (xa_cons (xe_var 4) (xa_cons ((xe_tup (xa_cons (xe_tup xa_nil) (xa_cons (xe_tup (xa_cons xe_int (xa_cons xe_int xa_nil))) xa_nil))).cast (show _ = rStay ([], 27) by rw [f94]; rfl)) xa_nil)) ⟨lampM, ([], 27), rfl, lamp_ok, o3, stay_is lamp_ok o3 rfl, by rw [e3]⟩) xa_nil))))
    (xe_lst (xa_cons ((xe_tup (xa_cons xe_int (xa_cons xe_int xa_nil))).cast f12) (xa_cons ((xe_tup (xa_cons xe_int (xa_cons xe_int xa_nil))).cast f0) (xa_cons ((xe_tup (xa_cons xe_int (xa_cons xe_int xa_nil))).cast f14) xa_nil)))) (layL fun d hd => by
      simp only [List.mem_cons, List.not_mem_nil, or_false] at hd
      rcases hd with rfl | rfl | rfl <;> exact lay_F _)) hB) xb_dead)
end
end M33
set_option maxHeartbeats 0
namespace M33
open PySem PySem.Spec PyProof.Rows L2
theorem ints_all {H : Hp} : ∀ ns : List Int, TL.AllP H (ns.map V.int) (ns.map TL.rI)
  | [] => trivial
  | _ :: ns => ⟨rfl, ints_all ns⟩
theorem law_facts {P : Program} {w : World} {K : PySem.W.Frag} {h : Heap} {mg : Str → Option Value} {f : Addr} (X : K.In h) (G : h.Ns mainGlobals mg) (hfa : mg ("law" : Str) = some (.ref f)) (c : Says K) :
    ∃ (fd : FuncData) (sp : Sp), (∀ (s : Shared) (v : Value), BindsTo s fd ⟨[v], []⟩ [("_law_script", v)]) ∧ (∀ (H : Hp) (a : Addr) (ns : List Int), SqL K H a (ns.map V.int) → sp [.ref a] H (fun v _ => v = .bl true) fun _ _ _ => False) ∧ ∀ base : Heap, FnOk P w K mg base CX0 15 f fd ["_law_script"] sp := by
  letI : TL.KK := ⟨K⟩
  have T : Txt mg := ⟨c, h, X, G⟩
  obtain ⟨fd, F⟩ := T.fd_law
  have e := hfa.symm.trans T.g_law
  cases e
  have b := FunD.bindsA (ps := ["_law_script"]) F fun _ _ _ _ _ _ us hl => match us, hl with | [_], _ => rfl
  refine ⟨fd, TL.spF S_law, fun s v => b s [v] rfl, fun H a ns hS => ?_, fun base => ok_law T F⟩
  refine ⟨[], _, _, fun _ h => (nomatch h), ⟨ns, rfl, rfl⟩, ?_, fun v H' _ h => h⟩
  rw [TL.hide_nil]
  exact ⟨⟨a, ns.map V.int, rfl, hS, ints_all ns⟩, trivial⟩
end M33
open PySem PySem.W PySem.Calls PyProof.Rows
theorem PySem.Challenge.cw_anymargin_k33_whole_stays_split_holds : PySem.Challenge.rw_anymargin_k33_whole_stays_split.Holds := by
  w_on; o_law
  refine HandSHeadRun.head_any (r := OpenLaw.row PySem.Challenge.rw_anymargin_k33_whole_stays_split) (q := view (OpenLaw.row PySem.Challenge.rw_anymargin_k33_whole_stays_split).prog [112]) (H := M33.hk) (ob := M33.ob) (M := 20000) (loose := M33.nms) (d := HandSHeadRun.topDef (OpenLaw.row PySem.Challenge.rw_anymargin_k33_whole_stays_split).prog 112) (kwd := []) M33.ob_eq
    (by kernel_rfl) (fun s => by kernel_rfl) M33.run (by kernel_rfl) (by kernel_rfl) (by kernel_rfl) (by rfl) (by first | assumption | decide +kernel) (by decide +kernel) ⟨rfl, rfl, rfl, rfl, rfl, by decide +kernel⟩ ?hw ?hc
  case hw => w_witness2
  case hc =>
    refine L2.walk_ofE (l := PySem.Challenge.rw_anymargin_k33_whole_stays_split) (n := 63) (k := 15) (x := "_law_script") (CX := L2.CX0) rfl (by decide) (by kernel_rfl) ⟨rfl, by decide, by decide⟩ ?F (fun _ _ _ _ z => z)
    intro w mg fa h Y G hmg0
    obtain ⟨K, KX, c⟩ := Y
    have hmg : mg ("law" : PySem.Str) = some (.ref fa) := by
      have e : (HandSHeadRun.topDef (OpenLaw.row PySem.Challenge.rw_anymargin_k33_whole_stays_split).prog 112).name = ("law" : PySem.Str) := by kernel_rfl
      rw [← e]
      exact hmg0
    obtain ⟨fd, sp, hb, hsp, hF⟩ := M33.law_facts (P := (PySem.Challenge.rw_anymargin_k33_whole_stays_split).prog) (w := w) KX G hmg c
    exact ⟨K, fd, sp, KX, hb, fun H a ns hl _ hS => hsp H a ns hS, fun base _ _ => hF base⟩
