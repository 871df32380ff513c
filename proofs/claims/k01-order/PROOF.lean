import PyProof.Rows.All
import Wide.All
import OpenK.AllK
import Wide.FinOn
import HandS.ForMost
import HandS.NoneIn
import HandS.IsInst
import HandS.Zip
import HandS.Style
import HandS.Wide
import HandS.Flow
import HandS.Deep
import HandS.ExcCtx
import HandS.Hot
import HandS.HotCalls
import HandS.SuiteRaise
import HandS.WordsExc
import HandS.More
import PySem.Challenge.RW_eighthturns_k01_main_whole_real_rays_sta
set_option Elab.async false
set_option linter.all false
set_option maxRecDepth 100000
set_option maxHeartbeats 4000000
/-! Dl: a data layer over HandS: expressions and statements as plain functions over data. -/
namespace DL
open PySem PySem.Spec PyProof.Rows L2

/-- data; `.dict []` stands for the law's own source of draws (a list at the address t, whose content is carried beside) -/
abbrev D := PyData
/-- a slot: nothing known; a datum; a list of the def's own (nobody else holds it) -/
inductive Sl where
  | no | sh (d : D) | ow (ds : List D)

mutual
inductive R (K : PySem.W.Frag) (H : Hp) (t : Addr) (O : Addr → Prop) : V → D → Prop
  | non : R K H t O .non .none
  | bl (b : Bool) : R K H t O (.bl b) (.bool b)
  | int (i : Int) : R K H t O (.int i) (.int i)
  | str (x : Str) : R K H t O (.str x) (.str x)
  | tup {a : Addr} {xs : List V} {ds : List D} : SqT K H a xs → RA K H t O xs ds → R K H t O (.ref a) (.tuple ds)
  | lst {a : Addr} {xs : List V} {ds : List D} : ¬ O a → H a = some (.lst xs) → RA K H t O xs ds → R K H t O (.ref a) (.list ds)
  | tin : R K H t O (.ref t) (.dict [])
inductive RA (K : PySem.W.Frag) (H : Hp) (t : Addr) (O : Addr → Prop) : List V → List D → Prop
  | nil : RA K H t O [] []
  | cons {v : V} {vs : List V} {d : D} {ds : List D} : R K H t O v d → RA K H t O vs ds → RA K H t O (v :: vs) (d :: ds)
end

section
variable {K : PySem.W.Frag} {H H' : Hp} {t : Addr} {O O' : Addr → Prop}
theorem RA.length : ∀ {xs : List V} {ds : List D}, RA K H t O xs ds → xs.length = ds.length
  | _, _, .nil => rfl
  | _, _, .cons _ r => by simp [RA.length r]
theorem RA.get : ∀ {xs : List V} {ds : List D} {i : Nat} {d : D}, RA K H t O xs ds → ds[i]? = some d → ∃ v, xs[i]? = some v ∧ R K H t O v d
  | _, _, _, _, .nil, e => by simp at e
  | _, _, 0, _, .cons r _, e => by simp at e; subst e; exact ⟨_, rfl, r⟩
  | _, _, i + 1, d, .cons _ r, e => by
    obtain ⟨v, h1, h2⟩ := RA.get (i := i) (d := d) r (by simpa using e)
    exact ⟨v, by simpa using h1, h2⟩
theorem RA.at : ∀ {xs : List V} {ds : List D} {i : Nat} {v : V}, RA K H t O xs ds → xs[i]? = some v → ∃ d, ds[i]? = some d ∧ R K H t O v d
  | _, _, _, _, .nil, e => by simp at e
  | _, _, 0, _, .cons r _, e => by simp at e; subst e; exact ⟨_, rfl, r⟩
  | _, _, i + 1, d, .cons _ r, e => by
    obtain ⟨v, h1, h2⟩ := RA.at (i := i) (v := d) r (by simpa using e)
    exact ⟨v, by simpa using h1, h2⟩
theorem RA.append : ∀ {xs ys : List V} {ds es : List D}, RA K H t O xs ds → RA K H t O ys es → RA K H t O (xs ++ ys) (ds ++ es)
  | _, _, _, _, .nil, s => s
  | _, _, _, _, .cons r q, s => .cons r (RA.append q s)
theorem RA.take : ∀ {xs : List V} {ds : List D} (n : Nat), RA K H t O xs ds → RA K H t O (xs.take n) (ds.take n)
  | _, _, 0, _ => by rw [List.take_zero, List.take_zero]; exact .nil
  | _, _, _ + 1, .nil => by rw [List.take_nil, List.take_nil]; exact .nil
  | _, _, n + 1, .cons r q => by rw [List.take_succ_cons, List.take_succ_cons]; exact .cons r (RA.take n q)
theorem RA.drop : ∀ {xs : List V} {ds : List D} (n : Nat), RA K H t O xs ds → RA K H t O (xs.drop n) (ds.drop n)
  | _, _, 0, r => r
  | _, _, _ + 1, .nil => by rw [List.drop_nil, List.drop_nil]; exact .nil
  | _, _, n + 1, .cons r q => RA.drop n q
theorem RA.set {v : V} {d : D} (r : R K H t O v d) : ∀ {xs : List V} {ds : List D} (i : Nat), RA K H t O xs ds → RA K H t O (xs.set i v) (ds.set i d)
  | _, _, _, .nil => .nil
  | _, _, 0, .cons _ q => .cons r q
  | _, _, i + 1, .cons p q => .cons p (RA.set r i q)
theorem RA.insertIdx {v : V} {d : D} (r : R K H t O v d) : ∀ {xs : List V} {ds : List D} (i : Nat), RA K H t O xs ds → RA K H t O (xs.insertIdx i v) (ds.insertIdx i d)
  | _, _, 0, q => .cons r q
  | _, _, i + 1, .nil => .nil
  | _, _, i + 1, .cons p q => .cons p (RA.insertIdx r i q)
theorem RA.eraseIdx : ∀ {xs : List V} {ds : List D} (i : Nat), RA K H t O xs ds → RA K H t O (xs.eraseIdx i) (ds.eraseIdx i)
  | _, _, _, .nil => .nil
  | _, _, 0, .cons _ q => q
  | _, _, i + 1, .cons p q => .cons p (RA.eraseIdx i q)
theorem RA.map_int : ∀ ns : List Int, RA K H t O (ns.map V.int) (ns.map PyData.int)
  | [] => .nil
  | n :: r => .cons (.int n) (RA.map_int r)
theorem RA.reverse : ∀ {xs : List V} {ds : List D}, RA K H t O xs ds → RA K H t O xs.reverse ds.reverse
  | _, _, .nil => .nil
  | _, _, .cons r q => by rw [List.reverse_cons, List.reverse_cons]; exact (RA.reverse q).append (.cons r .nil)

/-! what a datum leans on stays -/
mutual
theorem R.mono (hL : ∀ b xs, ¬ O b → H b = some (.lst xs) → H' b = some (.lst xs) ∧ ¬ O' b) (hT : ∀ b xs, SqT K H b xs → SqT K H' b xs) : ∀ {v : V} {d : D}, R K H t O v d → R K H' t O' v d
  | _, _, .non => .non
  | _, _, .bl b => .bl b
  | _, _, .int i => .int i
  | _, _, .str x => .str x
  | _, _, .tup h r => .tup (hT _ _ h) (RA.mono hL hT r)
  | _, _, .lst n h r => .lst (hL _ _ n h).2 (hL _ _ n h).1 (RA.mono hL hT r)
  | _, _, .tin => .tin
theorem RA.mono (hL : ∀ b xs, ¬ O b → H b = some (.lst xs) → H' b = some (.lst xs) ∧ ¬ O' b) (hT : ∀ b xs, SqT K H b xs → SqT K H' b xs) : ∀ {vs : List V} {ds : List D}, RA K H t O vs ds → RA K H' t O' vs ds
  | _, _, .nil => .nil
  | _, _, .cons r q => .cons (R.mono hL hT r) (RA.mono hL hT q)
end
/-- fewer are set apart -/
theorem R.less (h : ∀ b, O' b → O b) {v : V} {d : D} (r : R K H t O v d) : R K H t O' v d := r.mono (fun b _ n q => ⟨q, fun z => n (h b z)⟩) fun _ _ q => q
theorem RA.less (h : ∀ b, O' b → O b) {v : List V} {d : List D} (r : RA K H t O v d) : RA K H t O' v d := r.mono (fun b _ n q => ⟨q, fun z => n (h b z)⟩) fun _ _ q => q
/-- the heap grows -/
theorem Rd.same (e : Same H H') {a : Addr} {u : HO} (h : Rd H a u) : Rd H' a u := h.elim (fun q => .inl (e _ _ q)) fun ⟨o, q⟩ => .inr ⟨o, e _ _ q⟩
theorem SqT.same (e : Same H H') {a : Addr} {xs : List V} (h : SqT K H a xs) : SqT K H' a xs := h.elim (fun q => .inl (Rd.same e q)) .inr
theorem R.same (e : Same H H') {v : V} {d : D} (r : R K H t O v d) : R K H' t O v d := r.mono (fun _ _ n q => ⟨e _ _ q, n⟩) fun _ _ q => SqT.same e q
theorem RA.same (e : Same H H') {v : List V} {d : List D} (r : RA K H t O v d) : RA K H' t O v d := r.mono (fun _ _ n q => ⟨e _ _ q, n⟩) fun _ _ q => SqT.same e q
end

/-! ### where a def stands -/
structure Ctx where
  t : Addr
  H0 : Hp
  O0 : Addr → Prop

/-- the world: what is set apart (the source of draws, the callers' own lists, this def's own lists), the source's content, what stood at the entry stands -/
structure Wd (K : PySem.W.Frag) (c : Ctx) (O : Addr → Prop) (T : List D) (H : Hp) : Prop where
  ot : O c.t
  tin : ∃ xs, H c.t = some (.lst xs) ∧ RA K H c.t O xs T
  kp : ∀ b o, c.H0 b = some o → b ≠ c.t → H b = some o
  up : ∀ b, c.O0 b → O b
  nw : ∀ b, O b → c.O0 b ∨ c.H0 b = none
  al : ∀ b, O b → H b ≠ none
/-- a slot -/
inductive RS (K : PySem.W.Frag) (c : Ctx) (O : Addr → Prop) (H : Hp) : Option V → Sl → Prop
  | no {o : Option V} : RS K c O H o .no
  | sh {v : V} {d : D} : R K H c.t O v d → RS K c O H (some v) (.sh d)
  | ow {a : Addr} {xs : List V} {ds : List D} : a ≠ c.t → O a → ¬ c.O0 a → c.H0 a = none → H a = some (.lst xs) → RA K H c.t O xs ds → RS K c O H (some (.ref a)) (.ow ds)
structure Ev (K : PySem.W.Frag) (c : Ctx) (O : Addr → Prop) (σ : L2.St) (ρ : List Sl) (H : Hp) : Prop where
  len : σ.length = ρ.length
  at_ : ∀ (i : Nat) o s, σ[i]? = some o → ρ[i]? = some s → RS K c O H o s
  sep : ∀ (i j : Nat) a ds es, i ≠ j → σ[i]? = some (some (.ref a)) → ρ[i]? = some (.ow ds) → σ[j]? = some (some (.ref a)) → ρ[j]? = some (.ow es) → False
/-- behind an expression -/
structure Tr (c : Ctx) (O : Addr → Prop) (H : Hp) (O' : Addr → Prop) (H' : Hp) : Prop where
  ot : O c.t
  kp : ∀ b o, H b = some o → b ≠ c.t → H' b = some o
  up : ∀ b, O b → O' b
  nw : ∀ b, O' b → O b ∨ H b = none
/-- behind a statement: own lists may have changed -/
structure TrS (c : Ctx) (O : Addr → Prop) (H : Hp) (O' : Addr → Prop) (H' : Hp) : Prop where
  ot : O c.t
  kp : ∀ b o, H b = some o → b ≠ c.t → (O b → ∀ xs, o ≠ .lst xs) → H' b = some o
  nw : ∀ b, O' b → O b ∨ H b = none

section
variable {K : PySem.W.Frag} {c : Ctx} {O O' O1 O2 : Addr → Prop} {H H' H1 H2 : Hp} {σ : L2.St} {ρ : List Sl} {T T' : List D} {v : V} {d : D}
theorem Tr.refl (h : O c.t) : Tr c O H O H := ⟨h, fun _ _ e _ => e, fun _ h => h, fun _ h => .inl h⟩
theorem Tr.trans (a : Tr c O H O1 H1) (b : Tr c O1 H1 O2 H2) : Tr c O H O2 H2 :=
  ⟨a.ot, fun x o e n => b.kp x o (a.kp x o e n) n, fun x h => b.up x (a.up x h), fun x h => (b.nw x h).elim (fun z => a.nw x z) fun z => by
    by_cases e : x = c.t
    · exact .inl (by rw [e]; exact a.ot)
    · cases q : H x with
      | none => exact .inr rfl
      | some o => rw [a.kp x o q e] at z; cases z⟩
theorem TrS.refl (h : O c.t) : TrS c O H O H := ⟨h, fun _ _ e _ _ => e, fun _ h => .inl h⟩
theorem TrS.trans (a : TrS c O H O1 H1) (b : TrS c O1 H1 O2 H2) : TrS c O H O2 H2 :=
  ⟨a.ot, fun x o e n z => b.kp x o (a.kp x o e n z) n fun z1 => (a.nw x z1).elim z fun q => (by rw [q] at e; cases e), fun x h => by
    by_cases e : x = c.t
    · exact .inl (by rw [e]; exact a.ot)
    · by_cases hO : O x
      · exact .inl hO
      · rcases b.nw x h with z | z
        · exact a.nw x z
        · cases q : H x with
          | none => exact .inr rfl
          | some o => rw [a.kp x o q e fun y => absurd y hO] at z; cases z⟩
theorem Tr.s (a : Tr c O H O' H') : TrS c O H O' H' := ⟨a.ot, fun b o e n _ => a.kp b o e n, a.nw⟩
theorem Tr.same (h : O c.t) (e : Same H H') : Tr c O H O H' := ⟨h, fun b o q _ => e b o q, fun _ h => h, fun _ h => .inl h⟩
/-- a datum stays -/
theorem TrS.r (a : TrS c O H O' H') (w : Wd K c O T H) (r : R K H c.t O v d) : R K H' c.t O' v d := by
  obtain ⟨xt, et, _⟩ := w.tin
  have hrd : ∀ b u, (∀ xs, u ≠ .lst xs) → Rd H b u → Rd H' b u := fun b u hu q => by
    rcases q with q | ⟨o, q⟩
    · exact .inl (a.kp b _ q (fun z => by rw [z, et] at q; cases q; exact hu _ rfl) fun _ => hu)
    · exact .inr ⟨o, a.kp b _ q (fun z => by rw [z, et] at q; cases q) fun _ _ z => nomatch z⟩
  refine r.mono (fun b xs n q => ?_) fun b xs q => q.elim (fun q => .inl (hrd b _ (fun _ z => nomatch z) q)) .inr
  have nb : b ≠ c.t := fun z => n (by rw [z]; exact w.ot)
  refine ⟨a.kp b _ q nb fun z => absurd z n, fun z => ?_⟩
  rcases a.nw b z with y | y
  · exact n y
  · rw [y] at q; cases q
theorem TrS.ra (a : TrS c O H O' H') (w : Wd K c O T H) : ∀ {vs : List V} {ds : List D}, RA K H c.t O vs ds → RA K H' c.t O' vs ds
  | _, _, .nil => .nil
  | _, _, .cons r q => .cons (a.r w r) (TrS.ra a w q)
theorem Tr.r (a : Tr c O H O' H') (w : Wd K c O T H) (r : R K H c.t O v d) : R K H' c.t O' v d := a.s.r w r
theorem Tr.ra (a : Tr c O H O' H') (w : Wd K c O T H) {vs : List V} {ds : List D} (r : RA K H c.t O vs ds) : RA K H' c.t O' vs ds := a.s.ra w r
/-- the slots stay -/
theorem Tr.ev (a : Tr c O H O' H') (w : Wd K c O T H) (e : Ev K c O σ ρ H) : Ev K c O' σ ρ H' := ⟨e.len, fun i o s h1 h2 => by
    cases e.at_ i o s h1 h2 with
    | no => exact .no
    | sh r => exact .sh (a.r w r)
    | ow k1 k2 k3 k4 k5 k6 => exact .ow k1 (a.up _ k2) k3 k4 (a.kp _ _ k5 k1) (a.ra w k6), e.sep⟩
/-- new objects alone, nothing more set apart -/
theorem Wd.same (w : Wd K c O T H) (e : Same H H') : Wd K c O T H' := by
  obtain ⟨xs, h1, h2⟩ := w.tin
  refine ⟨w.ot, ⟨xs, e _ _ h1, h2.same e⟩, fun b o h n => e _ _ (w.kp b o h n), w.up, w.nw, fun b h z => ?_⟩
  cases q : H b with
  | none => exact w.al b h q
  | some o => rw [e _ _ q] at z; cases z
theorem Ev.same (w : Wd K c O T H) (e : Same H H') (q : Ev K c O σ ρ H) : Ev K c O σ ρ H' := (Tr.same w.ot e).ev w q
theorem same_new {p : Addr} {o : HO} (h : H p = none) : Same H (upd H p o) := fun b u q => by rw [upd_ne (ne_of_none q h)]; exact q
end

section
variable {K : PySem.W.Frag} {c : Ctx} {O O' O1 : Addr → Prop} {H H' H1 : Hp} {σ : L2.St} {ρ : List Sl} {T T' : List D} {v : V} {d : D} {i : Nat}
theorem own_O {a : Addr} {es : List D} (e : Ev K c O σ ρ H) (h1 : σ[i]? = some (some (.ref a))) (h2 : ρ[i]? = some (.ow es)) : O a := by
  cases e.at_ i _ _ h1 h2 with
  | ow _ o _ _ _ _ => exact o
/-- one that was set apart is no more -/
theorem Wd.off {a : Addr} (w : Wd K c O T H) (n0 : ¬ c.O0 a) (na : a ≠ c.t) : Wd K c (fun b => O b ∧ b ≠ a) T H := by
  obtain ⟨xs, h1, h2⟩ := w.tin
  exact ⟨⟨w.ot, na.symm⟩, ⟨xs, h1, h2.less fun _ z => z.1⟩, w.kp, fun b h => ⟨w.up b h, fun z => n0 (z ▸ h)⟩, fun b h => w.nw b h.1, fun b h => w.al b h.1⟩
theorem Ev.off {a : Addr} (e : Ev K c O σ ρ H) (sp : ∀ (j : Nat) (es : List D), σ[j]? = some (some (.ref a)) → ρ[j]? = some (.ow es) → False) : Ev K c (fun b => O b ∧ b ≠ a) σ ρ H :=
  ⟨e.len, fun j o s h1 h2 => by
    cases e.at_ j o s h1 h2 with
    | no => exact .no
    | sh r => exact .sh (r.less fun _ z => z.1)
    | ow k1 k2 k3 k4 k5 k6 => exact .ow k1 ⟨k2, fun q => by subst q; exact sp j _ h1 h2⟩ k3 k4 k5 (k6.less fun _ z => z.1), e.sep⟩
theorem Wd.tr (w : Wd K c O T H) (a : Tr c O H O' H') (ht : H' c.t = H c.t) (al : ∀ b, O' b → H' b ≠ none) : Wd K c O' T H' := by
  obtain ⟨xs, h1, h2⟩ := w.tin
  refine ⟨a.up _ w.ot, ⟨xs, by rw [ht]; exact h1, a.ra w h2⟩, fun b o h n => a.kp b o (w.kp b o h n) n, fun b h => a.up b (w.up b h), fun b h => ?_, al⟩
  rcases a.nw b h with z | z
  · exact w.nw b z
  · refine .inr ?_
    cases q : c.H0 b with
    | none => rfl
    | some o =>
      by_cases e : b = c.t
      · rw [e, h1] at z; cases z
      · rw [w.kp b o q e] at z; cases z
/-- what a new address is not -/
structure New (c : Ctx) (O : Addr → Prop) (σ : L2.St) (ρ : List Sl) (a : Addr) : Prop where
  nt : a ≠ c.t
  nO : ¬ O a
  n0 : ¬ c.O0 a
  h0 : c.H0 a = none
  sp : ∀ (j : Nat) (es : List D), σ[j]? = some (some (.ref a)) → ρ[j]? = some (.ow es) → False
theorem new_of (w : Wd K c O T H) (ev : Ev K c O σ ρ H) {a : Addr} (hn : H a = none) : New c O σ ρ a := by
  have nt : a ≠ c.t := fun z => by
    obtain ⟨xs, h1, _⟩ := w.tin
    rw [← z, hn] at h1; cases h1
  have nO : ¬ O a := fun z => w.al a z hn
  refine ⟨nt, nO, fun z => nO (w.up a z), ?_, fun j es h1 h2 => nO (own_O ev h1 h2)⟩
  cases q : c.H0 a with
  | none => rfl
  | some o => rw [w.kp a o q nt] at hn; cases hn
/-- a new list is laid and set apart -/
theorem lay (w : Wd K c O T H) (ev : Ev K c O σ ρ H) {a : Addr} (hn : H a = none) (xs : List V) : Wd K c (fun b => O b ∨ b = a) T (upd H a (.lst xs)) ∧ Ev K c (fun b => O b ∨ b = a) σ ρ (upd H a (.lst xs)) ∧ Tr c O H (fun b => O b ∨ b = a) (upd H a (.lst xs)) := by
  have n := new_of w ev hn
  have t : Tr c O H (fun b => O b ∨ b = a) (upd H a (.lst xs)) := ⟨w.ot, fun b o h _ => by rw [upd_ne (ne_of_none h hn)]; exact h, fun b h => .inl h, fun b h => h.elim .inl fun z => .inr (by rw [z]; exact hn)⟩
  refine ⟨w.tr t (upd_ne n.nt.symm) fun b h z => ?_, t.ev w ev, t⟩
  by_cases q : b = a
  · rw [q, upd_same] at z; cases z
  · rw [upd_ne q] at z
    exact w.al b (h.resolve_right q) z
end

/-! ### expressions -/
abbrev DG (α : Type) := List Sl → List D → Option (α × List D)
/-- what follows a value -/
def KV (K : PySem.W.Frag) (c : Ctx) (O : Addr → Prop) (σ : L2.St) (ρ : List Sl) (H : Hp) (d : D) (T' : List D) (Q : VK) : Prop :=
  ∀ v H' O', Wd K c O' T' H' → Ev K c O' σ ρ H' → Tr c O H O' H' → R K H' c.t O' v d → Q v H'
def tD (K : PySem.W.Frag) (G : DG D) : TE := fun σ H Q => ∃ c ρ T O, Wd K c O T H ∧ Ev K c O σ ρ H ∧ ∃ d T', G ρ T = some (d, T') ∧ KV K c O σ ρ H d T' Q
/-- a test -/
def tDT (K : PySem.W.Frag) (G : DG Bool) : TT := fun σ H Q => ∃ c ρ T O, Wd K c O T H ∧ Ev K c O σ ρ H ∧ ∃ b T', G ρ T = some (b, T') ∧
  ∀ H' O', Wd K c O' T' H' → Ev K c O' σ ρ H' → Tr c O H O' H' → Q b H'
/-- arguments -/
def tDA (K : PySem.W.Frag) (G : DG (List D)) : TA := fun σ H Q => ∃ c ρ T O, Wd K c O T H ∧ Ev K c O σ ρ H ∧ ∃ ds T', G ρ T = some (ds, T') ∧
  ∀ vs H' O', Wd K c O' T' H' → Ev K c O' σ ρ H' → Tr c O H O' H' → RA K H' c.t O' vs ds → Q vs H'
/-- a new list, nobody else's -/
def tDF (K : PySem.W.Frag) (G : DG (List D)) : TE := fun σ H Q => ∃ c ρ T O, Wd K c O T H ∧ Ev K c O σ ρ H ∧ ∃ ds T', G ρ T = some (ds, T') ∧
  ∀ a H' O' xs, Wd K c O' T' H' → Ev K c O' σ ρ H' → Tr c O H O' H' → H' a = some (.lst xs) → RA K H' c.t O' xs ds → H a = none → O' a → Q (.ref a) H'
structure DE (X : Cx) (e : Expr) (G : DG D) : Prop where
  p : PE X e (tD X.K G)
structure DT (X : Cx) (e : Expr) (G : DG Bool) : Prop where
  p : PT X e (tDT X.K G)
structure DA (X : Cx) (es : List Expr) (G : DG (List D)) : Prop where
  p : PA X es (tDA X.K G)
structure DF (X : Cx) (e : Expr) (G : DG (List D)) : Prop where
  p : PE X e (tDF X.K G)
theorem PE.imp {X : Cx} {e : Expr} {t t' : TE} (p : PE X e t) (h : ∀ σ H Q, t' σ H Q → t σ H Q) : PE X e t' := ⟨fun pins s σ H Q I q => p.run pins s σ H Q I (h _ _ _ q)⟩
theorem PT.imp {X : Cx} {e : Expr} {t t' : TT} (p : PT X e t) (h : ∀ σ H Q, t' σ H Q → t σ H Q) : PT X e t' := ⟨fun pins s σ H Q I q => p.run pins s σ H Q I (h _ _ _ q)⟩
theorem PA.imp {X : Cx} {e : List Expr} {t t' : TA} (p : PA X e t) (h : ∀ σ H Q, t' σ H Q → t σ H Q) : PA X e t' := ⟨fun pos pins s σ H Q I q => p.run pos pins s σ H Q I (h _ _ _ q)⟩

section
variable {X : Cx} {e a b : Expr} {es : List Expr} {pos : Pos} {F G : DG D}
/-- a new list is a value -/
theorem DF.de {G : DG (List D)} (h : DF X e G) : DE X e (fun ρ T => (G ρ T).map fun p => (.list p.1, p.2)) := ⟨PE.imp h.p fun σ H Q ⟨c, ρ, T, O, w, ev, d, T', hG, k⟩ => by
  obtain ⟨⟨ds, T1⟩, h1, h2⟩ := Option.map_eq_some_iff.mp hG
  cases h2
  exact ⟨c, ρ, T, O, w, ev, ds, T1, h1, fun a H' O' xs w' ev' tr ha r n oa => by
    have q := new_of w ev n
    exact k _ H' (fun b => O' b ∧ b ≠ a) (w'.off q.n0 q.nt) (ev'.off q.sp) ⟨tr.ot, tr.kp, fun b h => ⟨tr.up b h, fun z => q.nO (z ▸ h)⟩, fun b h => tr.nw b h.1⟩ (.lst (fun z => z.2 rfl) ha (r.less fun _ z => z.1))⟩⟩

def dVar (i : Nat) : DG D := fun ρ T => match ρ[i]? with
  | some (.sh d) => some (d, T)
  | _ => none
theorem de_var {i : Nat} {x : Str} (hN : X.N[i]? = some x) (hv : Vis X.env.scope x) (hd : (x == ("__debug__" : Str)) = false := by decide) (hcd : (x == ("__classdict__" : Str)) = false := by decide) : DE X (.Name x pos) (dVar i) :=
  ⟨PE.imp (pe_var (i := i) hN hv hd hcd) fun σ H Q ⟨c, ρ, T, O, w, ev, d, T', hG, k⟩ => by
    unfold dVar at hG
    split at hG
    · rename_i d' e
      cases hG
      obtain ⟨o, ho⟩ : ∃ o, σ[i]? = some o := ⟨_, List.getElem?_eq_getElem (by rw [ev.len]; exact (List.getElem?_eq_some_iff.mp e).1)⟩
      cases ev.at_ i o _ ho e with
      | sh r => exact ⟨_, ho, k _ H O w ev (Tr.refl w.ot) r⟩
    · cases hG⟩
def dC (d : D) : DG D := fun _ T => some (d, T)
theorem de_c {v : V} {d : D} (p : PE X e (tC v)) (h : ∀ K H t O, R K H t O v d) : DE X e (dC d) := ⟨PE.imp p fun σ H Q ⟨c, ρ, T, O, w, ev, d', T', hG, k⟩ => by
  cases hG
  exact k _ H O w ev (Tr.refl w.ot) (h _ _ _ _)⟩
theorem de_int {i : Int} {j : Nat} : DE X (.Constant (.int i) j pos) (dC (.int i)) := de_c pe_int fun _ _ _ _ => .int i
theorem de_bl {b : Bool} {j : Nat} : DE X (.Constant (.bool b) j pos) (dC (.bool b)) := de_c pe_bl fun _ _ _ _ => .bl b
theorem de_non {j : Nat} : DE X (.Constant .none j pos) (dC .none) := de_c pe_non fun _ _ _ _ => .non
theorem de_str {x : Str} {j : Nat} : DE X (.Constant (.str x) j pos) (dC (.str x)) := de_c pe_str fun _ _ _ _ => .str x

/-! two parts, one after another -/
def dBin {α β γ : Type} (op : α → β → Option γ) (f : DG α) (g : DG β) : DG γ := fun ρ T => (f ρ T).bind fun p => (g ρ p.2).bind fun q => (op p.1 q.1).map fun d => (d, q.2)
theorem dBin_some {α β γ : Type} {op : α → β → Option γ} {f : DG α} {g : DG β} {ρ : List Sl} {T T' : List D} {d : γ} (h : dBin op f g ρ T = some (d, T')) :
    ∃ x T1 y, f ρ T = some (x, T1) ∧ g ρ T1 = some (y, T') ∧ op x y = some d := by
  unfold dBin at h
  obtain ⟨⟨x, T1⟩, h1, h⟩ := Option.bind_eq_some_iff.mp h
  obtain ⟨⟨y, T2⟩, h2, h⟩ := Option.bind_eq_some_iff.mp h
  obtain ⟨z, h3, h⟩ := Option.map_eq_some_iff.mp h
  cases h
  exact ⟨x, T1, y, h1, h2, h3⟩
/-- an operator by values: op tells what comes -/
def OpD (K : PySem.W.Frag) (r : R2) (op : D → D → Option D) : Prop := ∀ (H : Hp) (t : Addr) (O : Addr → Prop) (vx vy : V) (x y d : D) (Q : VK), (∀ b, O b → H b ≠ none) → R K H t O vx x → R K H t O vy y → op x y = some d →
  (∀ v H', Same H H' → R K H' t O v d → Q v H') → r vx vy H Q
theorem de_bin {r : R2} {op : D → D → Option D} (ho : OpD X.K r op) (p : PE X e (tOp r (tD X.K F) (tD X.K G))) : DE X e (dBin op F G) := ⟨PE.imp p fun σ H Q ⟨c, ρ, T, O, w, ev, d, T', hG, k⟩ => by
  obtain ⟨x, T1, y, h1, h2, h3⟩ := dBin_some hG
  refine ⟨c, ρ, T, O, w, ev, x, T1, h1, fun v1 H1 O1 w1 e1 t1 r1 => ⟨c, ρ, T1, O1, w1, e1, y, T', h2, fun v2 H2 O2 w2 e2 t2 r2 => ?_⟩⟩
  exact ho H2 c.t O2 v1 v2 x y d Q w2.al (t2.r w1 r1) r2 h3 fun v H3 s3 r3 => k v H3 O2 (w2.same s3) (Ev.same w2 s3 e2) ((t1.trans t2).trans (Tr.same w2.ot s3)) r3⟩
theorem de_op {o : Operator} {r : R2} {op : D → D → Option D} (hr : OpR X (binaryOp o) r) (ho : OpD X.K r op) (ha : DE X a F) (hb : DE X b G) : DE X (.BinOp a o b pos) (dBin op F G) := de_bin ho (pe_op hr ha.p hb.p)
theorem de_cmp {o : CmpOp} {r : R2} {op : D → D → Option D} (hr : OpR X (compareOp o) r) (ho : OpD X.K r op) (ha : DE X a F) (hb : DE X b G) (hm : behindInMarks o b = false) : DE X (.Compare a [o] [b] pos) (dBin op F G) := de_bin ho (pe_cmpR hr ha.p hb.p hm)
theorem de_ixO {r : R2} {op : D → D → Option D} (hr : IxR X r) (ho : OpD X.K r op) (ha : DE X a F) (hb : DE X b G) (hs : PlainIx b) : DE X (.Subscript a b pos) (dBin op F G) := de_bin ho (pe_ix hr ha.p hb.p hs)
/-- one part -/
def dUn {α β : Type} (op : α → Option β) (f : DG α) : DG β := fun ρ T => (f ρ T).bind fun p => (op p.1).map fun d => (d, p.2)
theorem dUn_some {α β : Type} {op : α → Option β} {f : DG α} {ρ : List Sl} {T T' : List D} {d : β} (h : dUn op f ρ T = some (d, T')) : ∃ x, f ρ T = some (x, T') ∧ op x = some d := by
  unfold dUn at h
  obtain ⟨⟨x, T1⟩, h1, h⟩ := Option.bind_eq_some_iff.mp h
  obtain ⟨z, h3, h⟩ := Option.map_eq_some_iff.mp h
  cases h
  exact ⟨x, h1, h3⟩
def UnD (K : PySem.W.Frag) (r : V → Hp → VK → Prop) (op : D → Option D) : Prop := ∀ (H : Hp) (t : Addr) (O : Addr → Prop) (vx : V) (x d : D) (Q : VK), (∀ b, O b → H b ≠ none) → R K H t O vx x → op x = some d →
  (∀ v H', Same H H' → R K H' t O v d → Q v H') → r vx H Q
theorem de_un1 {r : V → Hp → VK → Prop} {op : D → Option D} (ho : UnD X.K r op) (p : PE X e (tUn r (tD X.K F))) : DE X e (dUn op F) := ⟨PE.imp p fun σ H Q ⟨c, ρ, T, O, w, ev, d, T', hG, k⟩ => by
  obtain ⟨x, h1, h3⟩ := dUn_some hG
  refine ⟨c, ρ, T, O, w, ev, x, T', h1, fun v1 H1 O1 w1 e1 t1 r1 => ?_⟩
  exact ho H1 c.t O1 v1 x d Q w1.al r1 h3 fun v H3 s3 r3 => k v H3 O1 (w1.same s3) (Ev.same w1 s3 e1) (t1.trans (Tr.same w1.ot s3)) r3⟩
theorem de_un {o : UnaryOp} {r : V → Hp → VK → Prop} {op : D → Option D} (hr : UnR X (unaryOp o) r) (ho : UnD X.K r op) (ha : DE X a F) : DE X (.UnaryOp o a pos) (dUn op F) := de_un1 ho (pe_un hr ha.p)

/-! arguments -/
def dNil : DG (List D) := fun _ T => some ([], T)
def dCons (f : DG D) (g : DG (List D)) : DG (List D) := dBin (fun x xs => some (x :: xs)) f g
theorem da_nil : DA X [] dNil := ⟨PA.imp pa_nil fun σ H Q ⟨c, ρ, T, O, w, ev, d, T', hG, k⟩ => by
  cases hG
  exact k [] H O w ev (Tr.refl w.ot) .nil⟩
theorem da_cons {G : DG (List D)} (ha : DE X e F) (hr : DA X es G) (hs : starEach (e :: es) X.env = (false, eval e X.env) :: starEach es X.env := by rfl) : DA X (e :: es) (dCons F G) := ⟨PA.imp (pa_cons ha.p hr.p hs) fun σ H Q ⟨c, ρ, T, O, w, ev, d, T', hG, k⟩ => by
  obtain ⟨x, T1, y, h1, h2, h3⟩ := dBin_some hG
  cases h3
  exact ⟨c, ρ, T, O, w, ev, x, T1, h1, fun v1 H1 O1 w1 e1 t1 r1 => ⟨c, ρ, T1, O1, w1, e1, y, T', h2, fun v2 H2 O2 w2 e2 t2 r2 => k _ H2 O2 w2 e2 (t1.trans t2) (.cons (t2.r w1 r1) r2)⟩⟩⟩
/-- a written tuple, a written list (below 1000 items) -/
def small (n : Nat) : Bool := decide (n ≤ 1000000)
theorem small_ok {n : Nat} (h : small n = true) : n ≤ sizeLine := by
  have := of_decide_eq_true h
  rw [sizeLine_eq]; omega
def dTup (f : DG (List D)) : DG D := dUn (fun ds => if small ds.length then some (.tuple ds) else none) f
theorem de_tup {G : DG (List D)} {x1} (h : DA X es G) : DE X (.Tuple es x1 pos) (dTup G) := ⟨PE.imp (pe_tup h.p) fun σ H Q ⟨c, ρ, T, O, w, ev, d, T', hG, k⟩ => by
  obtain ⟨x, h1, h3⟩ := dUn_some hG
  split at h3
  · rename_i hs
    cases h3
    refine ⟨c, ρ, T, O, w, ev, x, T', h1, fun vs H1 O1 w1 e1 t1 r1 => ⟨by rw [r1.length]; exact small_ok hs, fun p hp => ?_⟩⟩
    exact k _ _ O1 (w1.same (same_new hp)) (Ev.same w1 (same_new hp) e1) (t1.trans (Tr.same w1.ot (same_new hp))) (.tup (SqT.of upd_same) (r1.same (same_new hp)))
  · cases h3⟩
def dLst (f : DG (List D)) : DG (List D) := dUn (fun ds => if small ds.length then some ds else none) f
theorem free_of {c : Ctx} {O O1 : Addr → Prop} {H H1 : Hp} {T : List D} {K : PySem.W.Frag} (w1 : Wd K c O1 T H1) (t1 : Tr c O H O1 H1) {p : Addr} (hp : H1 p = none) : H p = none := by
  cases q : H p with
  | none => rfl
  | some o =>
    by_cases e : p = c.t
    · obtain ⟨xs, h, _⟩ := w1.tin
      rw [← e, hp] at h; cases h
    · rw [t1.kp p o q e] at hp; cases hp
theorem df_lst {G : DG (List D)} (h : DA X es G) : DF X (.List es pos) (dLst G) := ⟨PE.imp (pe_lst h.p) fun σ H Q ⟨c, ρ, T, O, w, ev, d, T', hG, k⟩ => by
  obtain ⟨x, h1, h3⟩ := dUn_some hG
  split at h3
  · rename_i hs
    have e3 := Option.some.inj h3
    subst e3
    refine ⟨c, ρ, T, O, w, ev, _, T', h1, fun vs H1 O1 w1 e1 t1 r1 => ⟨by rw [r1.length]; exact small_ok hs, fun p hp => ?_⟩⟩
    obtain ⟨w2, e2, t2⟩ := lay w1 e1 hp vs
    exact k p _ _ vs w2 e2 (t1.trans t2) upd_same (t2.ra w1 r1) (free_of w1 t1 hp) (.inr rfl)
  · cases h3⟩
end
end DL
set_option Elab.async false
set_option linter.all false
set_option maxRecDepth 100000
set_option maxHeartbeats 4000000
namespace DL
open PySem PySem.Spec PyProof.Rows L2

section
variable {K : PySem.W.Frag} {H : Hp} {t : Addr} {O : Addr → Prop} {v : V}
theorem R.intE {i : Int} (r : R K H t O v (.int i)) : v = .int i := by cases r; rfl
theorem R.blE {b : Bool} (r : R K H t O v (.bool b)) : v = .bl b := by cases r; rfl
theorem R.strE {x : Str} (r : R K H t O v (.str x)) : v = .str x := by cases r; rfl
theorem R.nonE (r : R K H t O v .none) : v = .non := by cases r; rfl
theorem R.tupE {ds : List D} (r : R K H t O v (.tuple ds)) : ∃ a xs, v = .ref a ∧ SqT K H a xs ∧ RA K H t O xs ds := by
  cases r with
  | tup h q => exact ⟨_, _, rfl, h, q⟩
theorem R.lstE {ds : List D} (r : R K H t O v (.list ds)) : ∃ a xs, v = .ref a ∧ ¬ O a ∧ H a = some (.lst xs) ∧ RA K H t O xs ds := by
  cases r with
  | lst n h q => exact ⟨_, _, rfl, n, h, q⟩
theorem R.tinE (r : R K H t O v (.dict [])) : v = .ref t := by cases r; rfl
end

/-! ### operators by values -/
section
variable {K : PySem.W.Frag}
def opI (g : Int → Int → Int) : D → D → Option D
  | .int i, .int j => some (.int (g i j))
  | _, _ => none
def opIc (C : Int → Int → Bool) (g : Int → Int → Int) : D → D → Option D
  | .int i, .int j => if C i j then some (.int (g i j)) else none
  | _, _ => none
def opB (g : Int → Int → Bool) : D → D → Option D
  | .int i, .int j => some (.bool (g i j))
  | _, _ => none
theorem od_I {g : Int → Int → Int} : OpD K (rI0 fun i j => .int (g i j)) (opI g) := by
  intro H t O vx vy x y d Q al rx ry e q
  unfold opI at e
  split at e
  · cases e
    cases rx.intE
    cases ry.intE
    exact ⟨_, _, rfl, rfl, q _ H (Same.refl H) (.int _)⟩
  · cases e
theorem od_Ic {C : Int → Int → Prop} {c : Int → Int → Bool} {g : Int → Int → Int} (hc : ∀ i j, c i j = true → C i j) : OpD K (rI C fun i j => .int (g i j)) (opIc c g) := by
  intro H t O vx vy x y d Q al rx ry e q
  unfold opIc at e
  split at e
  · split at e
    · rename_i h
      cases e
      cases rx.intE
      cases ry.intE
      exact ⟨_, _, rfl, rfl, hc _ _ h, q _ H (Same.refl H) (.int _)⟩
    · cases e
  · cases e
theorem od_B {g : Int → Int → Bool} : OpD K (rI0 fun i j => .bl (g i j)) (opB g) := by
  intro H t O vx vy x y d Q al rx ry e q
  unfold opB at e
  split at e
  · cases e
    cases rx.intE
    cases ry.intE
    exact ⟨_, _, rfl, rfl, q _ H (Same.refl H) (.bl _)⟩
  · cases e
/-- together below a million bits -/
def mulC (i j : Int) : Bool := decide (i.natAbs.log2 + j.natAbs.log2 < 1000000)
def opMul := opIc mulC fun i j => i * j
theorem mulC_ok {i j : Int} (h : mulC i j = true) : CMulW i j := by
  unfold mulC at h
  have q := decide_eq_true_iff.mp h
  exact q
def divC (i j : Int) : Bool := decide (0 < j ∧ j.natAbs.log2 < 9000)
def opFdiv := opIc divC fun i j => i / j
theorem divC_ok {i j : Int} (h : divC i j = true) : CDivW i j := by
  unfold divC at h
  have q := decide_eq_true_iff.mp h
  exact q
def modC (_ j : Int) : Bool := decide (0 < j)
def opMod := opIc modC fun i j => i % j
def powC (i j : Int) : Bool := decide (0 ≤ j ∧ j ≤ 1000000 ∧ i.natAbs < 2 ^ 64)
theorem powC_ok {i j : Int} (h : powC i j = true) : CPow i j := by
  unfold powC at h
  have q := decide_eq_true_iff.mp h
  exact q
def opPow := opIc powC fun i j => i ^ j.toNat
def opSub := opI fun i j => i - j
/-- + -/
def opAdd : D → D → Option D
  | .int i, .int j => some (.int (i + j))
  | .tuple xs, .tuple ys => if small (xs.length + ys.length) then some (.tuple (xs ++ ys)) else none
  | .list xs, .list ys => if small (xs.length + ys.length) then some (.list (xs ++ ys)) else none
  | .str x, .str y => if small (x.length + y.length) then some (.str (x ++ y)) else none
  | _, _ => none
def rCatA (K : PySem.W.Frag) : R2 := fun x y H Q => ∃ a b xs ys, x = .ref a ∧ y = .ref b ∧ SqT K H a xs ∧ SqT K H b ys ∧ xs.length + ys.length ≤ sizeLine ∧
  (xs = [] → Q (.ref b) H) ∧ (xs ≠ [] → ys = [] → Q (.ref a) H) ∧ (xs ≠ [] → ys ≠ [] → ∀ p, H p = none → Q (.ref p) (upd H p (.tup (xs ++ ys))))
theorem op_catA {X : Cx} : OpR X (binaryOp .Add) (rCatA X.K) := by
  intro pins s σ H x y v u Q I rx ry h
  obtain ⟨a, b, xs, ys, rfl, rfl, ha, hb, hz, q0, q1, q2⟩ := h
  by_cases hx : xs = []
  · subst hx
    cases rx
    cases ry
    obtain ⟨its, r1, p1, _⟩ := I.tuple ha
    obtain ⟨its2, r2, p2, _⟩ := I.tuple hb
    have e1 : its = [] := r1.nil_iff.mpr rfl
    subst e1
    obtain ⟨⟨cls, dd, data, sl⟩, ho, hc, n, hd⟩ := id p1
    obtain ⟨⟨cls2, dd2, data2, sl2⟩, ho2, hc2, n2, hd2⟩ := id p2
    simp only at hc hd hc2 hd2
    subst hc hd hc2 hd2
    exact concat_meets ⟨_, ho, rfl⟩ ⟨_, ho2, rfl⟩ noFill_tuple_add seq_tuple_add PySem.F.slot_tuple_add PySem.F.entry_tuple_add (PySem.F.args_tuple_add_2 _ _)
      (tuple_addW0 a b _ its2.toArray n n2 dd dd2 sl sl2 (by simp)) ⟨ho, ho2, ⟨.ref b, H, I, rfl, q0 rfl⟩⟩
  · exact op_catT pins s σ H _ _ v u Q I rx ry ⟨a, b, xs, ys, rfl, rfl, ha, hb, hx, hz, q1 hx, q2 hx⟩
theorem or_add {X : Cx} : OpR X (binaryOp .Add) (fun x y H Q => (rI0 fun i j => .int (i + j)) x y H Q ∨ (rCatA X.K x y H Q ∨ (rCat x y H Q ∨ ∃ i j, x = .str i ∧ y = .str j ∧ i.length + j.length ≤ sizeLine ∧ Q (.str (i ++ j)) H))) := op_add.or (op_catA.or (op_cat.or op_add_str))
theorem od_add : OpD K (fun x y H Q => (rI0 fun i j => .int (i + j)) x y H Q ∨ (rCatA K x y H Q ∨ (rCat x y H Q ∨ ∃ i j, x = .str i ∧ y = .str j ∧ i.length + j.length ≤ sizeLine ∧ Q (.str (i ++ j)) H))) opAdd := by
  intro H t O vx vy x y d Q al rx ry e q
  unfold opAdd at e
  split at e
  · cases e
    cases rx.intE
    cases ry.intE
    exact .inl ⟨_, _, rfl, rfl, q _ H (Same.refl H) (.int _)⟩
  · split at e
    · rename_i h
      cases e
      obtain ⟨a, xs, rfl, h1, r1⟩ := rx.tupE
      obtain ⟨b, ys, rfl, h2, r2⟩ := ry.tupE
      refine .inr (.inl ⟨a, b, xs, ys, rfl, rfl, h1, h2, by rw [r1.length, r2.length]; exact small_ok h, fun z => ?_, fun _ z => ?_, fun _ _ p hp => ?_⟩)
      · subst z
        cases r1
        exact q _ H (Same.refl H) ry
      · subst z
        cases r2
        exact q _ H (Same.refl H) (by rw [List.append_nil]; exact rx)
      · exact q _ _ (same_new hp) (.tup (SqT.of upd_same) ((r1.append r2).same (same_new hp)))
    · cases e
  · split at e
    · rename_i h
      cases e
      obtain ⟨a, xs, rfl, n1, h1, r1⟩ := rx.lstE
      obtain ⟨b, ys, rfl, n2, h2, r2⟩ := ry.lstE
      exact .inr (.inr (.inl ⟨a, b, xs, ys, rfl, rfl, h1, h2, by rw [r1.length, r2.length]; exact small_ok h, fun p hp => q _ _ (same_new hp) (.lst (fun z => al p z hp) upd_same ((r1.append r2).same (same_new hp)))⟩))
    · cases e
  · split at e
    · rename_i h
      cases e
      cases rx.strE
      cases ry.strE
      exact .inr (.inr (.inr ⟨_, _, rfl, rfl, small_ok h, q _ H (Same.refl H) (.str _)⟩))
    · cases e
  · cases e
/-! == -/
mutual
theorem R.dp {H : Hp} {t : Addr} {O : Addr → Prop} : ∀ {v : V} {d : D}, R K H t O v d → d.canLay0 = true → Dp K H v d
  | _, _, .non, _ => .non
  | _, _, .bl b, _ => .bl b
  | _, _, .int i, _ => .int i
  | _, _, .str x, _ => .str x
  | _, _, .tup h r, z => .tup h (RA.dp r (by simpa only [PyData.canLay0] using z))
  | _, _, .lst n h r, z => .lst (SqL.of h) (RA.dp r (by simpa only [PyData.canLay0] using z))
  | _, _, .tin, z => by simp only [PyData.canLay0] at z; cases z
theorem RA.dp {H : Hp} {t : Addr} {O : Addr → Prop} : ∀ {vs : List V} {ds : List D}, RA K H t O vs ds → PyData.canLayAll0 ds = true → DpAll K H vs ds
  | _, _, .nil, _ => .nil
  | _, _, .cons r q, z => by
    simp only [PyData.canLayAll0, Bool.and_eq_true] at z
    exact .cons (R.dp r z.1) (RA.dp q z.2)
end
def opEq : D → D → Option D := fun x y => if SeqAt.shaped x && SeqAt.shaped y then some (.bool (PyData.eqv x y)) else none
def opNe : D → D → Option D := fun x y => if SeqAt.shaped x && SeqAt.shaped y then some (.bool (!PyData.eqv x y)) else none
theorem od_eq : OpD K (rEqD K) opEq := by
  intro H t O vx vy x y d Q al rx ry e q
  unfold opEq at e
  split at e
  · rename_i h
    cases e
    rw [Bool.and_eq_true] at h
    exact ⟨x, y, rx.dp (SeqAt.canLay_of_shaped h.1), ry.dp (SeqAt.canLay_of_shaped h.2), h.1, h.2, q _ H (Same.refl H) (.bl _)⟩
  · cases e
theorem od_ne : OpD K (rNeD K) opNe := by
  intro H t O vx vy x y d Q al rx ry e q
  unfold opNe at e
  split at e
  · rename_i h
    cases e
    rw [Bool.and_eq_true] at h
    exact ⟨x, y, rx.dp (SeqAt.canLay_of_shaped h.1), ry.dp (SeqAt.canLay_of_shaped h.2), h.1, h.2, q _ H (Same.refl H) (.bl _)⟩
  · cases e
/-! in, not in: of a list (of a tuple: below) -/
/-! is None -/
def isNone : D → Bool
  | .none => true
  | _ => false
def opIsN : D → D → Option D
  | x, .none => some (.bool (isNone x))
  | _, _ => none
def opNotN : D → D → Option D
  | x, .none => some (.bool (!isNone x))
  | _, _ => none
theorem isNone_ok {H : Hp} {t : Addr} {O : Addr → Prop} {v : V} {d : D} (r : R K H t O v d) : decide (v = .non) = isNone d := by
  cases r <;> first | exact decide_eq_true rfl | exact decide_eq_false (fun z => nomatch z)
theorem od_isN : OpD K (fun x y H Q => y = .non ∧ Q (.bl (decide (x = .non))) H) opIsN := by
  intro H t O vx vy x y d Q al rx ry e q
  unfold opIsN at e
  split at e
  · cases e
    refine ⟨ry.nonE, ?_⟩
    rw [isNone_ok rx]
    exact q _ H (Same.refl H) (.bl _)
  · cases e
theorem od_notN : OpD K (fun x y H Q => y = .non ∧ Q (.bl (!decide (x = .non))) H) opNotN := by
  intro H t O vx vy x y d Q al rx ry e q
  unfold opNotN at e
  split at e
  · cases e
    refine ⟨ry.nonE, ?_⟩
    rw [isNone_ok rx]
    exact q _ H (Same.refl H) (.bl _)
  · cases e
/-! a[i] -/
def opIx : D → D → Option D
  | .tuple xs, .int i => atI xs i
  | .list xs, .int i => atI xs i
  | _, _ => none
theorem atI_ra {H : Hp} {t : Addr} {O : Addr → Prop} {vs : List V} {ds : List D} {i : Int} {d : D} (r : RA K H t O vs ds) (h : atI ds i = some d) : ∃ v, atI vs i = some v ∧ R K H t O v d := by
  unfold atI at h ⊢
  obtain ⟨j, h1, h2⟩ := Option.bind_eq_some_iff.mp h
  obtain ⟨v, h3, h4⟩ := r.get h2
  refine ⟨v, ?_, h4⟩
  rw [r.length, h1]
  exact h3
theorem od_ix : OpD K (rIx K) opIx := by
  intro H t O vx vy x y d Q al rx ry e q
  unfold opIx at e
  split at e
  · obtain ⟨a, xs, rfl, h1, r1⟩ := rx.tupE
    cases ry.intE
    obtain ⟨v, h3, h4⟩ := atI_ra r1 e
    exact .inr (.inl ⟨a, xs, _, v, rfl, rfl, h1, h3, q _ H (Same.refl H) h4⟩)
  · obtain ⟨a, xs, rfl, n1, h1, r1⟩ := rx.lstE
    cases ry.intE
    obtain ⟨v, h3, h4⟩ := atI_ra r1 e
    exact .inl ⟨a, xs, _, v, rfl, rfl, SqL.of h1, h3, q _ H (Same.refl H) h4⟩
  · cases e
def opNeg : D → Option D
  | .int i => some (.int (-i))
  | _ => none
theorem ud_neg : UnD K (rU fun i => .int (-i)) opNeg := by
  intro H t O vx x d Q al rx e q
  unfold opNeg at e
  split at e
  · cases e
    cases rx.intE
    exact ⟨_, rfl, q _ H (Same.refl H) (.int _)⟩
  · cases e
end

section
variable {X : Cx} {e a b : Expr} {es : List Expr} {pos : Pos} {F G : DG D}
theorem de_add (ha : DE X a F) (hb : DE X b G) : DE X (.BinOp a .Add b pos) (dBin opAdd F G) := de_op or_add od_add ha hb
theorem de_sub (ha : DE X a F) (hb : DE X b G) : DE X (.BinOp a .Sub b pos) (dBin opSub F G) := de_op op_sub od_I ha hb
theorem de_mul (ha : DE X a F) (hb : DE X b G) : DE X (.BinOp a .Mult b pos) (dBin opMul F G) := de_op op_mulW (od_Ic fun _ _ => mulC_ok) ha hb
theorem de_fdiv (ha : DE X a F) (hb : DE X b G) : DE X (.BinOp a .FloorDiv b pos) (dBin opFdiv F G) := de_op op_fdivW (od_Ic fun _ _ => divC_ok) ha hb
theorem de_mod (ha : DE X a F) (hb : DE X b G) : DE X (.BinOp a .Mod b pos) (dBin opMod F G) := de_op op_mod (od_Ic fun _ _ h => of_decide_eq_true h) ha hb
theorem de_pow (ha : DE X a F) (hb : DE X b G) : DE X (.BinOp a .Pow b pos) (dBin opPow F G) := de_op op_pow (od_Ic fun _ _ => powC_ok) ha hb
theorem de_neg (ha : DE X a F) : DE X (.UnaryOp .USub a pos) (dUn opNeg F) := de_un un_neg ud_neg ha
theorem de_lt (ha : DE X a F) (hb : DE X b G) : DE X (.Compare a [.Lt] [b] pos) (dBin (opB fun i j => decide (i < j)) F G) := de_cmp op_lt od_B ha hb (nomark _)
theorem de_le (ha : DE X a F) (hb : DE X b G) : DE X (.Compare a [.LtE] [b] pos) (dBin (opB fun i j => decide (i ≤ j)) F G) := de_cmp op_le od_B ha hb (nomark _)
theorem de_gt (ha : DE X a F) (hb : DE X b G) : DE X (.Compare a [.Gt] [b] pos) (dBin (opB fun i j => decide (j < i)) F G) := de_cmp op_gt od_B ha hb (nomark _)
theorem de_ge (ha : DE X a F) (hb : DE X b G) : DE X (.Compare a [.GtE] [b] pos) (dBin (opB fun i j => decide (j ≤ i)) F G) := de_cmp op_ge od_B ha hb (nomark _)
theorem de_eq (hu : X.A.units + 64 < cLine) (ha : DE X a F) (hb : DE X b G) : DE X (.Compare a [.Eq] [b] pos) (dBin opEq F G) := de_cmp (op_eqD hu) od_eq ha hb (nomark _)
theorem de_ne (hu : X.A.units + 64 < cLine) (ha : DE X a F) (hb : DE X b G) : DE X (.Compare a [.NotEq] [b] pos) (dBin opNe F G) := de_cmp (op_neD hu) od_ne ha hb (nomark _)
theorem de_isN (ha : DE X a F) (hb : DE X b G) : DE X (.Compare a [.Is] [b] pos) (dBin opIsN F G) := de_cmp op_isN od_isN ha hb (nomark _)
theorem de_notN (ha : DE X a F) (hb : DE X b G) : DE X (.Compare a [.IsNot] [b] pos) (dBin opNotN F G) := de_cmp op_notN od_notN ha hb (nomark _)
/-- a[i]; of the source of draws, too -/
def ixT : D → D → List D → Option D
  | .dict [], .int i, T => atI T i
  | x, y, _ => opIx x y
def dIx (f g : DG D) : DG D := fun ρ T => (f ρ T).bind fun p => (g ρ p.2).bind fun q => (ixT p.1 q.1 q.2).map fun d => (d, q.2)
theorem de_ix (ha : DE X a F) (hb : DE X b G) (hs : PlainIx b) : DE X (.Subscript a b pos) (dIx F G) := ⟨PE.imp (pe_ix ix_seq ha.p hb.p hs) fun σ H Q ⟨c, ρ, T, O, w, ev, d, T', hG, k⟩ => by
  unfold dIx at hG
  obtain ⟨⟨x, T1⟩, h1, h⟩ := Option.bind_eq_some_iff.mp hG
  obtain ⟨⟨y, T2⟩, h2, h⟩ := Option.bind_eq_some_iff.mp h
  obtain ⟨z, h3, h⟩ := Option.map_eq_some_iff.mp h
  cases h
  refine ⟨c, ρ, T, O, w, ev, x, T1, h1, fun v1 H1 O1 w1 e1 t1 r1 => ⟨c, ρ, T1, O1, w1, e1, y, T2, h2, fun v2 H2 O2 w2 e2 t2 r2 => ?_⟩⟩
  have h3 : ixT x y T2 = some d := h3
  unfold ixT at h3
  split at h3
  · obtain ⟨xs, e3, r3⟩ := w2.tin
    have q1 := r1.tinE
    subst q1
    have q2 := r2.intE
    subst q2
    obtain ⟨v, h4, r4⟩ := atI_ra r3 h3
    exact .inl ⟨c.t, xs, _, v, rfl, rfl, SqL.of e3, h4, k v H2 O2 w2 e2 (t1.trans t2) r4⟩
  · exact od_ix H2 c.t O2 v1 v2 _ _ d Q w2.al (t2.r w1 r1) r2 h3 fun v H3 s3 r3 => k v H3 O2 (w2.same s3) (Ev.same w2 s3 e2) ((t1.trans t2).trans (Tr.same w2.ot s3)) r3⟩
/-! slices -/
def tDO (K : PySem.W.Frag) (G : DG (Option Int)) : TO := fun σ H Q => ∃ c ρ T O, Wd K c O T H ∧ Ev K c O σ ρ H ∧ ∃ o T', G ρ T = some (o, T') ∧
  ∀ H' O', Wd K c O' T' H' → Ev K c O' σ ρ H' → Tr c O H O' H' → Q o H'
structure DO (X : Cx) (e : Option Expr) (G : DG (Option Int)) : Prop where
  p : PO X e (tDO X.K G)
theorem PO.imp {X : Cx} {e : Option Expr} {t t' : TO} (p : PO X e t) (h : ∀ σ H Q, t' σ H Q → t σ H Q) : PO X e t' := ⟨fun pins s σ H Q I q => p.run pins s σ H Q I (h _ _ _ q)⟩
theorem do_none : DO X none (fun _ T => some (none, T)) := ⟨PO.imp po_none fun σ H Q ⟨c, ρ, T, O, w, ev, d, T', hG, k⟩ => by
  cases hG
  exact k H O w ev (Tr.refl w.ot)⟩
def asInt : D → Option (Option Int)
  | .int i => some (some i)
  | _ => none
theorem do_some (h : DE X e F) : DO X (some e) (dUn asInt F) := ⟨PO.imp (po_some h.p) fun σ H Q ⟨c, ρ, T, O, w, ev, d, T', hG, k⟩ => by
  obtain ⟨x, h1, h3⟩ := dUn_some hG
  unfold asInt at h3
  split at h3
  · cases h3
    refine ⟨c, ρ, T, O, w, ev, _, T', h1, fun v1 H1 O1 w1 e1 t1 r1 => ?_⟩
    exact ⟨_, r1.intE, k H1 O1 w1 e1 t1⟩
  · cases h3⟩
def cut {α : Type} (xs : List α) (lo hi : Option Int) : List α := (xs.drop (HT.sIx xs.length 0 lo)).take (HT.sIx xs.length xs.length hi - HT.sIx xs.length 0 lo)
def isWhole (n : Nat) (lo hi : Option Int) : Bool := decide (HT.sIx n 0 lo = 0 ∧ HT.sIx n n hi = n)
def opSl : D → Option Int → Option Int → Option D
  | .tuple xs, lo, hi => if isWhole xs.length lo hi then none else some (.tuple (cut xs lo hi))
  | .list xs, lo, hi => some (.list (cut xs lo hi))
  | _, _, _ => none
def dSl (f : DG D) (l h : DG (Option Int)) : DG D := fun ρ T => (f ρ T).bind fun p => (l ρ p.2).bind fun q => (h ρ q.2).bind fun r => (opSl p.1 q.1 r.1).map fun d => (d, r.2)
theorem cut_ra {K : PySem.W.Frag} {H : Hp} {t : Addr} {O : Addr → Prop} {vs : List V} {ds : List D} (r : RA K H t O vs ds) (lo hi : Option Int) : RA K H t O (cutV vs lo hi) (cut ds lo hi) := by
  unfold cutV cut
  rw [r.length]
  exact (r.drop _).take _
theorem de_sl {lo hi : Option Expr} {L U : DG (Option Int)} {p2 : Pos} (ha : DE X a F) (hl : DO X lo L) (hh : DO X hi U) : DE X (.Subscript a (.Slice lo hi none p2) pos) (dSl F L U) := ⟨PE.imp (pe_slice (sl_tup.or sl_list) ha.p hl.p hh.p) fun σ H Q ⟨c, ρ, T, O, w, ev, d, T', hG, k⟩ => by
  unfold dSl at hG
  obtain ⟨⟨x, T1⟩, h1, h⟩ := Option.bind_eq_some_iff.mp hG
  obtain ⟨⟨l, T2⟩, h2, h⟩ := Option.bind_eq_some_iff.mp h
  obtain ⟨⟨u, T3⟩, h3, h⟩ := Option.bind_eq_some_iff.mp h
  obtain ⟨z, h4, h⟩ := Option.map_eq_some_iff.mp h
  cases h
  refine ⟨c, ρ, T, O, w, ev, x, T1, h1, fun v1 H1 O1 w1 e1 t1 r1 => ⟨c, ρ, T1, O1, w1, e1, l, T2, h2, fun H2 O2 w2 e2 t2 => ⟨c, ρ, T2, O2, w2, e2, u, T3, h3, fun H3 O3 w3 e3 t3 => ?_⟩⟩⟩
  have r3 := t3.r w2 (t2.r w1 r1)
  have tt := (t1.trans t2).trans t3
  simp only at h4
  unfold opSl at h4
  split at h4
  · split at h4
    · cases h4
    · rename_i hw
      cases h4
      obtain ⟨a, xs, rfl, h5, r5⟩ := r3.tupE
      refine .inl ⟨a, xs, rfl, h5, fun z => hw (by rw [← r5.length]; exact decide_eq_true z), fun p hp => ?_⟩
      exact k _ _ O3 (w3.same (same_new hp)) (Ev.same w3 (same_new hp) e3) (tt.trans (Tr.same w3.ot (same_new hp))) (.tup (SqT.of upd_same) ((cut_ra r5 _ _).same (same_new hp)))
  · cases h4
    obtain ⟨a, xs, rfl, n5, h5, r5⟩ := r3.lstE
    refine .inr ⟨a, xs, rfl, SqL.of h5, fun p hp => ?_⟩
    exact k _ _ O3 (w3.same (same_new hp)) (Ev.same w3 (same_new hp) e3) (tt.trans (Tr.same w3.ot (same_new hp))) (.lst (fun z => w3.al p z hp) upd_same ((cut_ra r5 _ _).same (same_new hp)))
  · cases h4⟩

/-! ### tests -/
def asBool : D → Option Bool
  | .bool b => some b
  | _ => none
theorem dt_val (h : DE X e F) (he : ∀ whole, isTrue e X.env whole = (do let v ← whole; standAt e.pos; holding [v] (truthy v)) := by intro _; rfl) : DT X e (dUn asBool F) := ⟨PT.imp (pt_val h.p he) fun σ H Q ⟨c, ρ, T, O, w, ev, d, T', hG, k⟩ => by
  obtain ⟨x, h1, h3⟩ := dUn_some hG
  unfold asBool at h3
  split at h3
  · cases h3
    exact ⟨c, ρ, T, O, w, ev, _, T', h1, fun v1 H1 O1 w1 e1 t1 r1 => ⟨_, r1.blE, k H1 O1 w1 e1 t1⟩⟩
  · cases h3⟩
def truth : D → Option Bool
  | .none => some false
  | .bool b => some b
  | .int i => some (i != 0)
  | .str x => if small x.length then some ((x.length : Int) != 0) else none
  | .list xs => some (!xs.isEmpty)
  | .tuple xs => some (!xs.isEmpty)
  | _ => none
theorem RA.empty {K : PySem.W.Frag} {H : Hp} {t : Addr} {O : Addr → Prop} {vs : List V} {ds : List D} (r : RA K H t O vs ds) : (!ds.isEmpty) = !vs.isEmpty := by cases r <;> rfl
theorem dt_truth (h : DE X e F) (he : ∀ whole, isTrue e X.env whole = (do let v ← whole; standAt e.pos; holding [v] (truthy v))) : DT X e (dUn truth F) := ⟨PT.imp (pt_truth h.p he) fun σ H Q ⟨c, ρ, T, O, w, ev, d, T', hG, k⟩ => by
  obtain ⟨x, h1, h3⟩ := dUn_some hG
  refine ⟨c, ρ, T, O, w, ev, _, T', h1, fun v1 H1 O1 w1 e1 t1 r1 => ⟨d, ?_, k H1 O1 w1 e1 t1⟩⟩
  unfold truth at h3
  split at h3
  · cases h3; cases r1; rfl
  · cases h3; cases r1; rfl
  · cases h3; cases r1; rfl
  · split at h3
    · rename_i hs
      cases h3; cases r1; exact ⟨small_ok hs, rfl⟩
    · cases h3
  · cases h3
    obtain ⟨a, xs, rfl, n5, h5, r5⟩ := r1.lstE
    exact .inl ⟨xs, SqL.of h5, r5.empty⟩
  · cases h3
    obtain ⟨a, xs, rfl, h5, r5⟩ := r1.tupE
    exact .inr (.inl ⟨xs, h5, r5.empty⟩)
  · cases h3⟩
def dNot (f : DG Bool) : DG Bool := fun ρ T => (f ρ T).map fun p => (!p.1, p.2)
theorem dt_not {G : DG Bool} (h : DT X a G) : DT X (.UnaryOp .Not a pos) (dNot G) := ⟨PT.imp (pt_not h.p) fun σ H Q ⟨c, ρ, T, O, w, ev, d, T', hG, k⟩ => by
  obtain ⟨⟨b, T1⟩, h1, h2⟩ := Option.map_eq_some_iff.mp hG
  cases h2
  exact ⟨c, ρ, T, O, w, ev, b, T1, h1, fun H1 O1 w1 e1 t1 => k H1 O1 w1 e1 t1⟩⟩
structure DW (X : Cx) (e : Expr) (G : DG Bool) : Prop where
  p : PW X e (tDT X.K G)
theorem PW.imp {X : Cx} {e : Expr} {t t' : TT} (p : PW X e t) (h : ∀ σ H Q, t' σ H Q → t σ H Q) : PW X e t' := ⟨fun w pins s σ H Q I q => p.run w pins s σ H Q I (h _ _ _ q)⟩
def dAnd (f g : DG Bool) : DG Bool := fun ρ T => (f ρ T).bind fun p => if p.1 = true then g ρ p.2 else some (false, p.2)
def dOr (f g : DG Bool) : DG Bool := fun ρ T => (f ρ T).bind fun p => if p.1 = true then some (true, p.2) else g ρ p.2
theorem DW.dt {G : DG Bool} (h : DW X e G) : DT X e G := ⟨h.p.pt⟩
theorem dw_and1 {G : DG Bool} (h : DT X a G) : DW X (.BoolOp .And [a] pos) G := ⟨pw_and1 h.p⟩
theorem dw_or1 {G : DG Bool} (h : DT X a G) : DW X (.BoolOp .Or [a] pos) G := ⟨pw_or1 h.p⟩
theorem dw_and {rest : List Expr} {F G : DG Bool} (ha : DT X a F) (hb : DW X (.BoolOp .And (b :: rest) pos) G) : DW X (.BoolOp .And (a :: b :: rest) pos) (dAnd F G) := ⟨PW.imp (pw_and ha.p hb.p) fun σ H Q ⟨c, ρ, T, O, w, ev, d, T', hG, k⟩ => by
  obtain ⟨⟨x, T1⟩, h1, h⟩ := Option.bind_eq_some_iff.mp hG
  refine ⟨c, ρ, T, O, w, ev, x, T1, h1, fun H1 O1 w1 e1 t1 => ?_⟩
  cases x with
  | true =>
    rw [if_pos rfl] at h ⊢
    exact ⟨c, ρ, T1, O1, w1, e1, d, T', h, fun H2 O2 w2 e2 t2 => k H2 O2 w2 e2 (t1.trans t2)⟩
  | false =>
    rw [if_neg Bool.false_ne_true] at h ⊢
    cases h
    exact k H1 O1 w1 e1 t1⟩
theorem dw_or {rest : List Expr} {F G : DG Bool} (ha : DT X a F) (hb : DW X (.BoolOp .Or (b :: rest) pos) G) : DW X (.BoolOp .Or (a :: b :: rest) pos) (dOr F G) := ⟨PW.imp (pw_or ha.p hb.p) fun σ H Q ⟨c, ρ, T, O, w, ev, d, T', hG, k⟩ => by
  obtain ⟨⟨x, T1⟩, h1, h⟩ := Option.bind_eq_some_iff.mp hG
  refine ⟨c, ρ, T, O, w, ev, x, T1, h1, fun H1 O1 w1 e1 t1 => ?_⟩
  cases x with
  | true =>
    rw [if_pos rfl] at h ⊢
    cases h
    exact k H1 O1 w1 e1 t1
  | false =>
    rw [if_neg Bool.false_ne_true] at h ⊢
    exact ⟨c, ρ, T1, O1, w1, e1, d, T', h, fun H2 O2 w2 e2 t2 => k H2 O2 w2 e2 (t1.trans t2)⟩⟩
/-! and, or, not, if as values -/
def dAndV (f g : DG D) : DG D := fun ρ T => (f ρ T).bind fun p => (asBool p.1).bind fun b => if b = true then g ρ p.2 else some (.bool false, p.2)
def dOrV (f g : DG D) : DG D := fun ρ T => (f ρ T).bind fun p => (asBool p.1).bind fun b => if b = true then some (.bool true, p.2) else g ρ p.2
theorem asBool_some {x : D} {b : Bool} (h : asBool x = some b) : x = .bool b := by
  unfold asBool at h
  split at h
  · cases h; rfl
  · cases h
theorem de_one {op} (h : DE X a F) : DE X (.BoolOp op [a] pos) F := ⟨pe_one h.p⟩
theorem de_and {rest : List Expr} (ha : DE X a F) (hb : DE X (.BoolOp .And (b :: rest) pos) G) : DE X (.BoolOp .And (a :: b :: rest) pos) (dAndV F G) := ⟨PE.imp (pe_and ha.p hb.p) fun σ H Q ⟨c, ρ, T, O, w, ev, d, T', hG, k⟩ => by
  obtain ⟨⟨x, T1⟩, h1, h⟩ := Option.bind_eq_some_iff.mp hG
  obtain ⟨y, h2, h⟩ := Option.bind_eq_some_iff.mp h
  have := asBool_some h2
  simp only at this
  subst this
  refine ⟨c, ρ, T, O, w, ev, _, T1, h1, fun v1 H1 O1 w1 e1 t1 r1 => ⟨y, r1.blE, ?_⟩⟩
  cases y with
  | true =>
    rw [if_pos rfl] at h ⊢
    exact ⟨c, ρ, T1, O1, w1, e1, d, T', h, fun v2 H2 O2 w2 e2 t2 r2 => k v2 H2 O2 w2 e2 (t1.trans t2) r2⟩
  | false =>
    rw [if_neg Bool.false_ne_true] at h ⊢
    cases h
    exact k _ H1 O1 w1 e1 t1 (.bl false)⟩
theorem de_or {rest : List Expr} (ha : DE X a F) (hb : DE X (.BoolOp .Or (b :: rest) pos) G) : DE X (.BoolOp .Or (a :: b :: rest) pos) (dOrV F G) := ⟨PE.imp (pe_or ha.p hb.p) fun σ H Q ⟨c, ρ, T, O, w, ev, d, T', hG, k⟩ => by
  obtain ⟨⟨x, T1⟩, h1, h⟩ := Option.bind_eq_some_iff.mp hG
  obtain ⟨y, h2, h⟩ := Option.bind_eq_some_iff.mp h
  have := asBool_some h2
  simp only at this
  subst this
  refine ⟨c, ρ, T, O, w, ev, _, T1, h1, fun v1 H1 O1 w1 e1 t1 r1 => ⟨y, r1.blE, ?_⟩⟩
  cases y with
  | true =>
    rw [if_pos rfl] at h ⊢
    cases h
    exact k _ H1 O1 w1 e1 t1 (.bl true)
  | false =>
    rw [if_neg Bool.false_ne_true] at h ⊢
    exact ⟨c, ρ, T1, O1, w1, e1, d, T', h, fun v2 H2 O2 w2 e2 t2 r2 => k v2 H2 O2 w2 e2 (t1.trans t2) r2⟩⟩
theorem de_not (ha : DE X a F) : DE X (.UnaryOp .Not a pos) (dUn (fun x => (asBool x).map fun b => .bool (!b)) F) := ⟨PE.imp (pe_not ha.p) fun σ H Q ⟨c, ρ, T, O, w, ev, d, T', hG, k⟩ => by
  obtain ⟨x, h1, h3⟩ := dUn_some hG
  obtain ⟨y, h2, h⟩ := Option.map_eq_some_iff.mp h3
  have := asBool_some h2
  subst this
  subst h
  exact ⟨c, ρ, T, O, w, ev, _, T', h1, fun v1 H1 O1 w1 e1 t1 r1 => ⟨y, r1.blE, k _ H1 O1 w1 e1 t1 (.bl _)⟩⟩⟩
def dIf {α : Type} (t : DG Bool) (f g : DG α) : DG α := fun ρ T => (t ρ T).bind fun p => if p.1 = true then f ρ p.2 else g ρ p.2
theorem de_if {t : Expr} {B : DG Bool} (ht : DT X t B) (ha : DE X a F) (hb : DE X b G) : DE X (.IfExp t a b pos) (dIf B F G) := ⟨PE.imp (pe_ifExp ht.p ha.p hb.p) fun σ H Q ⟨c, ρ, T, O, w, ev, d, T', hG, k⟩ => by
  obtain ⟨⟨x, T1⟩, h1, h⟩ := Option.bind_eq_some_iff.mp hG
  refine ⟨c, ρ, T, O, w, ev, x, T1, h1, fun H1 O1 w1 e1 t1 => ?_⟩
  cases x with
  | true =>
    rw [if_pos rfl] at h ⊢
    exact ⟨c, ρ, T1, O1, w1, e1, d, T', h, fun v2 H2 O2 w2 e2 t2 r2 => k v2 H2 O2 w2 e2 (t1.trans t2) r2⟩
  | false =>
    rw [if_neg Bool.false_ne_true] at h ⊢
    exact ⟨c, ρ, T1, O1, w1, e1, d, T', h, fun v2 H2 O2 w2 e2 t2 r2 => k v2 H2 O2 w2 e2 (t1.trans t2) r2⟩⟩
end
end DL
set_option Elab.async false
set_option linter.all false
set_option maxRecDepth 100000
set_option maxHeartbeats 4000000
namespace DL
open PySem PySem.Spec PyProof.Rows L2

/-! ### calls -/
section
variable {X : Cx} {e a b : Expr} {es : List Expr} {pos p : Pos} {F G : DG D} {A : DG (List D)}
def CallD (K : PySem.W.Frag) (r : List V → Hp → VK → Prop) (op : List D → Option D) : Prop := ∀ (H : Hp) (t : Addr) (O : Addr → Prop) (vs : List V) (xs : List D) (d : D) (Q : VK), (∀ b, O b → H b ≠ none) → RA K H t O vs xs → op xs = some d →
  (∀ v H', Same H H' → R K H' t O v d → Q v H') → r vs H Q
theorem cb_imp {K : PySem.W.Frag} {r : List V → Hp → VK → Prop} {op : List D → Option D} (ho : CallD K r op) {σ : L2.St} {H : Hp} {Q : VK} (h : tD K (dUn op A) σ H Q) : tCB r (tDA K A) σ H Q := by
  obtain ⟨c, ρ, T, O, w, ev, d, T', hG, k⟩ := h
  obtain ⟨x, h1, h3⟩ := dUn_some hG
  exact ⟨c, ρ, T, O, w, ev, x, T', h1, fun v1 H1 O1 w1 e1 t1 r1 => ho H1 c.t O1 v1 x d Q w1.al r1 h3 fun v H3 s3 r3 => k v H3 O1 (w1.same s3) (Ev.same w1 s3 e1) (t1.trans (Tr.same w1.ot s3)) r3⟩
theorem de_callB {x : Str} {id : String} {r : List V → Hp → VK → Prop} {op : List D → Option D} (hc : CallR X (.builtin id) r) (ho : CallD X.K r op) (hg : Gl X x) (hm : X.mg x = none) (hv : bootBuiltins x = some (.builtin id)) (ha : DA X (e :: es) A) (hn : x ≠ "__name__" := by decide) (hdb : (x == ("__debug__" : Str)) = false := by decide)
    (he : starEach (e :: es) X.env = (false, eval e X.env) :: starEach es X.env := by rfl) (hpl : (backTo pos (starEach es X.env)).any (·.1) = false := by rfl) : DE X (.Call (.Name x p) (e :: es) [] pos) (dUn op A) :=
  ⟨PE.imp (pe_callB hc hg hm hv ha.p hn hdb he hpl) fun σ H Q h => cb_imp ho h⟩
theorem de_callTy {x : Str} {T : String} {r : List V → Hp → VK → Prop} {op : List D → Option D} (hc : CallR X (.type T) r) (ho : CallD X.K r op) (hg : Gl X x) (hm : X.mg x = none) (hv : bootBuiltins x = some (.type T)) (ha : DA X (e :: es) A) (hn : x ≠ "__name__" := by decide) (hdb : (x == ("__debug__" : Str)) = false := by decide)
    (he : starEach (e :: es) X.env = (false, eval e X.env) :: starEach es X.env := by rfl) (hpl : (backTo pos (starEach es X.env)).any (·.1) = false := by rfl) : DE X (.Call (.Name x p) (e :: es) [] pos) (dUn op A) :=
  ⟨PE.imp (pe_callTy hc hg hm hv ha.p hn hdb he hpl) fun σ H Q h => cb_imp ho h⟩
section
variable {K : PySem.W.Frag} {H : Hp} {t : Addr} {O : Addr → Prop} {v : V} {vs : List V} {d d' : D}
theorem RA.one (r : RA K H t O vs [d]) : ∃ v, vs = [v] ∧ R K H t O v d := by
  cases r with
  | cons p q => cases q; exact ⟨_, rfl, p⟩
theorem RA.two (r : RA K H t O vs [d, d']) : ∃ v v', vs = [v, v'] ∧ R K H t O v d ∧ R K H t O v' d' := by
  cases r with
  | cons p q =>
    obtain ⟨v2, e2, q2⟩ := q.one
    subst e2
    exact ⟨_, _, rfl, p, q2⟩
end
def bAbs : List D → Option D
  | [.int i] => some (.int (if i < 0 then -i else i))
  | _ => none
theorem cd_abs : CallD X.K (fun xs H Q => ∃ i, xs = [.int i] ∧ Q (.int (if i < 0 then -i else i)) H) bAbs := by
  intro H t O vs xs d Q al r h q
  unfold bAbs at h
  split at h
  · cases h
    obtain ⟨v, rfl, rv⟩ := r.one
    cases rv.intE
    exact ⟨_, rfl, q _ H (Same.refl H) (.int _)⟩
  · cases h
def bMax2 : List D → Option D
  | [.int i, .int j] => some (.int (if j > i then j else i))
  | _ => none
theorem cd_max2 : CallD X.K (fun xs H Q => ∃ i j, xs = [.int i, .int j] ∧ Q (.int (if j > i then j else i)) H) bMax2 := by
  intro H t O vs xs d Q al r h q
  unfold bMax2 at h
  split at h
  · cases h
    obtain ⟨v, v', rfl, rv, rv'⟩ := r.two
    cases rv.intE
    cases rv'.intE
    exact ⟨_, _, rfl, q _ H (Same.refl H) (.int _)⟩
  · cases h
def bMin2 : List D → Option D
  | [.int i, .int j] => some (.int (if j < i then j else i))
  | _ => none
theorem cd_min2 : CallD X.K (fun xs H Q => ∃ i j, xs = [.int i, .int j] ∧ Q (.int (if j < i then j else i)) H) bMin2 := by
  intro H t O vs xs d Q al r h q
  unfold bMin2 at h
  split at h
  · cases h
    obtain ⟨v, v', rfl, rv, rv'⟩ := r.two
    cases rv.intE
    cases rv'.intE
    exact ⟨_, _, rfl, q _ H (Same.refl H) (.int _)⟩
  · cases h
def bInt1 : List D → Option D
  | [.int i] => some (.int i)
  | [.bool k] => some (.int (if k then 1 else 0))
  | _ => none
theorem cd_int1 : CallD X.K (fun xs H Q => (∃ i, xs = [.int i] ∧ Q (.int i) H) ∨ ∃ k, xs = [.bl k] ∧ Q (.int (if k then 1 else 0)) H) bInt1 := by
  intro H t O vs xs d Q al r h q
  unfold bInt1 at h
  split at h
  · cases h
    obtain ⟨v, rfl, rv⟩ := r.one
    cases rv.intE
    exact .inl ⟨_, rfl, q _ H (Same.refl H) (.int _)⟩
  · cases h
    obtain ⟨v, rfl, rv⟩ := r.one
    cases rv.blE
    exact .inr ⟨_, rfl, q _ H (Same.refl H) (.int _)⟩
  · cases h
def bLen : List D → Option D
  | [.list xs] => some (.int xs.length)
  | [.tuple xs] => some (.int xs.length)
  | [.str x] => if small x.length then some (.int x.length) else none
  | _ => none
theorem cr_len : CallR X (.builtin "len") (fun xs H Q => (∃ p ys, xs = [.ref p] ∧ (SqL X.K H p ys ∨ SqT X.K H p ys) ∧ Q (.int ys.length) H) ∨ ∃ z, xs = [.str z] ∧ z.length ≤ sizeLine ∧ Q (.int z.length) H) := call_len_seq.or call_len_str
theorem cd_len : CallD X.K (fun xs H Q => (∃ p ys, xs = [.ref p] ∧ (SqL X.K H p ys ∨ SqT X.K H p ys) ∧ Q (.int ys.length) H) ∨ ∃ z, xs = [.str z] ∧ z.length ≤ sizeLine ∧ Q (.int z.length) H) bLen := by
  intro H t O vs xs d Q al r h q
  unfold bLen at h
  split at h
  · cases h
    obtain ⟨v, rfl, rv⟩ := r.one
    obtain ⟨a, ys, rfl, n, h1, r1⟩ := rv.lstE
    exact .inl ⟨a, ys, rfl, .inl (SqL.of h1), by rw [r1.length]; exact q _ H (Same.refl H) (.int _)⟩
  · cases h
    obtain ⟨v, rfl, rv⟩ := r.one
    obtain ⟨a, ys, rfl, h1, r1⟩ := rv.tupE
    exact .inl ⟨a, ys, rfl, .inr h1, by rw [r1.length]; exact q _ H (Same.refl H) (.int _)⟩
  · split at h
    · rename_i hs
      cases h
      obtain ⟨v, rfl, rv⟩ := r.one
      cases rv.strE
      exact .inr ⟨_, rfl, small_ok hs, q _ H (Same.refl H) (.int _)⟩
    · cases h
  · cases h
def bTuple : List D → Option D
  | [.list xs] => some (.tuple xs)
  | [.tuple xs] => some (.tuple xs)
  | _ => none
theorem cd_tuple : CallD X.K (fun xs H Q => ∃ p ys, xs = [.ref p] ∧ ((SqL X.K H p ys ∧ ∀ l, H l = none → Q (.ref l) (upd H l (.tup ys))) ∨ (SqT X.K H p ys ∧ Q (.ref p) H))) bTuple := by
  intro H t O vs xs d Q al r h q
  unfold bTuple at h
  split at h
  · cases h
    obtain ⟨v, rfl, rv⟩ := r.one
    obtain ⟨a, ys, rfl, n, h1, r1⟩ := rv.lstE
    exact ⟨a, ys, rfl, .inl ⟨SqL.of h1, fun l hl => q _ _ (same_new hl) (.tup (SqT.of upd_same) (r1.same (same_new hl)))⟩⟩
  · cases h
    obtain ⟨v, rfl, rv⟩ := r.one
    have rv' := rv
    obtain ⟨a, ys, rfl, h1, r1⟩ := rv.tupE
    exact ⟨a, ys, rfl, .inr ⟨h1, q _ H (Same.refl H) rv'⟩⟩
  · cases h
def bList : List D → Option (List D)
  | [.list xs] => some xs
  | [.tuple xs] => some xs
  | _ => none
/-- list(xs): a new list -/
theorem df_list {x : Str} (hg : Gl X x) (hm : X.mg x = none) (hv : bootBuiltins x = some (.type "list")) (ha : DA X (e :: es) A) (hn : x ≠ "__name__" := by decide) (hdb : (x == ("__debug__" : Str)) = false := by decide)
    (he : starEach (e :: es) X.env = (false, eval e X.env) :: starEach es X.env := by rfl) (hpl : (backTo pos (starEach es X.env)).any (·.1) = false := by rfl) : DF X (.Call (.Name x p) (e :: es) [] pos) (dUn bList A) :=
  ⟨PE.imp (pe_callTy call_list_of hg hm hv ha.p hn hdb he hpl) fun σ H Q ⟨c, ρ, T, O, w, ev, d, T', hG, k⟩ => by
    obtain ⟨x, h1, h3⟩ := dUn_some hG
    refine ⟨c, ρ, T, O, w, ev, x, T', h1, fun v1 H1 O1 w1 e1 t1 r1 => ?_⟩
    have fin : ∀ (ys : List V) l, RA X.K H1 c.t O1 ys d → H1 l = none → Q (.ref l) (upd H1 l (.lst ys)) := fun ys l r hl => by
      obtain ⟨w2, e2, t2⟩ := lay w1 e1 hl ys
      exact k l _ _ ys w2 e2 (t1.trans t2) upd_same (t2.ra w1 r) (free_of w1 t1 hl) (.inr rfl)
    unfold bList at h3
    split at h3
    · cases h3
      obtain ⟨v, rfl, rv⟩ := r1.one
      obtain ⟨a, ys, rfl, n, h5, r5⟩ := rv.lstE
      exact ⟨a, ys, rfl, .inl (SqL.of h5), fun l hl => fin ys l r5 hl⟩
    · cases h3
      obtain ⟨v, rfl, rv⟩ := r1.one
      obtain ⟨a, ys, rfl, h5, r5⟩ := rv.tupE
      exact ⟨a, ys, rfl, .inr h5, fun l hl => fin ys l r5 hl⟩
    · cases h3⟩
def allBool : List D → Option (List Bool)
  | [] => some []
  | .bool b :: r => (allBool r).map (b :: ·)
  | _ :: _ => none
theorem allBool_ra {K : PySem.W.Frag} {H : Hp} {t : Addr} {O : Addr → Prop} : ∀ {vs : List V} {ds : List D} {bs : List Bool}, RA K H t O vs ds → allBool ds = some bs → vs = bs.map V.bl
  | _, _, bs, .nil, h => by cases h; rfl
  | _, d :: ds, bs, .cons r q, h => by
    cases d with
    | bool b =>
      obtain ⟨cs, h1, h2⟩ := Option.map_eq_some_iff.mp (show (allBool ds).map (b :: ·) = some bs from h)
      subst h2
      rw [r.blE, allBool_ra q h1]
      rfl
    | _ => cases h
def bAll : List D → Option D
  | [.list xs] => (allBool xs).map fun bs => .bool (bs.all id)
  | _ => none
def bAny : List D → Option D
  | [.list xs] => (allBool xs).map fun bs => .bool (bs.any id)
  | _ => none
theorem cd_all : CallD X.K (rAll X.K) bAll := by
  intro H t O vs xs d Q al r h q
  unfold bAll at h
  split at h
  · obtain ⟨bs, h1, h2⟩ := Option.map_eq_some_iff.mp h
    subst h2
    obtain ⟨v, rfl, rv⟩ := r.one
    obtain ⟨a, ys, rfl, n, h5, r5⟩ := rv.lstE
    exact ⟨a, bs, rfl, by rw [← allBool_ra r5 h1]; exact SqL.of h5, q _ H (Same.refl H) (.bl _)⟩
  · cases h
theorem cd_any : CallD X.K (rAny X.K) bAny := by
  intro H t O vs xs d Q al r h q
  unfold bAny at h
  split at h
  · obtain ⟨bs, h1, h2⟩ := Option.map_eq_some_iff.mp h
    subst h2
    obtain ⟨v, rfl, rv⟩ := r.one
    obtain ⟨a, ys, rfl, n, h5, r5⟩ := rv.lstE
    exact ⟨a, bs, rfl, by rw [← allBool_ra r5 h1]; exact SqL.of h5, q _ H (Same.refl H) (.bl _)⟩
  · cases h
def allInt : List D → Option (List Int)
  | [] => some []
  | .int b :: r => (allInt r).map (b :: ·)
  | _ :: _ => none
theorem allInt_ra {K : PySem.W.Frag} {H : Hp} {t : Addr} {O : Addr → Prop} : ∀ {vs : List V} {ds : List D} {bs : List Int}, RA K H t O vs ds → allInt ds = some bs → vs = bs.map V.int
  | _, _, bs, .nil, h => by cases h; rfl
  | _, d :: ds, bs, .cons r q, h => by
    cases d with
    | int b =>
      obtain ⟨cs, h1, h2⟩ := Option.map_eq_some_iff.mp (show (allInt ds).map (b :: ·) = some bs from h)
      subst h2
      rw [r.intE, allInt_ra q h1]
      rfl
    | _ => cases h
def bSum : List D → Option D
  | [.list xs] => (allInt xs).map fun bs => .int bs.sum
  | _ => none
theorem cd_sum : CallD X.K (rSum X.K) bSum := by
  intro H t O vs xs d Q al r h q
  unfold bSum at h
  split at h
  · obtain ⟨bs, h1, h2⟩ := Option.map_eq_some_iff.mp h
    subst h2
    obtain ⟨v, rfl, rv⟩ := r.one
    obtain ⟨a, ys, rfl, n, h5, r5⟩ := rv.lstE
    exact ⟨a, bs, rfl, by rw [← allInt_ra r5 h1]; exact SqL.of h5, q _ H (Same.refl H) (.int _)⟩
  · cases h
/-- the greatest of a list of ints -/
def maxI : List Int → Int
  | [] => 0
  | [x] => x
  | x :: r => max x (maxI r)
theorem maxI_mem : ∀ {ns : List Int}, 0 < ns.length → maxI ns ∈ ns
  | [x], _ => by simp [maxI]
  | x :: y :: r, _ => by
    have h := maxI_mem (ns := y :: r) (by simp)
    unfold maxI
    by_cases q : x ≤ maxI (y :: r)
    · rw [Int.max_eq_right q]; exact List.mem_cons_of_mem _ h
    · rw [Int.max_eq_left (by omega)]; exact List.mem_cons_self
theorem maxI_ge : ∀ {ns : List Int} {y : Int}, y ∈ ns → y ≤ maxI ns
  | [x], y, h => by simp at h; subst h; simp [maxI]
  | x :: z :: r, y, h => by
    unfold maxI
    rcases List.mem_cons.mp h with rfl | h
    · exact Int.le_max_left _ _
    · exact Int.le_trans (maxI_ge h) (Int.le_max_right _ _)
def bMax : List D → Option D
  | [.list xs] => (allInt xs).bind fun bs => if 0 < bs.length then some (.int (maxI bs)) else none
  | _ => none
theorem cd_max : CallD X.K (rMax X.K) bMax := by
  intro H t O vs xs d Q al r h q
  unfold bMax at h
  split at h
  · obtain ⟨bs, h1, h2⟩ := Option.bind_eq_some_iff.mp h
    split at h2
    · rename_i hl
      cases h2
      obtain ⟨v, rfl, rv⟩ := r.one
      obtain ⟨a, ys, rfl, n, h5, r5⟩ := rv.lstE
      refine ⟨a, bs, rfl, by rw [← allInt_ra r5 h1]; exact SqL.of h5, hl, fun m hm hle => ?_⟩
      have e : m = maxI bs := Int.le_antisymm (maxI_ge hm) (hle _ (maxI_mem hl))
      subst e
      exact q _ H (Same.refl H) (.int _)
    · cases h2
  · cases h

/-! isinstance with built-in types -/
def tyN : D → Option String
  | .none => some "NoneType"
  | .bool _ => some "bool"
  | .int _ => some "int"
  | .str _ => some "str"
  | .list _ => some "list"
  | .tuple _ => some "tuple"
  | .dict _ => none
theorem R.ty {K : PySem.W.Frag} {H : Hp} {t : Addr} {O : Addr → Prop} {v : V} {d : D} {n : String} (r : R K H t O v d) (h : tyN d = some n) : TyX K H v (.type n) := by
  cases r with
  | non => cases h; exact .base .non
  | bl b => cases h; exact .base (.bl b)
  | int b => cases h; exact .base (.int b)
  | str b => cases h; exact .base (.str b)
  | lst _ e _ => cases h; exact .base (.lst e)
  | tup e _ =>
    cases h
    rcases e with (e | ⟨o, e⟩) | ⟨o, its, m, h1, h2, _⟩
    · exact .base (.tup e)
    · exact .fTuple e
    · exact .kTuple h1 h2
  | tin => cases h
def isiN (a b : String) : Bool := a == b || (a == "bool" && b == "int")
def isiTys : List String := ["NoneType", "bool", "int", "str", "list", "tuple"]
theorem isi_kit : ∀ a ∈ isiTys, ∀ b ∈ isiTys, kitB a b = some (isiN a b) := by decide +kernel
theorem tyN_mem {d : D} {n : String} (h : tyN d = some n) : n ∈ isiTys := by
  unfold isiTys
  cases d <;> first | (cases h; decide) | cases h
def isiAny (a : String) : List String → Bool
  | [] => false
  | b :: r => isiN a b || isiAny a r
theorem isi_any {K : PySem.W.Frag} {a : String} (ha : a ∈ isiTys) : ∀ {bs : List String}, (∀ b ∈ bs, b ∈ isiTys) → PySem.W.kitAny K (.type a) (bs.map Value.type) = some (isiAny a bs)
  | [], _ => rfl
  | b :: r, h => by
    have h1 : PySem.W.kitOne K (.type a) (.type b) = some (isiN a b) := kit_ty (isi_kit a ha b (h b List.mem_cons_self))
    refine kitAny_cons h1 (fun e => ?_) (fun e => ?_)
    · unfold isiAny
      rw [e, Bool.false_or]
      exact isi_any ha fun c hc => h c (List.mem_cons_of_mem _ hc)
    · unfold isiAny
      rw [e]; rfl
/-- the class's name -/
structure TyE (X : Cx) (e : Expr) (n : String) : Prop where
  p : PE X e (tC (.ty n))
  s : ∀ es, starEach (e :: es) X.env = (false, eval e X.env) :: starEach es X.env
theorem ty_name {x : Str} {n : String} (hg : Gl X x) (hm : X.mg x = none) (hv : bootBuiltins x = some (.type n)) (hn : x ≠ "__name__" := by decide) (hd : (x == ("__debug__" : Str)) = false := by decide) : TyE X (.Name x pos) n :=
  ⟨pe_bltn hg hm hv rfl hn hd, fun _ => rfl⟩
def dIsi (bs : List String) (f : DG D) : DG D := dUn (fun x => (tyN x).map fun n => .bool (isiAny n bs)) f
theorem isiAny_one (a b : String) : isiAny a [b] = isiN a b := by simp [isiAny]
theorem de_isi {n : String} {b : Expr} {x : Str} (hg : Gl X x) (hm : X.mg x = none) (hv : bootBuiltins x = some (.builtin "isinstance")) (ha : DE X a F) (ht : TyE X b n) (hmem : n ∈ isiTys) (hn : x ≠ "__name__" := by decide) (hdb : (x == ("__debug__" : Str)) = false := by decide)
    (he : starEach (a :: [b]) X.env = (false, eval a X.env) :: starEach [b] X.env := by rfl) (hpl : (backTo pos (starEach [b] X.env)).any (·.1) = false := by rfl) : DE X (.Call (.Name x p) [a, b] [] pos) (dIsi [n] F) :=
  ⟨PE.imp (pe_callB call_isi hg hm hv (pa_cons ha.p (pa_cons ht.p pa_nil (ht.s [])) he) hn hdb he hpl) fun σ H Q ⟨c, ρ, T, O, w, ev, d, T', hG, k⟩ => by
    obtain ⟨x, h1, h3⟩ := dUn_some hG
    obtain ⟨m, h4, h5⟩ := Option.map_eq_some_iff.mp h3
    subst h5
    refine ⟨c, ρ, T, O, w, ev, x, T', h1, fun v1 H1 O1 w1 e1 t1 r1 => ?_⟩
    refine ⟨v1, .ty n, .type m, .type n, isiAny m [n], rfl, .ty n, r1.ty h4, ?_, k _ H1 O1 w1 e1 t1 (.bl _)⟩
    rw [isiAny_one]
    exact kit_ty (isi_kit m (tyN_mem h4) n hmem)⟩
structure TysE (X : Cx) (es : List Expr) (ns : List String) : Prop where
  p : PA X es (fun _ H Q => Q (ns.map V.ty) H)
theorem tys_nil : TysE X [] [] := ⟨PA.imp pa_nil fun _ _ _ h => h⟩
theorem tys_cons {n : String} {ns : List String} (h : TyE X e n) (r : TysE X es ns) : TysE X (e :: es) (n :: ns) := ⟨PA.imp (pa_cons h.p r.p (h.s es)) fun _ _ _ h => h⟩
theorem paired_ty : ∀ ns : List String, Paired ClsV (ns.map V.ty) (ns.map Value.type)
  | [] => .nil
  | n :: r => .cons (.ty n) (paired_ty r)
theorem de_isiT {ns : List String} {bs : List Expr} {x1 : Nat} {p2 : Pos} {x : Str} (hg : Gl X x) (hm : X.mg x = none) (hv : bootBuiltins x = some (.builtin "isinstance")) (ha : DE X a F) (ht : TysE X bs ns) (hmem : ∀ n ∈ ns, n ∈ isiTys) (hl : ns.length ≤ 1000) (hn : x ≠ "__name__" := by decide) (hdb : (x == ("__debug__" : Str)) = false := by decide)
    (he : starEach (a :: [.Tuple bs x1 p2]) X.env = (false, eval a X.env) :: starEach [.Tuple bs x1 p2] X.env := by rfl) (hpl : (backTo pos (starEach [.Tuple bs x1 p2] X.env)).any (·.1) = false := by rfl) : DE X (.Call (.Name x p) [a, .Tuple bs x1 p2] [] pos) (dIsi ns F) :=
  ⟨PE.imp (pe_callB call_isiT hg hm hv (pa_cons ha.p (pa_cons (pe_tup ht.p) pa_nil) he) hn hdb he hpl) fun σ H Q ⟨c, ρ, T, O, w, ev, d, T', hG, k⟩ => by
    obtain ⟨x, h1, h3⟩ := dUn_some hG
    obtain ⟨m, h4, h5⟩ := Option.map_eq_some_iff.mp h3
    subst h5
    refine ⟨c, ρ, T, O, w, ev, x, T', h1, fun v1 H1 O1 w1 e1 t1 r1 => ⟨by rw [List.length_map, sizeLine_eq]; omega, fun tp htp => ?_⟩⟩
    have r2 := r1.same (same_new (o := .tup (ns.map V.ty)) htp)
    exact ⟨v1, tp, ns.map V.ty, .type m, ns.map Value.type, isiAny m ns, rfl, upd_same, paired_ty ns, r2.ty h4, isi_any (tyN_mem h4) hmem, k _ _ O1 (w1.same (same_new htp)) (Ev.same w1 (same_new htp) e1) (t1.trans (Tr.same w1.ot (same_new htp))) (.bl _)⟩⟩
end

/-! ### a def's promise -/
/-- of n data: F -/
def spD (K : PySem.W.Frag) (n : Nat) (F : List D → List D → Option (D × List D)) : Sp := fun vs H Q _ => vs.length = n ∧ ∃ t O ds T d T', O t ∧ (∃ xs, H t = some (.lst xs) ∧ RA K H t O xs T) ∧ (∀ b, O b → H b ≠ none) ∧ RA K H t O vs ds ∧ F ds T = some (d, T') ∧
  ∀ v H', (∀ b o, H b = some o → b ≠ t → H' b = some o) → (∃ xs, H' t = some (.lst xs) ∧ RA K H' t O xs T') → R K H' t O v d → Q v H'
theorem Wd.call {K : PySem.W.Frag} {c : Ctx} {O : Addr → Prop} {H H' : Hp} {T T' : List D} (w : Wd K c O T H) (kp : ∀ b o, H b = some o → b ≠ c.t → H' b = some o) (tn : ∃ xs, H' c.t = some (.lst xs) ∧ RA K H' c.t O xs T') : Wd K c O T' H' :=
  ⟨w.ot, tn, fun b o h n => kp b o (w.kp b o h n) n, w.up, w.nw, fun b h z => by
    by_cases e : b = c.t
    · obtain ⟨xs, h1, _⟩ := tn
      rw [e, h1] at z; cases z
    · cases q : H b with
      | none => exact w.al b h q
      | some o => rw [kp b o q e] at z; cases z⟩
def dCall (F : List D → List D → Option (D × List D)) (a : DG (List D)) : DG D := fun ρ T => (a ρ T).bind fun p => F p.1 p.2
section
variable {X : Cx} {CX : CXT} {k n : Nat} {f : Addr} {fd : FuncData} {ps : List Str} {F : List D → List D → Option (D × List D)} {E : XK} {x : Str} {p pos : Pos} {e : Expr} {es : List Expr} {A : DG (List D)}
theorem call_imp {K : PySem.W.Frag} {σ : L2.St} {H : Hp} {Q : VK} (hlen : ∀ ρ T ds T', A ρ T = some (ds, T') → ds.length = n) (h : tD K (dCall F A) σ H Q) : tCall (spD K n F) [] E (tDA K A) σ H Q := by
  obtain ⟨c, ρ, T, O, w, ev, d, T', hG, k⟩ := h
  obtain ⟨⟨ds, T1⟩, h1, h2⟩ := Option.bind_eq_some_iff.mp hG
  refine ⟨c, ρ, T, O, w, ev, ds, T1, h1, fun vs H1 O1 w1 e1 t1 r1 => ?_⟩
  show spD K n F (vs ++ []) H1 Q E
  rw [List.append_nil]
  refine ⟨by rw [r1.length]; exact hlen _ _ _ _ h1, c.t, O1, ds, T1, d, T', w1.ot, w1.tin, w1.al, r1, h2, fun v H' kp tn rv => ?_⟩
  have t2 : Tr c O1 H1 O1 H' := ⟨w1.ot, kp, fun _ h => h, fun _ h => .inl h⟩
  exact k v H' O1 (w1.call kp tn) (t2.ev w1 e1) (t1.trans t2) rv
theorem dNil_len {ρ : List Sl} {T : List D} {ds : List D} {T' : List D} (h : dNil ρ T = some (ds, T')) : ds.length = 0 := by cases h; rfl
theorem dCons_len {f : DG D} {g : DG (List D)} {m : Nat} (hg : ∀ ρ T ds T', g ρ T = some (ds, T') → ds.length = m) : ∀ ρ T ds T', dCons f g ρ T = some (ds, T') → ds.length = m + 1 := fun ρ T ds T' h => by
  obtain ⟨x, T1, y, h1, h2, h3⟩ := dBin_some h
  cases h3
  rw [List.length_cons, hg _ _ _ _ h2]
theorem de_call (Fn : FnOk X.prog X.w X.K X.mg X.base CX k f fd ps (spD X.K n F)) (hr : Room k X.A) (hg : Gl X x) (hm : X.mg x = some (.ref f)) (hk : PySem.W.keepIn X.K (.ref f) = true) (hb : Binds X.K fd ps []) (hx : Passes CX X E)
    (ha : DA X (e :: es) A) (hlen : ∀ ρ T ds T', A ρ T = some (ds, T') → ds.length = n)
    (hd : (x == ("__debug__" : Str)) = false := by decide) (he : starEach (e :: es) X.env = (false, eval e X.env) :: starEach es X.env := by rfl) (hpl : (backTo pos (starEach es X.env)).any (·.1) = false := by rfl) : DE X (.Call (.Name x p) (e :: es) [] pos) (dCall F A) := by
  refine ⟨PE.imp (pe_call Fn hr hg hm hk hb .nil hx ha.p hd he hpl) fun σ H Q h => call_imp hlen h⟩
end
end DL
set_option Elab.async false
set_option linter.all false
set_option maxRecDepth 100000
set_option maxHeartbeats 4000000
namespace DL
open PySem PySem.Spec PyProof.Rows L2

/-! ### slots stored -/
section
variable {K : PySem.W.Frag} {c : Ctx} {O O' : Addr → Prop} {H H' : Hp} {σ : L2.St} {ρ : List Sl} {T T' : List D} {v : V} {d : D} {i : Nat}
theorem Ev.set (e : Ev K c O σ ρ H) (r : R K H c.t O v d) : Ev K c O (σ.set i (some v)) (ρ.set i (.sh d)) H := by
  refine ⟨by rw [List.length_set, List.length_set]; exact e.len, fun j o s h1 h2 => ?_, fun j k a ds es hjk h1 h2 h3 h4 => ?_⟩
  · by_cases hj : i = j
    · subst hj
      have hl := (List.getElem?_eq_some_iff.mp h1).1
      rw [List.length_set] at hl
      rw [List.getElem?_set_self hl] at h1
      rw [List.getElem?_set_self (by rw [← e.len]; exact hl)] at h2
      cases h1; cases h2
      exact .sh r
    · rw [List.getElem?_set_ne hj] at h1 h2
      exact e.at_ j o s h1 h2
  · have nj : i ≠ j := fun z => by
      subst z
      have hl := (List.getElem?_eq_some_iff.mp h2).1
      rw [List.length_set] at hl
      rw [List.getElem?_set_self hl] at h2; cases h2
    have nk : i ≠ k := fun z => by
      subst z
      have hl := (List.getElem?_eq_some_iff.mp h4).1
      rw [List.length_set] at hl
      rw [List.getElem?_set_self hl] at h4; cases h4
    rw [List.getElem?_set_ne nj] at h1 h2
    rw [List.getElem?_set_ne nk] at h3 h4
    exact e.sep j k a ds es hjk h1 h2 h3 h4
theorem Ev.no (e : Ev K c O σ ρ H) {o : Option V} : Ev K c O (σ.set i o) (ρ.set i .no) H := by
  refine ⟨by rw [List.length_set, List.length_set]; exact e.len, fun j o s h1 h2 => ?_, fun j k a ds es hjk h1 h2 h3 h4 => ?_⟩
  · by_cases hj : i = j
    · subst hj
      have hl := (List.getElem?_eq_some_iff.mp h2).1
      rw [List.length_set] at hl
      rw [List.getElem?_set_self hl] at h2
      cases h2
      exact .no
    · rw [List.getElem?_set_ne hj] at h1 h2
      exact e.at_ j o s h1 h2
  · have nj : i ≠ j := fun z => by
      subst z
      have hl := (List.getElem?_eq_some_iff.mp h2).1
      rw [List.length_set] at hl
      rw [List.getElem?_set_self hl] at h2; cases h2
    have nk : i ≠ k := fun z => by
      subst z
      have hl := (List.getElem?_eq_some_iff.mp h4).1
      rw [List.length_set] at hl
      rw [List.getElem?_set_self hl] at h4; cases h4
    rw [List.getElem?_set_ne nj] at h1 h2
    rw [List.getElem?_set_ne nk] at h3 h4
    exact e.sep j k a ds es hjk h1 h2 h3 h4
/-- an own list's slot: at a, nobody else's -/
theorem Ev.setO (w : Wd K c O T H) (e : Ev K c O σ ρ H) {a : Addr} {xs : List V} {ds : List D} (na : a ≠ c.t) (oa : O a) (n0 : ¬ c.O0 a) (h0 : c.H0 a = none) (ha : H a = some (.lst xs)) (r : RA K H c.t O xs ds)
    (sp : ∀ j es, j ≠ i → σ[j]? = some (some (.ref a)) → ρ[j]? = some (.ow es) → False) : Ev K c O (σ.set i (some (.ref a))) (ρ.set i (.ow ds)) H := by
  refine ⟨by rw [List.length_set, List.length_set]; exact e.len, fun j o s h1 h2 => ?_, fun j k b es fs hjk h1 h2 h3 h4 => ?_⟩
  · by_cases hj : i = j
    · subst hj
      have hl := (List.getElem?_eq_some_iff.mp h1).1
      rw [List.length_set] at hl
      rw [List.getElem?_set_self hl] at h1
      rw [List.getElem?_set_self (by rw [← e.len]; exact hl)] at h2
      cases h1; cases h2
      exact .ow na oa n0 h0 ha r
    · rw [List.getElem?_set_ne hj] at h1 h2
      exact e.at_ j o s h1 h2
  · have at_i : ∀ {z : Addr} {gs : List D}, (σ.set i (some (V.ref a)))[i]? = some (some (.ref z)) → z = a := fun {z gs} h => by
      have hl := (List.getElem?_eq_some_iff.mp h).1
      rw [List.length_set] at hl
      rw [List.getElem?_set_self hl] at h; cases h; rfl
    by_cases hj : i = j
    · subst hj
      have e1 := at_i (gs := []) h1
      subst e1
      rw [List.getElem?_set_ne hjk] at h3 h4
      exact sp k fs hjk.symm h3 h4
    · by_cases hk : i = k
      · subst hk
        have e1 := at_i (gs := []) h3
        subst e1
        rw [List.getElem?_set_ne hj] at h1 h2
        exact sp j es (fun z => hj z.symm) h1 h2
      · rw [List.getElem?_set_ne hj] at h1 h2
        rw [List.getElem?_set_ne hk] at h3 h4
        exact e.sep j k b es fs hjk h1 h2 h3 h4
/-- a list that is set apart is changed -/
theorem TrS.upd {a : Addr} {xs ys : List V} (w : Wd K c O T H) (oa : O a) (na : a ≠ c.t) (ha : H a = some (.lst xs)) : TrS c O H O (upd H a (.lst ys)) :=
  ⟨w.ot, fun b o h n z => by
    have nb : b ≠ a := fun q => by subst q; rw [ha] at h; cases h; exact z oa _ rfl
    rw [upd_ne nb]; exact h, fun _ h => .inl h⟩
theorem Wd.upd {a : Addr} {xs ys : List V} (w : Wd K c O T H) (oa : O a) (na : a ≠ c.t) (h0 : c.H0 a = none) (ha : H a = some (.lst xs)) : Wd K c O T (upd H a (.lst ys)) := by
  obtain ⟨zs, h1, h2⟩ := w.tin
  refine ⟨w.ot, ⟨zs, by rw [upd_ne na.symm]; exact h1, (TrS.upd w oa na ha).ra w h2⟩, fun b o h n => ?_, w.up, w.nw, fun b h z => ?_⟩
  · have nb : b ≠ a := fun q => by subst q; rw [h0] at h; cases h
    rw [upd_ne nb]; exact w.kp b o h n
  · by_cases nb : b = a
    · subst nb; rw [upd_same] at z; cases z
    · rw [upd_ne nb] at z; exact w.al b h z
/-- .. that no slot owns -/
theorem Ev.upd {a : Addr} {xs ys : List V} (w : Wd K c O T H) (oa : O a) (na : a ≠ c.t) (ha : H a = some (.lst xs)) (e : Ev K c O σ ρ H) (sp : ∀ (j : Nat) (es : List D), σ[j]? = some (some (.ref a)) → ρ[j]? = some (.ow es) → False) : Ev K c O σ ρ (upd H a (.lst ys)) :=
  ⟨e.len, fun j o s h1 h2 => by
    cases e.at_ j o s h1 h2 with
    | no => exact .no
    | sh r => exact .sh ((TrS.upd w oa na ha).r w r)
    | @ow b zs ds k1 k2 k3 k4 k5 k6 =>
      have nb : b ≠ a := fun q => by subst q; exact sp j _ h1 h2
      exact .ow k1 k2 k3 k4 (by rw [upd_ne nb]; exact k5) ((TrS.upd w oa na ha).ra w k6), e.sep⟩
/-- a new list is set apart -/
theorem Wd.add {a : Addr} {xs : List V} (w : Wd K c O T H) (h0 : c.H0 a = none) (ha : H a = some (.lst xs)) (na : ¬ O a)
    (ht : ∃ xs, H c.t = some (.lst xs) ∧ RA K H c.t (fun b => O b ∨ b = a) xs T) : Wd K c (fun b => O b ∨ b = a) T H :=
  ⟨.inl w.ot, ht, w.kp, fun b h => .inl (w.up b h), fun b h => h.elim (w.nw b) fun z => .inr (by rw [z]; exact h0), fun b h => h.elim (w.al b) fun z => by rw [z, ha]; exact fun q => nomatch q⟩
end

/-! ### targets -/
def gD (K : PySem.W.Frag) (sl : List Nat) (tg : D → List Sl → Option (List Sl)) : TG := fun v σ H Q => ∃ c ρ O T d, Wd K c O T H ∧ Ev K c O σ ρ H ∧ R K H c.t O v d ∧ ∃ ρ', tg d ρ = some ρ' ∧
  ∀ σ' , Ev K c O σ' ρ' H → (∀ j, j ∉ sl → σ'[j]? = σ[j]?) → σ'.length = σ.length → Q σ' H
def gsD (K : PySem.W.Frag) (sl : List Nat) (tg : List D → List Sl → Option (List Sl)) : TGs := fun vs σ H Q => ∃ c ρ O T ds, Wd K c O T H ∧ Ev K c O σ ρ H ∧ RA K H c.t O vs ds ∧ ∃ ρ', tg ds ρ = some ρ' ∧
  ∀ σ' , Ev K c O σ' ρ' H → (∀ j, j ∉ sl → σ'[j]? = σ[j]?) → σ'.length = σ.length → Q σ' H
structure DTg (X : Cx) (tg : Expr) (sl : List Nat) (g : D → List Sl → Option (List Sl)) : Prop where
  p : PG X tg (gD X.K sl g)
structure DTs (X : Cx) (tg : List Expr) (sl : List Nat) (g : List D → List Sl → Option (List Sl)) : Prop where
  p : PGs X tg (gsD X.K sl g)
theorem PG.imp {X : Cx} {e : Expr} {t t' : TG} (p : PG X e t) (h : ∀ v σ H Q, t' v σ H Q → t v σ H Q) : PG X e t' := ⟨fun pins s σ H v u Q I r q => p.run pins s σ H v u Q I r (h _ _ _ _ q)⟩
theorem PGs.imp {X : Cx} {e : List Expr} {t t' : TGs} (p : PGs X e t) (h : ∀ v σ H Q, t' v σ H Q → t v σ H Q) : PGs X e t' := ⟨fun pins s σ H v u Q I r q => p.run pins s σ H v u Q I r (h _ _ _ _ q)⟩
theorem PG.or {X : Cx} {e : Expr} {t t' : TG} (p : PG X e t) (p' : PG X e t') : PG X e (fun v σ H Q => t v σ H Q ∨ t' v σ H Q) := ⟨fun pins s σ H v u Q I r q => q.elim (p.run pins s σ H v u Q I r) (p'.run pins s σ H v u Q I r)⟩
def tgN (i : Nat) : D → List Sl → Option (List Sl) := fun d ρ => some (ρ.set i (.sh d))
def tgNil : List D → List Sl → Option (List Sl)
  | [], ρ => some ρ
  | _, _ => none
def tgCons (f : D → List Sl → Option (List Sl)) (g : List D → List Sl → Option (List Sl)) : List D → List Sl → Option (List Sl)
  | d :: ds, ρ => (f d ρ).bind (g ds)
  | [], _ => none
def tgT (g : List D → List Sl → Option (List Sl)) (n : Nat) : D → List Sl → Option (List Sl)
  | .tuple ds, ρ => if ds.length = n then g ds ρ else none
  | .list ds, ρ => if ds.length = n then g ds ρ else none
  | _, _ => none
section
variable {X : Cx} {pos : Pos} {e : Expr} {es : List Expr}
theorem dg_name {i : Nat} {x : Str} (hN : X.N.Nodup) (hi : X.N[i]? = some x) (hx : Loc X.env.scope x) (hf : X.fn x = true ∨ X.env.scope.names.lookup x = some .local := by first | exact .inl rfl | exact .inr rfl | assumption) : DTg X (.Name x pos) [i] (tgN i) :=
  ⟨PG.imp (pg_name (i := i) hN hi hx hf) fun v σ H Q ⟨c, ρ, O, T, d, w, ev, r, ρ', hg, k⟩ => by
    cases hg
    exact k _ (ev.set r) (fun j hj => List.getElem?_set_ne fun z => hj (by simp [z])) (List.length_set ..)⟩
theorem dgs_nil : DTs X [] [] tgNil := ⟨PGs.imp pgs_nil fun v σ H Q ⟨c, ρ, O, T, d, w, ev, r, ρ', hg, k⟩ => by
  cases r with
  | nil =>
    cases hg
    exact ⟨rfl, k σ ev (fun _ _ => rfl) rfl⟩
  | cons _ _ => cases hg⟩
theorem dgs_cons {s1 s2 : List Nat} {f : D → List Sl → Option (List Sl)} {g : List D → List Sl → Option (List Sl)} (h1 : DTg X e s1 f) (h2 : DTs X es s2 g)
    (h : (assignEach (e :: es) X.env).map (·.2) = assign e X.env :: (assignEach es X.env).map (·.2) := by rfl) : DTs X (e :: es) (s1 ++ s2) (tgCons f g) := ⟨PGs.imp (pgs_cons h1.p h2.p h) fun v σ H Q ⟨c, ρ, O, T, d, w, ev, r, ρ', hg, k⟩ => by
  cases r with
  | nil => cases hg
  | cons r1 r2 =>
    obtain ⟨ρ1, h3, h4⟩ := Option.bind_eq_some_iff.mp hg
    exact ⟨_, _, rfl, c, ρ, O, T, _, w, ev, r1, ρ1, h3, fun σ1 e1 kp1 l1 => ⟨c, ρ1, O, T, _, w, e1, r2, ρ', h4, fun σ2 e2 kp2 l2 =>
      k σ2 e2 (fun j hj => (kp2 j fun z => hj (List.mem_append_right _ z)).trans (kp1 j fun z => hj (List.mem_append_left _ z))) (l2.trans l1)⟩⟩⟩
theorem dg_tup {k n : Nat} {sl : List Nat} {g : List D → List Sl → Option (List Sl)} (hc : X.calm = true) (h : DTs X es sl g)
    (hn : (assignEach es X.env).length = n := by rfl) (hst : (assignEach es X.env).findIdx? (·.1) = none := by rfl) : DTg X (.Tuple es k pos) sl (tgT g n) :=
  ⟨PG.imp (PG.or (pg_tup (n := n) hc h.p hn hst) (pg_unl (n := n) hc h.p hn hst)) fun v σ H Q ⟨c, ρ, O, T, d, w, ev, r, ρ', hg, k⟩ => by
    unfold tgT at hg
    split at hg
    · split at hg
      · rename_i hl
        obtain ⟨a, xs, rfl, h1, r1⟩ := r.tupE
        exact .inl ⟨a, xs, rfl, h1, by rw [r1.length]; exact hl, c, ρ, O, T, _, w, ev, r1, ρ', hg, k⟩
      · cases hg
    · split at hg
      · rename_i hl
        obtain ⟨a, xs, rfl, _, h1, r1⟩ := r.lstE
        exact .inr ⟨a, xs, rfl, SqL.of h1, by rw [r1.length]; exact hl, c, ρ, O, T, _, w, ev, r1, ρ', hg, k⟩
      · cases hg
    · cases hg⟩
end

/-! ### what is walked -/
/-- J yields these, whatever is done meanwhile -/
def Stab (K : PySem.W.Frag) (c : Ctx) (J : It) (items : List D) (O1 : Addr → Prop) (H1 : Hp) : Prop := ∀ O' H' T, Wd K c O' T H' → TrS c O1 H1 O' H' → ∀ k, (∀ d, items[k]? = some d → J.go k H' ∧ ∀ x H2, J.yld k H' x H2 → Same H' H2 ∧ R K H2 c.t O' x d) ∧ (k = items.length → J.stop k H')
def iD (K : PySem.W.Frag) (I : DG (List D)) : TI := fun σ H R' => ∃ c ρ T O, Wd K c O T H ∧ Ev K c O σ ρ H ∧ ∃ items T', I ρ T = some (items, T') ∧
  ∀ J H' O', Wd K c O' T' H' → Ev K c O' σ ρ H' → Tr c O H O' H' → Stab K c J items O' H' → R' J H'
structure DI (X : Cx) (tg iter : Expr) (I : DG (List D)) : Prop where
  p : PI X tg iter (iD X.K I)
theorem PI.imp {X : Cx} {tg e : Expr} {t t' : TI} (p : PI X tg e t) (h : ∀ σ H Q, t' σ H Q → t σ H Q) : PI X tg e t' := ⟨fun pins s σ H R' I q => p.run pins s σ H R' I (h _ _ _ q)⟩
theorem PI.or {X : Cx} {tg e : Expr} {t t' : TI} (p : PI X tg e t) (p' : PI X tg e t') : PI X tg e (fun σ H R' => t σ H R' ∨ t' σ H R') := ⟨fun pins s σ H R' I q => q.elim (p.run pins s σ H R' I) (p'.run pins s σ H R' I)⟩
def asItems : D → Option (List D)
  | .list ds => some ds
  | .tuple ds => some ds
  | _ => none
section
variable {X : Cx} {tg e e2 : Expr} {F F2 : DG D} {pos p tpos : Pos}
theorem di_seq (h : DE X e F) : DI X tg e (dUn asItems F) := ⟨PI.imp (PI.or (pi_list h.p) (pi_tup h.p)) fun σ H Q ⟨c, ρ, T, O, w, ev, d, T', hG, k⟩ => by
  obtain ⟨x, h1, h3⟩ := dUn_some hG
  unfold asItems at h3
  split at h3
  · cases h3
    refine .inl ⟨c, ρ, T, O, w, ev, _, T', h1, fun v1 H1 O1 w1 e1 t1 r1 => ?_⟩
    obtain ⟨a, xs, rfl, n1, h1, r1⟩ := r1.lstE
    refine ⟨a, rfl, ⟨xs, SqL.of h1⟩, k _ H1 O1 w1 e1 t1 fun O2 H2 T2 w2 t2 i => ?_⟩
    have h2 : H2 a = some (.lst xs) := t2.kp a _ h1 (fun z => n1 (by rw [z]; exact w1.ot)) fun z => absurd z n1
    have r2 := t2.ra w1 r1
    refine ⟨fun d hd => ?_, fun hi => ⟨xs, SqL.of h2, by rw [r1.length, hi]; exact Nat.le_refl _⟩⟩
    obtain ⟨v, h3, h4⟩ := r2.get hd
    refine ⟨⟨xs, v, SqL.of h2, h3⟩, fun x H3 ⟨e3, y⟩ => ?_⟩
    subst e3
    have e4 := (y xs (SqL.of h2)).symm.trans h3
    cases e4
    exact ⟨Same.refl _, h4⟩
  · cases h3
    refine .inr ⟨c, ρ, T, O, w, ev, _, T', h1, fun v1 H1 O1 w1 e1 t1 r1 => ?_⟩
    obtain ⟨a, xs, rfl, h1, q1⟩ := r1.tupE
    refine ⟨a, rfl, ⟨xs, h1⟩, k _ H1 O1 w1 e1 t1 fun O2 H2 T2 w2 t2 i => ?_⟩
    have h2 : SqT X.K H2 a xs := by
      obtain ⟨xt, et, _⟩ := w1.tin
      rcases h1 with (q | ⟨o, q⟩) | q
      · exact .inl (.inl (t2.kp a _ q (fun z => by rw [z, et] at q; cases q) fun _ _ z => nomatch z))
      · exact .inl (.inr ⟨o, t2.kp a _ q (fun z => by rw [z, et] at q; cases q) fun _ _ z => nomatch z⟩)
      · exact .inr q
    have r2 := t2.ra w1 q1
    refine ⟨fun d hd => ?_, fun hi => ⟨xs, h2, by rw [q1.length, hi]; exact Nat.le_refl _⟩⟩
    obtain ⟨v, h3, h4⟩ := r2.get hd
    refine ⟨⟨xs, v, h2, h3⟩, fun x H3 ⟨e3, y⟩ => ?_⟩
    subst e3
    have e4 := (y xs h2).symm.trans h3
    cases e4
    exact ⟨Same.refl _, h4⟩
  · cases h3⟩
def asRng1 : List D → Option (List D)
  | [.int j] => if -(2 ^ 62) ≤ j ∧ j < 2 ^ 62 then some ((List.range j.toNat).map fun i => .int (i : Nat)) else none
  | _ => none
def asRng2 : List D → Option (List D)
  | [.int i, .int j] => if -(2 ^ 62) ≤ i ∧ i < 2 ^ 62 ∧ -(2 ^ 62) ≤ j ∧ j < 2 ^ 62 then some ((List.range (j - i).toNat).map fun m => .int (i + (m : Nat))) else none
  | _ => none
theorem stab_rng {K : PySem.W.Frag} {c : Ctx} {O : Addr → Prop} {H : Hp} {lo : Int} {n : Nat} : Stab K c (Itr lo n) ((List.range n).map fun m => PyData.int (lo + (m : Nat))) O H := fun O2 H2 T2 w2 t2 i => by
  refine ⟨fun d hd => ?_, fun hi => ?_⟩
  · rw [List.getElem?_map] at hd
    obtain ⟨m, h1, h2⟩ := Option.map_eq_some_iff.mp hd
    obtain ⟨h3, h4⟩ := List.getElem?_eq_some_iff.mp h1
    rw [List.getElem_range] at h4
    rw [List.length_range] at h3
    subst h4
    subst h2
    refine ⟨h3, fun x H3 ⟨e3, y⟩ => ?_⟩
    subst e3
    subst y
    exact ⟨Same.refl _, .int _⟩
  · rw [List.length_map, List.length_range] at hi
    exact Nat.le_of_eq hi.symm
theorem di_rng1 {A : DG (List D)} (hg : Gl X "range") (hm : X.mg "range" = none) (ha : DA X [e] A) (hs : starEach [e] X.env = [(false, eval e X.env)] := by rfl) : DI X tg (.Call (.Name "range" p) [e] [] pos) (dUn asRng1 A) :=
  ⟨PI.imp (pi_range1 hg hm ha.p hs) fun σ H Q ⟨c, ρ, T, O, w, ev, d, T', hG, k⟩ => by
    obtain ⟨x, h1, h3⟩ := dUn_some hG
    unfold asRng1 at h3
    split at h3
    · split at h3
      · rename_i j hj
        have e3 := Option.some.inj h3
        subst e3
        refine ⟨c, ρ, T, O, w, ev, _, T', h1, fun v1 H1 O1 w1 e1 t1 r1 => ?_⟩
        obtain ⟨v, rfl, rv⟩ := r1.one
        cases rv.intE
        refine ⟨j, rfl, hj.1, hj.2, k _ H1 O1 w1 e1 t1 ?_⟩
        have q := stab_rng (K := X.K) (c := c) (O := O1) (H := H1) (lo := 0) (n := j.toNat)
        simpa only [Int.zero_add] using q
      · cases h3
    · cases h3⟩
theorem di_rng2 {A : DG (List D)} (hg : Gl X "range") (hm : X.mg "range" = none) (ha : DA X [e, e2] A) (hs : starEach [e, e2] X.env = [(false, eval e X.env), (false, eval e2 X.env)] := by rfl) (hs2 : starEach [e2] X.env = [(false, eval e2 X.env)] := by rfl) : DI X tg (.Call (.Name "range" p) [e, e2] [] pos) (dUn asRng2 A) :=
  ⟨PI.imp (pi_range2 hg hm ha.p hs hs2) fun σ H Q ⟨c, ρ, T, O, w, ev, d, T', hG, k⟩ => by
    obtain ⟨x, h1, h3⟩ := dUn_some hG
    unfold asRng2 at h3
    split at h3
    · split at h3
      · rename_i i j hj
        have e3 := Option.some.inj h3
        subst e3
        refine ⟨c, ρ, T, O, w, ev, _, T', h1, fun v1 H1 O1 w1 e1 t1 r1 => ?_⟩
        obtain ⟨v, v', rfl, rv, rv'⟩ := r1.two
        cases rv.intE
        cases rv'.intE
        exact ⟨i, j, rfl, hj, k _ H1 O1 w1 e1 t1 stab_rng⟩
      · cases h3
    · cases h3⟩
/-- zip of two lists or of two tuples -/
def asZip : List D → Option (List D)
  | [.list xs, .list ys] => some ((xs.zip ys).map fun p => .tuple [p.1, p.2])
  | [.tuple xs, .tuple ys] => some ((xs.zip ys).map fun p => .tuple [p.1, p.2])
  | _ => none
theorem zip_get {xs ys : List D} {i : Nat} {d : D} (h : ((xs.zip ys).map fun p => PyData.tuple [p.1, p.2])[i]? = some d) : ∃ x y, xs[i]? = some x ∧ ys[i]? = some y ∧ d = .tuple [x, y] := by
  rw [List.getElem?_map] at h
  obtain ⟨⟨x, y⟩, h1, h2⟩ := Option.map_eq_some_iff.mp h
  rw [List.getElem?_zip_eq_some] at h1
  exact ⟨x, y, h1.1, h1.2, h2.symm⟩
theorem di_zip {A : DG (List D)} {elts : List Expr} {kk : Nat} (hg : Gl X "zip") (hm : X.mg "zip" = none) (ha : DA X [e, e2] A) (hs : starEach [e, e2] X.env = (false, eval e X.env) :: starEach [e2] X.env := by rfl) (hpl : (backTo pos (starEach [e2] X.env)).any (·.1) = false := by rfl) :
    DI X (.Tuple elts kk tpos) (.Call (.Name "zip" p) [e, e2] [] pos) (dUn asZip A) :=
  ⟨PI.imp (RZ.pi_zipA hg hm ha.p hs hpl) fun σ H Q ⟨c, ρ, T, O, w, ev, d, T', hG, k⟩ => by
    obtain ⟨x, h1, h3⟩ := dUn_some hG
    unfold asZip at h3
    split at h3
    · rename_i xs ys
      have e3 := Option.some.inj h3
      subst e3
      refine ⟨c, ρ, T, O, w, ev, _, T', h1, fun v1 H1 O1 w1 e1 t1 r1 => ?_⟩
      obtain ⟨v, v', rfl, rv, rv'⟩ := r1.two
      obtain ⟨a, us, rfl, n1, h5, r5⟩ := rv.lstE
      obtain ⟨b, ws, rfl, n2, h6, r6⟩ := rv'.lstE
      refine ⟨a, b, us, ws, rfl, .inl ⟨SqL.of h5, SqL.of h6, k _ H1 O1 w1 e1 t1 fun O2 H2 T2 w2 t2 i => ?_⟩⟩
      have h7 : H2 a = some (.lst us) := t2.kp a _ h5 (fun z => n1 (by rw [z]; exact w1.ot)) fun z => absurd z n1
      have h8 : H2 b = some (.lst ws) := t2.kp b _ h6 (fun z => n2 (by rw [z]; exact w1.ot)) fun z => absurd z n2
      have q5 := t2.ra w1 r5
      have q6 := t2.ra w1 r6
      refine ⟨fun d hd => ?_, fun hi => ⟨us, ws, SqL.of h7, SqL.of h8, ?_⟩⟩
      · obtain ⟨x, y, hx, hy, rfl⟩ := zip_get hd
        obtain ⟨vx, gx, ix⟩ := q5.get hx
        obtain ⟨vy, gy, iy⟩ := q6.get hy
        refine ⟨⟨us, ws, vx, vy, SqL.of h7, SqL.of h8, gx, gy⟩, fun z H3 ⟨tt, x1, y1, e1, hT, e2, f1, f2⟩ => ?_⟩
        subst e1
        subst e2
        have g1 := (f1 us (SqL.of h7)).symm.trans gx
        have g2 := (f2 ws (SqL.of h8)).symm.trans gy
        cases g1
        cases g2
        exact ⟨same_new hT, .tup (SqT.of upd_same) (.cons (ix.same (same_new hT)) (.cons (iy.same (same_new hT)) .nil))⟩
      · rw [List.length_map, List.length_zip] at hi
        rw [r5.length, r6.length, hi]
        by_cases hh : xs.length ≤ ys.length
        · exact .inl (by rw [Nat.min_eq_left hh]; exact Nat.le_refl _)
        · exact .inr (by rw [Nat.min_eq_right (by omega)]; exact Nat.le_refl _)
    · rename_i xs ys
      have e3 := Option.some.inj h3
      subst e3
      refine ⟨c, ρ, T, O, w, ev, _, T', h1, fun v1 H1 O1 w1 e1 t1 r1 => ?_⟩
      obtain ⟨v, v', rfl, rv, rv'⟩ := r1.two
      obtain ⟨a, us, rfl, h5, r5⟩ := rv.tupE
      obtain ⟨b, ws, rfl, h6, r6⟩ := rv'.tupE
      refine ⟨a, b, us, ws, rfl, .inr ⟨h5, h6, k _ H1 O1 w1 e1 t1 fun O2 H2 T2 w2 t2 i => ?_⟩⟩
      have tup_st : ∀ {a : Addr} {xs : List V}, SqT X.K H1 a xs → SqT X.K H2 a xs := fun {a xs} h1 => by
        obtain ⟨xt, et, _⟩ := w1.tin
        rcases h1 with (q | ⟨o, q⟩) | q
        · exact .inl (.inl (t2.kp a _ q (fun z => by rw [z, et] at q; cases q) fun _ _ z => nomatch z))
        · exact .inl (.inr ⟨o, t2.kp a _ q (fun z => by rw [z, et] at q; cases q) fun _ _ z => nomatch z⟩)
        · exact .inr q
      have h7 := tup_st h5
      have h8 := tup_st h6
      have q5 := t2.ra w1 r5
      have q6 := t2.ra w1 r6
      refine ⟨fun d hd => ?_, fun hi => ⟨us, ws, h7, h8, ?_⟩⟩
      · obtain ⟨x, y, hx, hy, rfl⟩ := zip_get hd
        obtain ⟨vx, gx, ix⟩ := q5.get hx
        obtain ⟨vy, gy, iy⟩ := q6.get hy
        refine ⟨⟨us, ws, vx, vy, h7, h8, gx, gy⟩, fun z H3 ⟨tt, x1, y1, e1, hT, e2, f1, f2⟩ => ?_⟩
        subst e1
        subst e2
        have g1 := (f1 us h7).symm.trans gx
        have g2 := (f2 ws h8).symm.trans gy
        cases g1
        cases g2
        exact ⟨same_new hT, .tup (SqT.of upd_same) (.cons (ix.same (same_new hT)) (.cons (iy.same (same_new hT)) .nil))⟩
      · rw [List.length_map, List.length_zip] at hi
        rw [r5.length, r6.length, hi]
        by_cases hh : xs.length ≤ ys.length
        · exact .inl (by rw [Nat.min_eq_left hh]; exact Nat.le_refl _)
        · exact .inr (by rw [Nat.min_eq_right (by omega)]; exact Nat.le_refl _)
    · cases h3⟩
end
end DL
set_option Elab.async false
set_option linter.all false
set_option maxRecDepth 100000
set_option maxHeartbeats 4000000
namespace DL
open PySem PySem.Spec PyProof.Rows L2

/-! ### comprehensions -/
def wipeD (ρ : List Sl) : List Nat → List Sl
  | [] => ρ
  | v :: vs => (wipeD ρ vs).set v .no
def lcGo (tg : D → List Sl → Option (List Sl)) (tt : DG Bool) (te : DG D) (ρ : List Sl) : List D → List D → Option (List D × List D)
  | [], T => some ([], T)
  | x :: xs, T => (tg x ρ).bind fun ρ1 => (tt ρ1 T).bind fun p => if p.1 = true then (te ρ1 p.2).bind fun q => (lcGo tg tt te ρ xs q.2).map fun r => (q.1 :: r.1, r.2) else lcGo tg tt te ρ xs p.2
def dLc (I : DG (List D)) (vs : List Nat) (tg : D → List Sl → Option (List Sl)) (tt : DG Bool) (te : DG D) : DG (List D) := fun ρ T => (I ρ T).bind fun p => if small p.1.length then lcGo tg tt te (wipeD ρ vs) p.1 p.2 else none

section
variable {K : PySem.W.Frag} {c : Ctx} {O O' O1 : Addr → Prop} {H H' H1 : Hp} {σ : L2.St} {ρ : List Sl} {T T' : List D} {v : V} {d : D} {i : Nat}
theorem Ev.wipe (e : Ev K c O σ ρ H) : ∀ vs : List Nat, Ev K c O (L2.wipe σ vs) (wipeD ρ vs) H
  | [] => e
  | v :: vs => (Ev.wipe e vs).no
theorem wipe_get {σ : L2.St} {j : Nat} : ∀ {vs : List Nat}, j ∈ vs → j < σ.length → (L2.wipe σ vs)[j]? = some none
  | v :: vs, h, hl => by
    unfold L2.wipe
    by_cases e : v = j
    · subst e
      exact List.getElem?_set_self (by rw [L2.wipe_length]; exact hl)
    · rw [List.getElem?_set_ne e]
      exact wipe_get ((List.mem_cons.mp h).resolve_left fun z => e z.symm) hl
theorem wipe_eq {σ σ' : L2.St} {vs : List Nat} (hl : σ'.length = σ.length) (h : ∀ j, j ∉ vs → σ'[j]? = σ[j]?) : L2.wipe σ' vs = L2.wipe σ vs := by
  refine List.ext_getElem? fun j => ?_
  by_cases hj : j ∈ vs
  · by_cases hb : j < σ.length
    · rw [wipe_get hj hb, wipe_get hj (by rw [hl]; exact hb)]
    · rw [List.getElem?_eq_none (by rw [L2.wipe_length]; omega), List.getElem?_eq_none (by rw [L2.wipe_length]; omega)]
  · rw [L2.wipe_out hj, L2.wipe_out hj, h j hj]
end

/-- the tests of a comprehension -/
structure DP (X : Cx) (ifs : List Expr) (G : DG Bool) : Prop where
  p : PTs X ifs (tDT X.K G)
def dYes : DG Bool := fun _ T => some (true, T)
theorem dp_nil {X : Cx} : DP X [] dYes := ⟨⟨fun pins s σ H Q I ⟨c, ρ, T, O, w, ev, b, T', hG, k⟩ => by
  cases hG
  exact pts_nil.run pins s σ H Q I (k H O w ev (Tr.refl w.ot))⟩⟩
theorem dp_one {X : Cx} {e : Expr} {G : DG Bool} (h : DT X e G) : DP X [e] G := ⟨pts_one h.p⟩

theorem lc_imp {K : PySem.W.Frag} {I : DG (List D)} {vs sl : List Nat} {tg : D → List Sl → Option (List Sl)} {tt : DG Bool} {te : DG D} {σ : L2.St} {H : Hp} {Q : VK} (hsl : ∀ j ∈ sl, j ∈ vs)
    (h : tDF K (dLc I vs tg tt te) σ H Q) : tLc (iD K I) (gD K sl tg) (tDT K tt) (tD K te) vs σ H Q := by
  obtain ⟨c, ρ, T, O, w, ev, d, T', hG, k⟩ := h
  unfold dLc at hG
  obtain ⟨⟨items, T1⟩, hI, hG⟩ := Option.bind_eq_some_iff.mp hG
  simp only at hG
  split at hG
  case isFalse => cases hG
  rename_i hsm
  refine ⟨c, ρ, T, O, w, ev, items, T1, hI, fun J H1 O1 w1 e1 t1 st => fun Dd hD => ?_⟩
  obtain ⟨nDt, nO, nO0, h0D, sp⟩ := new_of w1 e1 hD
  have nw : ∀ b o, H1 b = some o → b ≠ Dd := fun b o q z => by rw [z, hD] at q; cases q
  refine ⟨fun i m H2 => m = items.length - i ∧ i ≤ items.length ∧ ∃ O2 T2 acc accd restd, Wd K c O2 T2 H2 ∧ Ev K c O2 σ ρ H2 ∧ Tr c O1 H1 O2 H2 ∧ O2 Dd ∧ H2 Dd = some (.lst acc) ∧ RA K H2 c.t O2 acc accd ∧ accd.length ≤ i ∧
    lcGo tg tt te (wipeD ρ vs) (items.drop i) T2 = some (restd, T') ∧ d = accd ++ restd, ⟨items.length, by simp, Nat.zero_le _, ?_⟩, ?_⟩
  · -- the start
    obtain ⟨w2, e2, t2⟩ := lay w1 e1 hD []
    exact ⟨_, T1, [], [], d, w2, e2, t2, .inr rfl, upd_same, .nil, Nat.le_refl _, hG, rfl⟩
  · rintro i m H2 ⟨rfl, hi, O2, T2, acc, accd, restd, w2, e2, t2, oD, hDa, ra, hal, hgo, hd⟩
    obtain ⟨sg, ss⟩ := st O2 H2 T2 w2 t2.s i
    by_cases hlt : i < items.length
    · refine .inr ?_
      have hx : items[i]? = some items[i] := List.getElem?_eq_getElem hlt
      obtain ⟨hg, hy⟩ := sg _ hx
      refine ⟨hg, fun H' => ∃ m', m' < items.length - i ∧ m' = items.length - (i + 1) ∧ i + 1 ≤ items.length ∧ ∃ O2 T2 acc accd restd, Wd K c O2 T2 H' ∧ Ev K c O2 σ ρ H' ∧ Tr c O1 H1 O2 H' ∧ O2 Dd ∧ H' Dd = some (.lst acc) ∧ RA K H' c.t O2 acc accd ∧ accd.length ≤ i + 1 ∧
        lcGo tg tt te (wipeD ρ vs) (items.drop (i + 1)) T2 = some (restd, T') ∧ d = accd ++ restd, fun H' h => h, fun x H3 hyx => ?_⟩
      obtain ⟨s3, r3⟩ := hy x H3 hyx
      rw [List.drop_eq_getElem_cons hlt] at hgo
      unfold lcGo at hgo
      obtain ⟨ρ1, htg, hgo⟩ := Option.bind_eq_some_iff.mp hgo
      obtain ⟨⟨b, T3⟩, htt, hgo⟩ := Option.bind_eq_some_iff.mp hgo
      have w3 := w2.same s3
      have e3 := Ev.same w2 s3 e2
      have t3 : Tr c O1 H1 O2 H3 := t2.trans (Tr.same w2.ot s3)
      refine ⟨c, wipeD ρ vs, O2, T2, _, w3, e3.wipe vs, r3, ρ1, htg, fun σ1 e4 kp4 l4 => ⟨?_, ?_⟩⟩
      · have q : L2.wipe σ1 vs = L2.wipe (L2.wipe σ vs) vs := wipe_eq l4 fun j hj => kp4 j fun z => hj (hsl j z)
        rw [q]
        exact wipe_eq (L2.wipe_length _ _) fun j hj => L2.wipe_out hj
      · refine ⟨c, ρ1, T2, O2, w3, e4, b, T3, htt, fun H5 O5 w5 e5 t5 => ?_⟩
        cases b with
        | true =>
          rw [if_pos rfl] at hgo ⊢
          obtain ⟨⟨y, T4⟩, hte, hgo⟩ := Option.bind_eq_some_iff.mp hgo
          obtain ⟨⟨rest2, T5⟩, hg2, hr⟩ := Option.map_eq_some_iff.mp hgo
          cases hr
          refine ⟨c, ρ1, T3, O5, w5, e5, y, T4, hte, fun v6 H6 O6 w6 e6 t6 r6 => ?_⟩
          have t36 : Tr c O2 H3 O6 H6 := t5.trans t6
          have t16 : Tr c O1 H1 O6 H6 := t3.trans t36
          have hD6 : H6 Dd = some (.lst acc) := t36.kp _ _ (s3 _ _ hDa) nDt
          have oD6 : O6 Dd := t36.up _ oD
          have e6' : Ev K c O6 σ ρ H6 := t36.ev w3 e3
          have ra6 : RA K H6 c.t O6 acc accd := t36.ra w3 (ra.same s3)
          have us := TrS.upd (ys := acc ++ [v6]) w6 oD6 nDt hD6
          refine ⟨acc, hD6, ?_, items.length - (i + 1), by omega, rfl, hlt, O6, T4, acc ++ [v6], accd ++ [y], rest2, w6.upd oD6 nDt h0D hD6, Ev.upd w6 oD6 nDt hD6 e6' sp,
            ⟨w1.ot, fun b o h n => by rw [upd_ne (nw b o h)]; exact t16.kp b o h n, t16.up, t16.nw⟩, oD6, upd_same, us.ra w6 (ra6.append (.cons r6 .nil)), by rw [List.length_append]; exact Nat.succ_le_succ hal, hg2, by rw [hd, List.append_assoc]; rfl⟩
          have := small_ok hsm
          rw [ra.length]
          omega
        | false =>
          rw [if_neg Bool.false_ne_true] at hgo ⊢
          have t35 : Tr c O2 H3 O5 H5 := t5
          exact ⟨items.length - (i + 1), by omega, rfl, hlt, O5, T3, acc, accd, restd, w5, t35.ev w3 e3, t3.trans t35, t35.up _ oD, t35.kp _ _ (s3 _ _ hDa) nDt, t35.ra w3 (ra.same s3), by omega, hgo, hd⟩
    · refine .inl ?_
      have hie : i = items.length := by omega
      refine ⟨ss hie, ?_⟩
      rw [hie, List.drop_length] at hgo
      unfold lcGo at hgo
      cases hgo
      rw [List.append_nil] at hd
      subst hd
      exact k Dd H2 O2 acc w2 e2 (t1.trans t2) hDa ra (free_of w1 t1 hD) oD
section
variable {X : Cx}
theorem df_lc {elt tg iter : Expr} {ifs : List Expr} {scope : Scope} {own : List (Str × Nat)} {sl : List Nat} {pos : Pos} {I : DG (List D)} {g : D → List Sl → Option (List Sl)} {tt : DG Bool} {te : DG D} (hc : X.calm = true) (hN : X.N.Nodup) (hi : DI X tg iter I) (ok : BlkOk X.N X.env.scope scope own)
    (hg : ∀ (s : Shared) (H : Hp) (C : Addr) (cl : List (Str × Addr)) (fp : List Addr), DTg (X.blk s H scope (compEnvC scope cl C X.env) fp) tg sl g) (ht : ∀ (s : Shared) (H : Hp) (C : Addr) (cl : List (Str × Addr)) (fp : List Addr), DP (X.blk s H scope (compEnvC scope cl C X.env) fp) ifs tt)
    (he : ∀ (s : Shared) (H : Hp) (C : Addr) (cl : List (Str × Addr)) (fp : List Addr), DE (X.blk s H scope (compEnvC scope cl C X.env) fp) elt te) (hsl : ∀ j ∈ sl, j ∈ own.map (·.2)) (hs : ∀ x, foldedSetIterable iter X.env x = pure x := by intro _; rfl) :
    DF X (.ListComp elt [⟨tg, iter, ifs, 0⟩] scope pos) (dLc I (own.map (·.2)) g tt te) :=
  ⟨PE.imp (pe_lc hc hN hi.p ok (fun s H C cl fp => (hg s H C cl fp).p) (fun s H C cl fp => (ht s H C cl fp).p) (fun s H C cl fp => (he s H C cl fp).p) hs) fun σ H Q h => lc_imp hsl h⟩
end
end DL
set_option Elab.async false
set_option linter.all false
set_option maxRecDepth 100000
set_option maxHeartbeats 4000000
namespace DL
open PySem PySem.Spec PyProof.Rows L2

/-! ### statements -/
inductive Fl where
  | nx (ρ : List Sl) | bk (ρ : List Sl) | ct (ρ : List Sl) | rt (d : D)
abbrev SG := List Sl → List D → Option (Fl × List D)
def FlK (K : PySem.W.Frag) (c : Ctx) (O : Addr → Prop) (H : Hp) (fl : Fl) (T' : List D) (E : Ends) : Prop := match fl with
  | .nx ρ' => ∀ σ' H' O', Wd K c O' T' H' → Ev K c O' σ' ρ' H' → TrS c O H O' H' → E.nx σ' H'
  | .bk ρ' => ∀ σ' H' O', Wd K c O' T' H' → Ev K c O' σ' ρ' H' → TrS c O H O' H' → E.bk σ' H'
  | .ct ρ' => ∀ σ' H' O', Wd K c O' T' H' → Ev K c O' σ' ρ' H' → TrS c O H O' H' → E.ct σ' H'
  | .rt d => ∀ v H' O', Wd K c O' T' H' → TrS c O H O' H' → R K H' c.t O' v d → E.rt v H'
def tDS (K : PySem.W.Frag) (G : SG) : TS := fun E σ H => ∃ c ρ T O, Wd K c O T H ∧ Ev K c O σ ρ H ∧ ∃ fl T', G ρ T = some (fl, T') ∧ FlK K c O H fl T' E
structure DS (X : Cx) (st : Stmt) (G : SG) : Prop where
  p : PS X st (tDS X.K G)
structure DSs (X : Cx) (st : List Stmt) (G : SG) : Prop where
  p : PSs X st (tDS X.K G)
theorem PS.imp {X : Cx} {e : Stmt} {t t' : TS} (p : PS X e t) (h : ∀ E σ H, t' E σ H → t E σ H) : PS X e t' := ⟨fun pins s σ H E I q => p.run pins s σ H E I (h _ _ _ q)⟩
theorem PSs.imp {X : Cx} {e : List Stmt} {t t' : TS} (p : PSs X e t) (h : ∀ E σ H, t' E σ H → t E σ H) : PSs X e t' := ⟨fun pins s σ H E I q => p.run pins s σ H E I (h _ _ _ q)⟩
theorem FlK.step {K : PySem.W.Frag} {c : Ctx} {O O1 : Addr → Prop} {H H1 : Hp} {fl : Fl} {T' : List D} {E : Ends} (t : TrS c O H O1 H1) (k : FlK K c O H fl T' E) : FlK K c O1 H1 fl T' E := by
  cases fl with
  | nx ρ => exact fun σ' H' O' w e t2 => k σ' H' O' w e (t.trans t2)
  | bk ρ => exact fun σ' H' O' w e t2 => k σ' H' O' w e (t.trans t2)
  | ct ρ => exact fun σ' H' O' w e t2 => k σ' H' O' w e (t.trans t2)
  | rt d => exact fun v H' O' w t2 r => k v H' O' w (t.trans t2) r

section
variable {X : Cx} {st : Stmt} {sts rest : List Stmt} {e : Expr} {pos : Pos} {F G : SG} {f g : DG D}
def sNil : SG := fun ρ T => some (.nx ρ, T)
def sSeq (F G : SG) : SG := fun ρ T => (F ρ T).bind fun p => match p.1 with
  | .nx ρ' => G ρ' p.2
  | o => some (o, p.2)
theorem dss_nil : DSs X [] sNil := ⟨PSs.imp pss_nil fun E σ H ⟨c, ρ, T, O, w, ev, fl, T', hG, k⟩ => by
  cases hG
  exact k σ H O w ev (TrS.refl w.ot)⟩
theorem dss_cons (h1 : DS X st F) (h2 : DSs X rest G) : DSs X (st :: rest) (sSeq F G) := ⟨PSs.imp (pss_cons h1.p h2.p) fun E σ H ⟨c, ρ, T, O, w, ev, fl, T', hG, k⟩ => by
  obtain ⟨⟨f1, T1⟩, h1, h2⟩ := Option.bind_eq_some_iff.mp hG
  refine ⟨c, ρ, T, O, w, ev, f1, T1, h1, ?_⟩
  cases f1 with
  | nx ρ1 => exact fun σ1 H1 O1 w1 e1 t1 => ⟨c, ρ1, T1, O1, w1, e1, fl, T', h2, k.step t1⟩
  | bk ρ1 => cases h2; exact k
  | ct ρ1 => cases h2; exact k
  | rt d => cases h2; exact k⟩
theorem dss_one (h1 : DS X st F) : DSs X [st] F := ⟨PSs.imp (pss_one h1.p) fun E σ H h => h⟩
theorem ds_pass : DS X (.Pass pos) sNil := ⟨PS.imp ps_pass fun E σ H ⟨c, ρ, T, O, w, ev, fl, T', hG, k⟩ => by
  cases hG
  exact k σ H O w ev (TrS.refl w.ot)⟩
theorem ds_break : DS X (.Break pos) (fun ρ T => some (.bk ρ, T)) := ⟨PS.imp ps_break fun E σ H ⟨c, ρ, T, O, w, ev, fl, T', hG, k⟩ => by
  cases hG
  exact k σ H O w ev (TrS.refl w.ot)⟩
theorem ds_continue : DS X (.Continue pos) (fun ρ T => some (.ct ρ, T)) := ⟨PS.imp ps_continue fun E σ H ⟨c, ρ, T, O, w, ev, fl, T', hG, k⟩ => by
  cases hG
  exact k σ H O w ev (TrS.refl w.ot)⟩
/-- a statement that is not reached -/
theorem ds_never : DS X st (fun _ _ => none) := ⟨PS.imp ps_never fun E σ H ⟨c, ρ, T, O, w, ev, fl, T', hG, k⟩ => by cases hG⟩
def sRet (f : DG D) : SG := fun ρ T => (f ρ T).map fun p => (.rt p.1, p.2)
theorem ds_ret (h : DE X e f) : DS X (.Return (some e) pos) (sRet f) := ⟨PS.imp (ps_ret h.p) fun E σ H ⟨c, ρ, T, O, w, ev, fl, T', hG, k⟩ => by
  obtain ⟨⟨d, T1⟩, h1, h2⟩ := Option.map_eq_some_iff.mp hG
  cases h2
  exact ⟨c, ρ, T, O, w, ev, d, T1, h1, fun v H' O' w' e' t' r' => k v H' O' w' t'.s r'⟩⟩
theorem ds_retN : DS X (.Return none pos) (fun _ T => some (.rt .none, T)) := ⟨PS.imp ps_retN fun E σ H ⟨c, ρ, T, O, w, ev, fl, T', hG, k⟩ => by
  cases hG
  exact k .non H O w (TrS.refl w.ot) .non⟩
def sExpr (f : DG D) : SG := fun ρ T => (f ρ T).map fun p => (.nx ρ, p.2)
theorem ds_expr (h : DE X e f) (hs : swapsWith e none pos.line X.env = pure false := by rfl) : DS X (.Expr e pos) (sExpr f) := ⟨PS.imp (ps_expr h.p hs) fun E σ H ⟨c, ρ, T, O, w, ev, fl, T', hG, k⟩ => by
  obtain ⟨⟨d, T1⟩, h1, h2⟩ := Option.map_eq_some_iff.mp hG
  cases h2
  exact ⟨c, ρ, T, O, w, ev, d, T1, h1, fun v H' O' w' e' t' r' => k σ H' O' w' e' t'.s⟩⟩
def sIf (b : DG Bool) (F G : SG) : SG := fun ρ T => (b ρ T).bind fun p => if p.1 = true then F ρ p.2 else G ρ p.2
theorem ds_if {a b : List Stmt} {B : DG Bool} (hc : DT X e B) (ha : DSs X a F) (hb : DSs X b G) : DS X (.If e a b pos) (sIf B F G) := ⟨PS.imp (ps_if hc.p ha.p hb.p) fun E σ H ⟨c, ρ, T, O, w, ev, fl, T', hG, k⟩ => by
  obtain ⟨⟨b, T1⟩, h1, h2⟩ := Option.bind_eq_some_iff.mp hG
  refine ⟨c, ρ, T, O, w, ev, b, T1, h1, fun H1 O1 w1 e1 t1 => ?_⟩
  cases b with
  | true =>
    rw [if_pos rfl] at h2 ⊢
    exact ⟨c, ρ, T1, O1, w1, e1, fl, T', h2, k.step t1.s⟩
  | false =>
    rw [if_neg Bool.false_ne_true] at h2 ⊢
    exact ⟨c, ρ, T1, O1, w1, e1, fl, T', h2, k.step t1.s⟩⟩
/-! assignments -/
def sSet (i : Nat) (f : DG D) : SG := fun ρ T => (f ρ T).map fun p => (.nx (ρ.set i (.sh p.1)), p.2)
theorem set_imp {K : PySem.W.Frag} {i : Nat} {E : Ends} {σ : L2.St} {H : Hp} (h : tDS K (sSet i f) E σ H) : tAsg (tD K f) (gName i) E σ H := by
  obtain ⟨c, ρ, T, O, w, ev, fl, T', hG, k⟩ := h
  obtain ⟨⟨d, T1⟩, h1, h2⟩ := Option.map_eq_some_iff.mp hG
  cases h2
  exact ⟨c, ρ, T, O, w, ev, d, T1, h1, fun v H' O' w' e' t' r' => k _ H' O' w' (e'.set r') t'.s⟩
theorem ds_set {i : Nat} {x : Str} {pos' : Pos} (hN : X.N.Nodup) (hi : X.N[i]? = some x) (hx : Loc X.env.scope x) (he : DE X e f) (hs : swapsWith e (some (.Name x pos')) pos.line X.env = pure false := by rfl) (hf : X.fn x = true ∨ X.env.scope.names.lookup x = some .local := by first | exact .inl rfl | exact .inr rfl | assumption) :
    DS X (.Assign [.Name x pos'] e pos) (sSet i f) := ⟨PS.imp (ps_set hN hi hx he.p hs hf) fun E σ H h => set_imp h⟩
/-- a list of one's own -/
def sSetO (i : Nat) (f : DG (List D)) : SG := fun ρ T => (f ρ T).map fun p => (.nx (ρ.set i (.ow p.1)), p.2)
theorem setO_imp {K : PySem.W.Frag} {f : DG (List D)} {i : Nat} {E : Ends} {σ : L2.St} {H : Hp} (h : tDS K (sSetO i f) E σ H) : tAsg (tDF K f) (gName i) E σ H := by
  obtain ⟨c, ρ, T, O, w, ev, fl, T', hG, k⟩ := h
  obtain ⟨⟨d, T1⟩, h1, h2⟩ := Option.map_eq_some_iff.mp hG
  cases h2
  refine ⟨c, ρ, T, O, w, ev, d, T1, h1, fun a H' O' xs w' e' t' ha r' hn oa => ?_⟩
  have q := new_of w ev hn
  exact k _ H' O' w' (e'.setO w' q.nt oa q.n0 q.h0 ha r' fun j es _ => q.sp j es) t'.s
theorem ds_setO {f : DG (List D)} {i : Nat} {x : Str} {pos' : Pos} (hN : X.N.Nodup) (hi : X.N[i]? = some x) (hx : Loc X.env.scope x) (he : DF X e f) (hs : swapsWith e (some (.Name x pos')) pos.line X.env = pure false := by rfl) (hf : X.fn x = true ∨ X.env.scope.names.lookup x = some .local := by first | exact .inl rfl | exact .inr rfl | assumption) :
    DS X (.Assign [.Name x pos'] e pos) (sSetO i f) := ⟨PS.imp (ps_set hN hi hx he.p hs hf) fun E σ H h => setO_imp h⟩
/-! name = [..] on one line -/
theorem setLc_any {i : Nat} {y : Str} {py : Pos} {elt tg iter : Expr} {ifs : List Expr} {scope : Scope} {own : List (Str × Nat)} {sl : List Nat} {pos spos : Pos} {I : DG (List D)} {g : D → List Sl → Option (List Sl)} {tt : DG Bool} {te : DG D} (hc : X.calm = true) (hN : X.N.Nodup) (hy : X.N[i]? = some y) (hyl : X.env.scope.names.lookup y = some .local)
    (hsw : swapsWith (.ListComp elt [⟨tg, iter, ifs, 0⟩] scope pos) (some (.Name y py)) spos.line X.env = pure true) (hi : DI X tg iter I) (ok : BlkOk X.N X.env.scope scope own)
    (hg : ∀ (s : Shared) (H : Hp) (C : Addr) (cl : List (Str × Addr)) (fp : List Addr), DTg (X.blk s H scope (compEnvC scope cl C X.env) fp) tg sl g) (ht : ∀ (s : Shared) (H : Hp) (C : Addr) (cl : List (Str × Addr)) (fp : List Addr), DP (X.blk s H scope (compEnvC scope cl C X.env) fp) ifs tt)
    (he : ∀ (s : Shared) (H : Hp) (C : Addr) (cl : List (Str × Addr)) (fp : List Addr), DE (X.blk s H scope (compEnvC scope cl C X.env) fp) elt te) (hsl : ∀ j ∈ sl, j ∈ own.map (·.2)) (hs : ∀ x, foldedSetIterable iter X.env x = pure x := by intro _; rfl) :
    PS X (.Assign [.Name y py] (.ListComp elt [⟨tg, iter, ifs, 0⟩] scope pos) spos) (tAsg (tDF X.K (dLc I (own.map (·.2)) g tt te)) (gName i)) :=
  PS.imp (ps_setLc hc hN hy hyl hsw hi.p ok (fun s H C cl fp => (hg s H C cl fp).p) (fun s H C cl fp => (ht s H C cl fp).p) (fun s H C cl fp => (he s H C cl fp).p) hs) fun E σ H h => lc_imp hsl h
theorem ds_setLcO {i : Nat} {f : DG (List D)} (h : PS X st (tAsg (tDF X.K f) (gName i))) : DS X st (sSetO i f) := ⟨PS.imp h fun E σ H h => setO_imp h⟩
theorem df_weak {K : PySem.W.Frag} {G : DG (List D)} {σ : L2.St} {H : Hp} {Q : VK} (h : tD K (fun ρ T => (G ρ T).map fun p => (.list p.1, p.2)) σ H Q) : tDF K G σ H Q := by
  obtain ⟨c, ρ, T, O, w, ev, d, T', hG, k⟩ := h
  obtain ⟨⟨ds, T1⟩, h1, h2⟩ := Option.map_eq_some_iff.mp hG
  cases h2
  refine ⟨c, ρ, T, O, w, ev, ds, T1, h1, fun a H' O' xs w' ev' tr ha r n oa => ?_⟩
  have q := new_of w ev n
  exact k _ H' (fun b => O' b ∧ b ≠ a) (w'.off q.n0 q.nt) (ev'.off q.sp) ⟨tr.ot, tr.kp, fun b h => ⟨tr.up b h, fun z => q.nO (z ▸ h)⟩, fun b h => tr.nw b h.1⟩ (.lst (fun z => z.2 rfl) ha (r.less fun _ z => z.1))
theorem ds_setLc {i : Nat} {f : DG (List D)} (h : PS X st (tAsg (tDF X.K f) (gName i))) : DS X st (sSet i (fun ρ T => (f ρ T).map fun p => (.list p.1, p.2))) := ⟨PS.imp h fun E σ H h => by
  have h2 : tAsg (tD X.K (fun ρ T => (f ρ T).map fun p => (.list p.1, p.2))) (gName i) E σ H := set_imp h
  exact df_weak h2⟩
/-- target = value -/
def sAsg (f : DG D) (tg : D → List Sl → Option (List Sl)) : SG := fun ρ T => (f ρ T).bind fun p => (tg p.1 ρ).map fun ρ' => (.nx ρ', p.2)
theorem ds_asg {tg : Expr} {sl : List Nat} {g : D → List Sl → Option (List Sl)} (he : DE X e f) (hg : DTg X tg sl g) (hs : swapsWithSole [tg] e pos.line X.env = pure false := by rfl) (hw : swappedStores [tg] e X.env = pure none := by rfl)
    (h1 : (assignEach [tg] X.env).map (·.2) = [assign tg X.env] := by rfl) : DS X (.Assign [tg] e pos) (sAsg f g) := ⟨PS.imp (ps_asg he.p hg.p hs hw h1) fun E σ H ⟨c, ρ, T, O, w, ev, fl, T', hG, k⟩ => by
  obtain ⟨⟨d, T1⟩, h1, h2⟩ := Option.bind_eq_some_iff.mp hG
  obtain ⟨ρ', h3, h4⟩ := Option.map_eq_some_iff.mp h2
  cases h4
  exact ⟨c, ρ, T, O, w, ev, d, T1, h1, fun v H' O' w' e' t' r' => ⟨c, ρ, O', _, d, w', e', r', ρ', h3, fun σ' e2 _ _ => k σ' H' O' w' e2 t'.s⟩⟩⟩
def sPar (i j : Nat) (A : DG (List D)) : SG := fun ρ T => (A ρ T).bind fun p => match p.1 with
  | [x, y] => some (.nx ((ρ.set i (.sh x)).set j (.sh y)), p.2)
  | _ => none
theorem ds_par {i j : Nat} {x y : Str} {a b : Expr} {A : DG (List D)} {px py pt : Pos} {kt k2 pt2} (hc : X.calm = true) (hN : X.N.Nodup) (hi : X.N[i]? = some x) (hj : X.N[j]? = some y) (hij : i ≠ j)
    (hx : X.env.scope.names.lookup x = some .local) (hy : X.env.scope.names.lookup y = some .local) (ha : DA X [a, b] A)
    (hw : swappedStores [.Tuple [.Name x px, .Name y py] kt pt] (.Tuple [a, b] k2 pt2) X.env = pure (some [x, y]))
    (hs : swapsWithSole [.Tuple [.Name x px, .Name y py] kt pt] (.Tuple [a, b] k2 pt2) pos.line X.env = pure false := by rfl) :
    DS X (.Assign [.Tuple [.Name x px, .Name y py] kt pt] (.Tuple [a, b] k2 pt2) pos) (sPar i j A) := ⟨PS.imp (ps_par (i := i) (j := j) hc hN hi hj hij hx hy ha.p hw hs) fun E σ H ⟨c, ρ, T, O, w, ev, fl, T', hG, k⟩ => by
  obtain ⟨⟨ds, T1⟩, h1, h2⟩ := Option.bind_eq_some_iff.mp hG
  simp only at h2
  split at h2
  · cases h2
    refine ⟨c, ρ, T, O, w, ev, _, _, h1, fun vs H' O' w' e' t' r' => ?_⟩
    obtain ⟨u, v, e1, r1, r2⟩ := r'.two
    exact ⟨u, v, e1, k _ H' O' w' ((e'.set r1).set r2) t'.s⟩
  · cases h2⟩
def sPar3 (i j l : Nat) (A : DG (List D)) : SG := fun ρ T => (A ρ T).bind fun p => match p.1 with
  | [x, y, z] => some (.nx (((ρ.set i (.sh x)).set j (.sh y)).set l (.sh z)), p.2)
  | _ => none
theorem ds_par3 {i j l : Nat} {x y z : Str} {a b c : Expr} {A : DG (List D)} {px py pz pt : Pos} {kt k2 pt2} (hc : X.calm = true) (hN : X.N.Nodup) (hi : X.N[i]? = some x) (hj : X.N[j]? = some y) (hl : X.N[l]? = some z) (hij : i ≠ j) (hil : i ≠ l) (hjl : j ≠ l)
    (hx : X.env.scope.names.lookup x = some .local) (hy : X.env.scope.names.lookup y = some .local) (hz : X.env.scope.names.lookup z = some .local) (ha : DA X [a, b, c] A)
    (hw : swappedStores [.Tuple [.Name x px, .Name y py, .Name z pz] kt pt] (.Tuple [a, b, c] k2 pt2) X.env = pure (some [x, y, z]))
    (hs : swapsWithSole [.Tuple [.Name x px, .Name y py, .Name z pz] kt pt] (.Tuple [a, b, c] k2 pt2) pos.line X.env = pure false := by rfl) :
    DS X (.Assign [.Tuple [.Name x px, .Name y py, .Name z pz] kt pt] (.Tuple [a, b, c] k2 pt2) pos) (sPar3 i j l A) := ⟨PS.imp (ps_par3 (i := i) (j := j) (l := l) hc hN hi hj hl hij hil hjl hx hy hz ha.p hw hs) fun E σ H ⟨c, ρ, T, O, w, ev, fl, T', hG, k⟩ => by
  obtain ⟨⟨ds, T1⟩, h1, h2⟩ := Option.bind_eq_some_iff.mp hG
  simp only at h2
  split at h2
  · cases h2
    refine ⟨c, ρ, T, O, w, ev, _, _, h1, fun vs H' O' w' e' t' r' => ?_⟩
    cases r' with
    | cons r1 q =>
      obtain ⟨u, v, e1, r2, r3⟩ := q.two
      subst e1
      exact ⟨_, u, v, rfl, k _ H' O' w' (((e'.set r1).set r2).set r3) t'.s⟩
  · cases h2⟩
/-- name op= value -/
def sAug (i : Nat) (op : D → D → Option D) (f : DG D) : SG := fun ρ T => match ρ[i]? with
  | some (.sh x) => (f ρ T).bind fun p => (op x p.1).map fun z => (.nx (ρ.set i (.sh z)), p.2)
  | _ => none
theorem ds_aug {i : Nat} {x : Str} {op : Operator} {r : R2} {dop : D → D → Option D} {pos' : Pos} (hN : X.N.Nodup) (hi : X.N[i]? = some x) (hx : Loc X.env.scope x) (he : DE X e f) (ho : PIp X op r) (hd : OpD X.K r dop) (hf : X.fn x = true ∨ X.env.scope.names.lookup x = some .local := by first | exact .inl rfl | exact .inr rfl | assumption) :
    DS X (.AugAssign (.Name x pos') op e pos) (sAug i dop f) := ⟨PS.imp (ps_aug (i := i) hN hi hx he.p ho hf) fun E σ H ⟨c, ρ, T, O, w, ev, fl, T', hG, k⟩ => by
  unfold sAug at hG
  split at hG
  · rename_i d0 e0
    obtain ⟨⟨d, T1⟩, h1, h2⟩ := Option.bind_eq_some_iff.mp hG
    obtain ⟨z, h3, h4⟩ := Option.map_eq_some_iff.mp h2
    cases h4
    obtain ⟨o, ho⟩ : ∃ o, σ[i]? = some o := ⟨_, List.getElem?_eq_getElem (by rw [ev.len]; exact (List.getElem?_eq_some_iff.mp e0).1)⟩
    cases ev.at_ i o _ ho e0 with
    | sh rx =>
      refine ⟨_, ho, c, ρ, T, O, w, ev, d, T1, h1, fun v H' O' w' e' t' r' => ?_⟩
      exact hd H' c.t O' _ v _ d z _ w'.al (t'.r w rx) r' h3 fun u H2 s2 r2 => k _ H2 O' (w'.same s2) ((Ev.same w' s2 e').set r2) (t'.trans (Tr.same w'.ot s2)).s
  · cases hG⟩
/-! a list of one's own is changed -/
theorem set_self {α : Type} {l : List α} {i : Nat} {x : α} (h : l[i]? = some x) : l.set i x = l := by
  refine List.ext_getElem? fun j => ?_
  by_cases e : i = j
  · subst e
    rw [List.getElem?_set_self (List.getElem?_eq_some_iff.mp h).1, h]
  · rw [List.getElem?_set_ne e]
theorem own_mut {K : PySem.W.Frag} {c : Ctx} {O : Addr → Prop} {H : Hp} {σ : L2.St} {ρ : List Sl} {T : List D} {i : Nat} {a : Addr} {xs ys : List V} {ds es : List D} (w : Wd K c O T H) (e : Ev K c O σ ρ H) (hs : σ[i]? = some (some (.ref a))) (hr : ρ[i]? = some (.ow ds)) (ha : H a = some (.lst xs)) (r : RA K H c.t O ys es) :
    Wd K c O T (upd H a (.lst ys)) ∧ Ev K c O σ (ρ.set i (.ow es)) (upd H a (.lst ys)) ∧ TrS c O H O (upd H a (.lst ys)) := by
  obtain ⟨na, oa, n0, h0⟩ : a ≠ c.t ∧ O a ∧ ¬ c.O0 a ∧ c.H0 a = none := by
    cases e.at_ i _ _ hs hr with
    | ow k1 k2 k3 k4 k5 k6 => exact ⟨k1, k2, k3, k4⟩
  have ts := TrS.upd (ys := ys) w oa na ha
  have w2 := w.upd (ys := ys) oa na h0 ha
  have e1 : Ev K c O σ (ρ.set i .no) H := by
    have q := e.no (i := i) (o := some (.ref a))
    rw [set_self hs] at q
    exact q
  have ls : i < σ.length := (List.getElem?_eq_some_iff.mp hs).1
  have sp : ∀ (j : Nat) (fs : List D), σ[j]? = some (some (.ref a)) → (ρ.set i .no)[j]? = some (.ow fs) → False := fun j fs h1 h2 => by
    by_cases hj : i = j
    · subst hj
      rw [List.getElem?_set_self (by rw [← e.len]; exact ls)] at h2; cases h2
    · rw [List.getElem?_set_ne hj] at h2
      exact e.sep i j a ds fs hj hs hr h1 h2
  have e2 := Ev.upd (ys := ys) w oa na ha e1 sp
  have e3 := e2.setO (i := i) (ds := es) w2 na oa n0 h0 upd_same (ts.ra w r) fun j fs _ h1 h2 => sp j fs h1 h2
  rw [set_self hs, List.set_set] at e3
  exact ⟨w2, e3, ts⟩
def sApp (i : Nat) (f : DG D) : SG := fun ρ T => match ρ[i]? with
  | some (.ow ds) => (f ρ T).bind fun p => if small (ds.length + 1) then some (.nx (ρ.set i (.ow (ds ++ [p.1]))), p.2) else none
  | _ => none
theorem ow_at {K : PySem.W.Frag} {c : Ctx} {O : Addr → Prop} {H : Hp} {σ : L2.St} {ρ : List Sl} {i : Nat} {ds : List D} (e : Ev K c O σ ρ H) (hr : ρ[i]? = some (.ow ds)) : ∃ o, σ[i]? = some o ∧ RS K c O H o (.ow ds) := by
  obtain ⟨o, ho⟩ : ∃ o, σ[i]? = some o := ⟨_, List.getElem?_eq_getElem (by rw [e.len]; exact (List.getElem?_eq_some_iff.mp hr).1)⟩
  exact ⟨o, ho, e.at_ i o _ ho hr⟩
theorem ds_append {i : Nat} {x : Str} {p1 : Pos} (hN : X.N[i]? = some x) (hv : Vis X.env.scope x) (he : DE X e f)
    (hs : starEach (e :: []) X.env = (false, eval e X.env) :: starEach [] X.env := by rfl)
    (hd : (x == ("__debug__" : Str)) = false := by decide) (hcd : (x == ("__classdict__" : Str)) = false := by decide)
    (p : PE X (.Name x p1) (tVar i) → PA X [e] (tCons (tD X.K f) tNil) → PS X st (tDrop (tBM X.K "list" rAppend (tVar i) (tCons (tD X.K f) tNil)))) : DS X st (sApp i f) := ⟨PS.imp (p (pe_var hN hv hd hcd) (pa_cons he.p pa_nil hs)) fun E σ H ⟨c, ρ, T, O, w, ev, fl, T', hG, k⟩ => by
  unfold sApp at hG
  split at hG
  · rename_i ds hr
    obtain ⟨⟨d, T1⟩, h1, h2⟩ := Option.bind_eq_some_iff.mp hG
    split at h2
    · rename_i hsm
      cases h2
      obtain ⟨o, ho, rs⟩ := ow_at ev hr
      cases rs with
      | @ow a xs _ k1 k2 k3 k4 k5 k6 =>
        refine ⟨_, ho, .inl ⟨rfl, _, SqL.of k5⟩, c, ρ, T, O, w, ev, d, _, h1, fun v H' O' w' e' t' r' => ?_⟩
        have h5 : H' a = some (.lst xs) := t'.kp a _ k5 k1
        obtain ⟨w2, e2, t2⟩ := own_mut (ys := xs ++ [v]) (es := ds ++ [d]) w' e' ho hr h5 ((t'.ra w k6).append (.cons r' .nil))
        refine ⟨a, xs, v, rfl, rfl, h5, ?_, k _ _ O' w2 e2 (t'.s.trans t2)⟩
        have := small_ok hsm
        rw [k6.length]
        omega
    · cases h2
  · cases hG⟩
/-- own list [k] = v -/
def sPut (i : Nat) (f g : DG D) : SG := fun ρ T => match ρ[i]? with
  | some (.ow ds) => (f ρ T).bind fun p => (g ρ p.2).bind fun q => match q.1 with
    | .int k => (ixN ds.length k).map fun j => (.nx (ρ.set i (.ow (ds.set j p.1))), q.2)
    | _ => none
  | _ => none
/-- the source of draws [k] = v -/
def sTin (i : Nat) (f g : DG D) : SG := fun ρ T => match ρ[i]? with
  | some (.sh (.dict [])) => (f ρ T).bind fun p => (g ρ p.2).bind fun q => match q.1 with
    | .int k => (ixN q.2.length k).map fun j => (.nx ρ, q.2.set j p.1)
    | _ => none
  | _ => none
theorem ds_tin {i : Nat} {x : Str} {px : Pos} {ix : Expr} (hN : X.N[i]? = some x) (hv : Vis X.env.scope x) (he : DE X e f) (hi : DE X ix g) (hd : (x == ("__debug__" : Str)) = false := by decide) (hcd : (x == ("__classdict__" : Str)) = false := by decide)
    (p : PE X (.Name x px) (tVar i) → PE X ix (tD X.K g) → PE X e (tD X.K f) → PS X st (tAsg (tD X.K f) (gSub (tVar i) (tD X.K g) rSetL))) : DS X st (sTin i f g) := ⟨PS.imp (p (pe_var hN hv hd hcd) hi.p he.p) fun E σ H ⟨c, ρ, T, O, w, ev, fl, T', hG, k⟩ => by
  unfold sTin at hG
  split at hG
  · rename_i hr
    obtain ⟨⟨d, T1⟩, h1, h2⟩ := Option.bind_eq_some_iff.mp hG
    obtain ⟨⟨y, T2⟩, h3, h4⟩ := Option.bind_eq_some_iff.mp h2
    simp only at h4
    split at h4
    · obtain ⟨j, h5, h6⟩ := Option.map_eq_some_iff.mp h4
      cases h6
      refine ⟨c, ρ, T, O, w, ev, d, T1, h1, fun v H1 O1 w1 e1 t1 r1 => ?_⟩
      obtain ⟨o, ho⟩ : ∃ o, σ[i]? = some o := ⟨_, List.getElem?_eq_getElem (by rw [ev.len]; exact (List.getElem?_eq_some_iff.mp hr).1)⟩
      have q : o = some (.ref c.t) := by
        cases e1.at_ i o _ ho hr with
        | sh r => rw [r.tinE]
      subst q
      refine ⟨_, ho, c, ρ, T1, O1, w1, e1, _, T2, h3, fun vi H2 O2 w2 e2 t2 r2 => ?_⟩
      have q := r2.intE
      subst q
      obtain ⟨xs, hx, rx⟩ := w2.tin
      have ts : TrS c O2 H2 O2 (upd H2 c.t (.lst (xs.set j v))) := ⟨w2.ot, fun b o h n _ => by rw [upd_ne n]; exact h, fun _ h => .inl h⟩
      have rv := ts.r w2 (t2.r w1 r1)
      refine ⟨c.t, xs, _, j, rfl, rfl, hx, by rw [rx.length]; exact h5, k σ _ O2 ⟨w2.ot, ⟨_, upd_same, RA.set rv j (ts.ra w2 rx)⟩, fun b o h n => by rw [upd_ne n]; exact w2.kp b o h n, w2.up, w2.nw, fun b h z => ?_⟩ ⟨e2.len, fun m o s g1 g2 => ?_, e2.sep⟩ ((t1.trans t2).s.trans ts)⟩
      · by_cases e : b = c.t
        · rw [e, upd_same] at z; cases z
        · rw [upd_ne e] at z; exact w2.al b h z
      · cases e2.at_ m o s g1 g2 with
        | no => exact .no
        | sh r => exact .sh (ts.r w2 r)
        | ow k1 k2 k3 k4 k5 k6 => exact .ow k1 k2 k3 k4 (by rw [upd_ne k1]; exact k5) (ts.ra w2 k6)
    · cases h4
  · cases hG⟩
/-- an own list is given away -/
def sFrz (i : Nat) (G : SG) : SG := fun ρ T => match ρ[i]? with
  | some (.ow ds) => G (ρ.set i (.sh (.list ds))) T
  | _ => none
theorem dss_frz {i : Nat} (h : DSs X sts G) : DSs X sts (sFrz i G) := ⟨PSs.imp h.p fun E σ H ⟨c, ρ, T, O, w, ev, fl, T', hG, k⟩ => by
  unfold sFrz at hG
  split at hG
  · rename_i ds hr
    obtain ⟨o, ho, rs⟩ := ow_at ev hr
    cases rs with
    | @ow a xs _ k1 k2 k3 k4 k5 k6 =>
      have ls : i < σ.length := (List.getElem?_eq_some_iff.mp ho).1
      have e1 : Ev X.K c O σ (ρ.set i .no) H := by
        have q := ev.no (i := i) (o := some (.ref a))
        rw [set_self ho] at q
        exact q
      have sp : ∀ (j : Nat) (fs : List D), σ[j]? = some (some (.ref a)) → (ρ.set i .no)[j]? = some (.ow fs) → False := fun j fs h1 h2 => by
        by_cases hj : i = j
        · subst hj
          rw [List.getElem?_set_self (by rw [← ev.len]; exact ls)] at h2; cases h2
        · rw [List.getElem?_set_ne hj] at h2
          exact ev.sep i j a ds fs hj ho hr h1 h2
      have w2 := w.off k3 k1
      have e2 := (e1.off sp).set (i := i) (v := .ref a) (d := .list ds) (.lst (fun z => z.2 rfl) k5 (k6.less fun _ z => z.1))
      rw [set_self ho, List.set_set] at e2
      exact ⟨c, _, T, _, w2, e2, fl, T', hG, k.step ⟨w.ot, fun b o h _ _ => h, fun b h => .inl h.1⟩⟩
  · cases hG⟩
/-! ### loops -/
def forGo (tg : D → List Sl → Option (List Sl)) (B : SG) : List D → SG
  | [], ρ, T => some (.nx ρ, T)
  | x :: xs, ρ, T => (tg x ρ).bind fun ρ1 => (B ρ1 T).bind fun p => match p.1 with
    | .nx ρ2 => forGo tg B xs ρ2 p.2
    | .ct ρ2 => forGo tg B xs ρ2 p.2
    | .bk ρ2 => some (.nx ρ2, p.2)
    | .rt d => some (.rt d, p.2)
def sFor (I : DG (List D)) (tg : D → List Sl → Option (List Sl)) (B : SG) : SG := fun ρ T => (I ρ T).bind fun p => forGo tg B p.1 ρ p.2
theorem ds_for {tg iter : Expr} {body : List Stmt} {I : DG (List D)} {sl : List Nat} {g : D → List Sl → Option (List Sl)} {B : SG} (hp : PassesOwn (model X.prog X.w) X.A X.env X.xe) (hc : X.calm = true) (hi : DI X tg iter I) (hg : DTg X tg sl g) (hb : DSs X body B) (hs : ∀ x, foldedSetIterable iter X.env x = pure x := by intro _; rfl) :
    DS X (.For tg iter body [] pos) (sFor I g B) := ⟨PS.imp (ps_for hp hc hi.p hg.p hb.p hs) fun E σ H ⟨c, ρ, T, O, w, ev, fl, T', hG, k⟩ => by
  obtain ⟨⟨items, T1⟩, hI, hgo⟩ := Option.bind_eq_some_iff.mp hG
  refine ⟨c, ρ, T, O, w, ev, items, T1, hI, fun J H1 O1 w1 e1 t1 st => ?_⟩
  have k1 := k.step t1.s
  refine ⟨fun i m σ2 H2 => m = items.length - i ∧ i ≤ items.length ∧ ∃ O2 ρ2 T2, Wd X.K c O2 T2 H2 ∧ Ev X.K c O2 σ2 ρ2 H2 ∧ TrS c O1 H1 O2 H2 ∧ forGo g B (items.drop i) ρ2 T2 = some (fl, T'), ⟨items.length, by simp, Nat.zero_le _, O1, ρ, T1, w1, e1, TrS.refl w1.ot, hgo⟩, ?_⟩
  rintro i m σ2 H2 ⟨rfl, hle, O2, ρ2, T2, w2, e2, t2, hgo2⟩
  obtain ⟨sg, ss⟩ := st O2 H2 T2 w2 t2 i
  by_cases hlt : i < items.length
  · refine .inr ?_
    have hx : items[i]? = some items[i] := List.getElem?_eq_getElem hlt
    obtain ⟨hg, hy⟩ := sg _ hx
    refine ⟨hg, fun σ' H' => ∃ m', m' < items.length - i ∧ m' = items.length - (i + 1) ∧ i + 1 ≤ items.length ∧ ∃ O2 ρ2 T2, Wd X.K c O2 T2 H' ∧ Ev X.K c O2 σ' ρ2 H' ∧ TrS c O1 H1 O2 H' ∧ forGo g B (items.drop (i + 1)) ρ2 T2 = some (fl, T'), fun σ' H' h => h, fun x H3 hyx => ?_⟩
    obtain ⟨s3, r3⟩ := hy x H3 hyx
    rw [List.drop_eq_getElem_cons hlt] at hgo2
    unfold forGo at hgo2
    obtain ⟨ρ3, htg, hgo2⟩ := Option.bind_eq_some_iff.mp hgo2
    obtain ⟨⟨f1, T3⟩, hb3, hgo2⟩ := Option.bind_eq_some_iff.mp hgo2
    have w3 := w2.same s3
    have e3 := Ev.same w2 s3 e2
    have t3 : TrS c O1 H1 O2 H3 := t2.trans (Tr.same w2.ot s3).s
    refine ⟨c, ρ2, O2, T2, _, w3, e3, r3, ρ3, htg, fun σ4 e4 _ _ => ⟨c, ρ3, T2, O2, w3, e4, f1, T3, hb3, ?_⟩⟩
    cases f1 with
    | nx ρ5 => exact fun σ' H' O' w' e' t' => ⟨items.length - (i + 1), by omega, rfl, hlt, O', ρ5, T3, w', e', t3.trans t', hgo2⟩
    | ct ρ5 => exact fun σ' H' O' w' e' t' => ⟨items.length - (i + 1), by omega, rfl, hlt, O', ρ5, T3, w', e', t3.trans t', hgo2⟩
    | bk ρ5 =>
      cases hgo2
      exact fun σ' H' O' w' e' t' => k1 σ' H' O' w' e' (t3.trans t')
    | rt d =>
      cases hgo2
      exact fun v H' O' w' t' r' => k1 v H' O' w' (t3.trans t') r'
  · refine .inl ?_
    have hie : i = items.length := by omega
    refine ⟨ss hie, ?_⟩
    rw [hie, List.drop_length] at hgo2
    unfold forGo at hgo2
    cases hgo2
    exact k1 σ2 H2 O2 w2 e2 t2⟩
def whGo (c : DG Bool) (B : SG) : Nat → SG
  | 0, _, _ => none
  | n + 1, ρ, T => (c ρ T).bind fun p => if p.1 = true then (B ρ p.2).bind fun q => (match q.1 with
      | .nx ρ2 => whGo c B n ρ2 q.2
      | .ct ρ2 => whGo c B n ρ2 q.2
      | .bk ρ2 => some (.nx ρ2, q.2)
      | .rt d => some (.rt d, q.2)) else some (.nx ρ, p.2)
/-- φ: enough turns -/
def sWh (φ : List Sl → List D → Nat) (c : DG Bool) (B : SG) : SG := fun ρ T => whGo c B (φ ρ T) ρ T
theorem ds_while {body : List Stmt} {C : DG Bool} {B : SG} (φ : List Sl → List D → Nat) (hp : PassesOwn (model X.prog X.w) X.A X.env X.xe) (hc : DT X e C) (hb : DSs X body B) : DS X (.While e body [] pos) (sWh φ C B) := ⟨PS.imp (ps_while hp hc.p hb.p) fun E σ H ⟨c, ρ, T, O, w, ev, fl, T', hG, k⟩ => by
  refine ⟨fun m σ2 H2 => ∃ O2 ρ2 T2, Wd X.K c O2 T2 H2 ∧ Ev X.K c O2 σ2 ρ2 H2 ∧ TrS c O H O2 H2 ∧ whGo C B m ρ2 T2 = some (fl, T'), ⟨φ ρ T, O, ρ, T, w, ev, TrS.refl w.ot, hG⟩, ?_⟩
  rintro m σ2 H2 ⟨O2, ρ2, T2, w2, e2, t2, hgo⟩
  cases m with
  | zero => cases hgo
  | succ n =>
    unfold whGo at hgo
    obtain ⟨⟨b, T3⟩, h1, hgo⟩ := Option.bind_eq_some_iff.mp hgo
    refine ⟨c, ρ2, T2, O2, w2, e2, b, T3, h1, fun H3 O3 w3 e3 t3 => ?_⟩
    have t13 : TrS c O H O3 H3 := t2.trans t3.s
    dsimp only
    cases b with
    | true =>
      rw [if_pos rfl] at hgo ⊢
      obtain ⟨⟨f1, T4⟩, h2, hgo⟩ := Option.bind_eq_some_iff.mp hgo
      refine ⟨fun σ' H' => ∃ m', m' < n + 1 ∧ ∃ O2 ρ2 T2, Wd X.K c O2 T2 H' ∧ Ev X.K c O2 σ' ρ2 H' ∧ TrS c O H O2 H' ∧ whGo C B m' ρ2 T2 = some (fl, T'), fun _ _ h => h, c, ρ2, T3, O3, w3, e3, f1, T4, h2, ?_⟩
      cases f1 with
      | nx ρ5 => exact fun σ' H' O' w' e' t' => ⟨n, Nat.lt_succ_self _, O', ρ5, T4, w', e', t13.trans t', hgo⟩
      | ct ρ5 => exact fun σ' H' O' w' e' t' => ⟨n, Nat.lt_succ_self _, O', ρ5, T4, w', e', t13.trans t', hgo⟩
      | bk ρ5 =>
        cases hgo
        exact fun σ' H' O' w' e' t' => k σ' H' O' w' e' (t13.trans t')
      | rt d =>
        cases hgo
        exact fun v H' O' w' t' r' => k v H' O' w' (t13.trans t') r'
    | false =>
      rw [if_neg Bool.false_ne_true] at hgo ⊢
      cases hgo
      exact k σ2 H3 O3 w3 e3 t13⟩
end
/-! ### a def's body -/
def ρ0 (n : Nat) (ds : List D) : List Sl := ds.map .sh ++ List.replicate (n - ds.length) .no
/-- what a body makes of its data; n names in all, m parameters -/
def bodyF (n m : Nat) (G : SG) : List D → List D → Option (D × List D) := fun ds T => if ds.length = m then (match G (ρ0 n ds) T with
  | some (.rt d, T') => some (d, T')
  | some (.nx _, T') => some (.none, T')
  | _ => none) else none
theorem start_len {N : List Str} {vs : List V} (h : vs.length ≤ N.length) : (L2.start N vs).length = N.length := by
  unfold L2.start
  rw [List.length_append, List.length_map, List.length_replicate]
  omega
theorem ev_start {K : PySem.W.Frag} {N : List Str} {t : Addr} {O : Addr → Prop} {H : Hp} {vs : List V} {ds : List D} (r : RA K H t O vs ds) : Ev K ⟨t, H, O⟩ O (L2.start N vs) (ρ0 N.length ds) H := by
  have hl := r.length
  refine ⟨?_, fun i o s h1 h2 => ?_, fun i j a fs gs hij h1 h2 h3 h4 => ?_⟩
  · unfold L2.start ρ0
    rw [List.length_append, List.length_append, List.length_map, List.length_map, List.length_replicate, List.length_replicate, hl]
  · unfold L2.start at h1
    unfold ρ0 at h2
    by_cases hi : i < ds.length
    · rw [List.getElem?_append_left (by rw [List.length_map]; omega), List.getElem?_map] at h1
      rw [List.getElem?_append_left (by rw [List.length_map]; omega), List.getElem?_map] at h2
      obtain ⟨d, g1, g2⟩ := Option.map_eq_some_iff.mp h2
      subst g2
      obtain ⟨v, g3, g4⟩ := r.get g1
      rw [g3] at h1
      cases h1
      exact .sh g4
    · rw [List.getElem?_append_right (by rw [List.length_map]; omega), List.getElem?_replicate] at h2
      split at h2
      · cases h2; exact .no
      · cases h2
  · unfold ρ0 at h2
    by_cases hi : i < ds.length
    · rw [List.getElem?_append_left (by rw [List.length_map]; omega), List.getElem?_map] at h2
      obtain ⟨d, g1, g2⟩ := Option.map_eq_some_iff.mp h2
      cases g2
    · rw [List.getElem?_append_right (by rw [List.length_map]; omega), List.getElem?_replicate] at h2
      split at h2
      · cases h2
      · cases h2
/-- THE RULE for a def -/
theorem ok_def {P : Program} {w : World} {K : PySem.W.Frag} {mg : Str → Option Value} {base : Heap} {x qual : Str} {st : Stmt} {f : Addr} {fd : FuncData} {N ps : List Str} {k : Nat} {G : SG} (Fn : Fun K x qual st f fd) (S : FnScope N ps (defScope st))
    (hb : ∀ (cdv : Value) (A : Around) (outer : List Env) (s : Shared) (H : Hp) (E : XK), Room k (A.deeper (envOfC qual (defScope st) s.heap.objs.size f cdv)) → DSs (cxOf CX0 P w K mg base N qual (defScope st) f cdv A outer s H E).nox (defBody st) G) :
    FnOk P w K mg base CX0 (k + 1) f fd ps (spD K ps.length (bodyF N.length ps.length G)) := by
  refine Fn.ok S (fun vs H Q E h => h.1) (fun cdv A outer s H vs Q E hr h => ⟨_, (hb cdv A outer s H E hr).p, ?_⟩)
  obtain ⟨hl, t, O, ds, T, d, T', ot, tn, al, ra, hF, k⟩ := h
  unfold bodyF at hF
  split at hF
  case isFalse => cases hF
  have w0 : Wd K ⟨t, H, O⟩ O T H := ⟨ot, tn, fun _ _ h _ => h, fun _ h => h, fun _ h => .inl h, al⟩
  refine ⟨⟨t, H, O⟩, ρ0 N.length ds, T, O, w0, ev_start ra, ?_⟩
  split at hF
  · rename_i d1 T1 e1
    cases hF
    refine ⟨_, _, e1, fun v H' O' w' t' r' => k v H' w'.kp ?_ (r'.less w'.up)⟩
    obtain ⟨xs, h1, h2⟩ := w'.tin
    exact ⟨xs, h1, h2.less w'.up⟩
  · rename_i ρ1 T1 e1
    cases hF
    refine ⟨_, _, e1, fun σ' H' O' w' e' t' => k .non H' w'.kp ?_ .non⟩
    obtain ⟨xs, h1, h2⟩ := w'.tin
    exact ⟨xs, h1, h2.less w'.up⟩
  · cases hF
end DL
set_option Elab.async false
set_option linter.all false
set_option maxRecDepth 100000
set_option maxHeartbeats 4000000
namespace DL
open PySem PySem.Spec PyProof.Rows L2
/-- a def of the top as it stands -/
structure DefF (K : PySem.W.Frag) (mg : Str → Option Value) (x : Str) (st : Stmt) (ps : List Str) : Type where
  f : Addr
  fd : FuncData
  fn : Fun K x x st f fd
  bd : Binds K fd ps []
  g : mg x = some (.ref f)
def dOfF (G : DG (List D)) : DG D := fun ρ T => (G ρ T).map fun p => (.list p.1, p.2)
def dNoPart : DG (Option Int) := fun _ T => some (none, T)
def opLt := opB fun i j => decide (i < j)
def opLe := opB fun i j => decide (i ≤ j)
def opGt := opB fun i j => decide (j < i)
def opGe := opB fun i j => decide (j ≤ i)
def sBrk : SG := fun ρ T => some (.bk ρ, T)
def sCnt : SG := fun ρ T => some (.ct ρ, T)
def sNev : SG := fun _ _ => none
def sRetN : SG := fun _ T => some (.rt .none, T)
/-- turns enough by the int in a slot -/
def fuelI (i : Nat) : List Sl → List D → Nat := fun ρ _ => match ρ[i]? with
  | some (.sh (.int k)) => k.toNat + 1
  | _ => 0
def notSlice : Expr → Bool
  | .Slice .. => false
  | _ => true
theorem plainIx {b : Expr} (h : notSlice b = true) : PlainIx b := by
  cases b <;> first | (intro _ _; rfl) | cases h
section
variable {X : Cx} {a b : Expr} {pos : Pos} {F G : DG D}
theorem dt_cmp {o : CmpOp} {r : R2} {op : D → D → Option D} (hr : OpR X (compareOp o) r) (ho : OpD X.K r op) (ha : DE X a F) (hb : DE X b G) (hm : behindInMarks o b = false) : DT X (.Compare a [o] [b] pos) (dUn asBool (dBin op F G)) := ⟨PT.imp (pt_cmpR hr ha.p hb.p hm) fun σ H Q ⟨c, ρ, T, O, w, ev, d, T', hG, k⟩ => by
  obtain ⟨z, h0, hz⟩ := dUn_some hG
  have hz := asBool_some hz
  subst hz
  obtain ⟨x, T1, y, h1, h2, h3⟩ := dBin_some h0
  refine ⟨c, ρ, T, O, w, ev, x, T1, h1, fun v1 H1 O1 w1 e1 t1 r1 => ⟨c, ρ, T1, O1, w1, e1, y, T', h2, fun v2 H2 O2 w2 e2 t2 r2 => ?_⟩⟩
  exact ho H2 c.t O2 v1 v2 x y _ _ w2.al (t2.r w1 r1) r2 h3 fun v H3 s3 r3 => ⟨d, r3.blE, k H3 O2 (w2.same s3) (Ev.same w2 s3 e2) ((t1.trans t2).trans (Tr.same w2.ot s3))⟩⟩
theorem dt_lt (ha : DE X a F) (hb : DE X b G) : DT X (.Compare a [.Lt] [b] pos) (dUn asBool (dBin opLt F G)) := dt_cmp op_lt od_B ha hb (nomark _)
theorem dt_le (ha : DE X a F) (hb : DE X b G) : DT X (.Compare a [.LtE] [b] pos) (dUn asBool (dBin opLe F G)) := dt_cmp op_le od_B ha hb (nomark _)
theorem dt_gt (ha : DE X a F) (hb : DE X b G) : DT X (.Compare a [.Gt] [b] pos) (dUn asBool (dBin opGt F G)) := dt_cmp op_gt od_B ha hb (nomark _)
theorem dt_ge (ha : DE X a F) (hb : DE X b G) : DT X (.Compare a [.GtE] [b] pos) (dUn asBool (dBin opGe F G)) := dt_cmp op_ge od_B ha hb (nomark _)
theorem dt_eq (hu : X.A.units + 64 < cLine) (ha : DE X a F) (hb : DE X b G) : DT X (.Compare a [.Eq] [b] pos) (dUn asBool (dBin opEq F G)) := dt_cmp (op_eqD hu) od_eq ha hb (nomark _)
theorem dt_ne (hu : X.A.units + 64 < cLine) (ha : DE X a F) (hb : DE X b G) : DT X (.Compare a [.NotEq] [b] pos) (dUn asBool (dBin opNe F G)) := dt_cmp (op_neD hu) od_ne ha hb (nomark _)
theorem dt_isN (ha : DE X a F) (hb : DE X b G) : DT X (.Compare a [.Is] [b] pos) (dUn asBool (dBin opIsN F G)) := dt_cmp op_isN od_isN ha hb (nomark _)
theorem dt_notN (ha : DE X a F) (hb : DE X b G) : DT X (.Compare a [.IsNot] [b] pos) (dUn asBool (dBin opNotN F G)) := dt_cmp op_notN od_notN ha hb (nomark _)
end
theorem ok_defn {P : Program} {w : World} {K : PySem.W.Frag} {mg : Str → Option Value} {base : Heap} {x qual : Str} {st : Stmt} {f : Addr} {fd : FuncData} {N ps : List Str} {n m : Nat} (k : Nat) (G : SG) (Fn : Fun K x qual st f fd) (S : FnScope N ps (defScope st)) (hn : N.length = n) (hm : ps.length = m)
    (hb : ∀ (cdv : Value) (A : Around) (outer : List Env) (s : Shared) (H : Hp) (E : XK), Room k (A.deeper (envOfC qual (defScope st) s.heap.objs.size f cdv)) → DSs (cxOf CX0 P w K mg base N qual (defScope st) f cdv A outer s H E).nox (defBody st) G) :
    FnOk P w K mg base CX0 (k + 1) f fd ps (spD K m (bodyF n m G)) := by
  subst hn
  subst hm
  exact ok_def Fn S hb
theorem fnOk_none {P : Program} {w : World} {K : PySem.W.Frag} {mg : Str → Option Value} {base : Heap} {CX : CXT} {k n : Nat} {f : Addr} {fd : FuncData} {ps : List Str} (h : ps.length = n) : FnOk P w K mg base CX k f fd ps (spD K n fun _ _ => none) := by
  have no : ∀ vs H Q E, ¬ spD K n (fun _ _ => none) vs H Q E := fun vs H Q E h => by
    obtain ⟨_, _, _, _, _, _, _, _, _, _, _, hF, _⟩ := h
    cases hF
  exact ⟨fun vs H Q E h => absurd h (no vs H Q E), fun A outer s H args us vs Q E _ _ _ _ h => absurd h (no vs H Q E)⟩
theorem pip_add {X : Cx} : PIp X .Add (rI0 fun i j => .int (i + j)) := fun pins s σ H x y v u Q I rx ry h => iop_add pins s σ H x y v u Q I rx ry h
theorem pip_sub {X : Cx} : PIp X .Sub (rI0 fun i j => .int (i - j)) := fun pins s σ H x y v u Q I rx ry h => iop_sub pins s σ H x y v u Q I rx ry h
end DL
set_option Elab.async false
set_option linter.all false
set_option maxRecDepth 100000
set_option maxHeartbeats 4000000
namespace DL
open PySem PySem.Spec PyProof.Rows L2
/-! in, not in -/
def rInT (K : PySem.W.Frag) : R2 := fun x y H Q => ∃ d ds, Dp K H x d ∧ Dp K H y (.tuple ds) ∧ SeqAt.shaped d = true ∧ SeqAt.shaped (.tuple ds) = true ∧ Q (.bl (ds.any fun z => PyData.eqv z d)) H
def rNotInT (K : PySem.W.Frag) : R2 := fun x y H Q => ∃ d ds, Dp K H x d ∧ Dp K H y (.tuple ds) ∧ SeqAt.shaped d = true ∧ SeqAt.shaped (.tuple ds) = true ∧ Q (.bl (!ds.any fun z => PyData.eqv z d)) H
section
variable {X : Cx}
theorem op_inT (hu : X.A.units + 65 < cLine) : OpR X (compareOp .In) (rInT X.K) := by
  intro pins s σ H x y v u Q I rx ry h
  obtain ⟨d, ds, hd, he, sd, se, q⟩ := h
  obtain ⟨as, r1⟩ := Dp.reads I d x v hd rx
  obtain ⟨bs, r2⟩ := Dp.reads I (.tuple ds) y u he ry
  exact SeqAt.in_tuple_reads r2 r1 (SeqAt.canLay_of_shaped se) (SeqAt.canLay_of_shaped sd) (room_in_shaped sd hu) ⟨.bl _, H, I, rfl, q⟩
theorem op_notInT (hu : X.A.units + 65 < cLine) : OpR X (compareOp .NotIn) (rNotInT X.K) := by
  intro pins s σ H x y v u Q I rx ry h
  obtain ⟨d, ds, hd, he, sd, se, q⟩ := h
  obtain ⟨as, r1⟩ := Dp.reads I d x v hd rx
  obtain ⟨bs, r2⟩ := Dp.reads I (.tuple ds) y u he ry
  exact SeqAt.notIn_tuple_reads r2 r1 (SeqAt.canLay_of_shaped se) (SeqAt.canLay_of_shaped sd) (room_in_shaped sd hu) ⟨.bl _, H, I, rfl, q⟩
end
def opIn : D → D → Option D
  | x, .list ds => if SeqAt.shaped x && SeqAt.shaped (.list ds) then some (.bool (ds.any fun z => PyData.eqv z x)) else none
  | x, .tuple ds => if SeqAt.shaped x && SeqAt.shaped (.tuple ds) then some (.bool (ds.any fun z => PyData.eqv z x)) else none
  | _, _ => none
def opNotIn : D → D → Option D
  | x, .list ds => if SeqAt.shaped x && SeqAt.shaped (.list ds) then some (.bool (!ds.any fun z => PyData.eqv z x)) else none
  | x, .tuple ds => if SeqAt.shaped x && SeqAt.shaped (.tuple ds) then some (.bool (!ds.any fun z => PyData.eqv z x)) else none
  | _, _ => none
theorem od_in {K : PySem.W.Frag} : OpD K (fun x y H Q => rInD K x y H Q ∨ rInT K x y H Q) opIn := by
  intro H t O vx vy x y d Q al rx ry e q
  unfold opIn at e
  split at e
  · split at e
    · rename_i h
      cases e
      rw [Bool.and_eq_true] at h
      exact .inl ⟨x, _, rx.dp (SeqAt.canLay_of_shaped h.1), ry.dp (SeqAt.canLay_of_shaped h.2), h.1, h.2, q _ H (Same.refl H) (.bl _)⟩
    · cases e
  · split at e
    · rename_i h
      cases e
      rw [Bool.and_eq_true] at h
      exact .inr ⟨x, _, rx.dp (SeqAt.canLay_of_shaped h.1), ry.dp (SeqAt.canLay_of_shaped h.2), h.1, h.2, q _ H (Same.refl H) (.bl _)⟩
    · cases e
  · cases e
theorem od_notin {K : PySem.W.Frag} : OpD K (fun x y H Q => rNotInD K x y H Q ∨ rNotInT K x y H Q) opNotIn := by
  intro H t O vx vy x y d Q al rx ry e q
  unfold opNotIn at e
  split at e
  · split at e
    · rename_i h
      cases e
      rw [Bool.and_eq_true] at h
      exact .inl ⟨x, _, rx.dp (SeqAt.canLay_of_shaped h.1), ry.dp (SeqAt.canLay_of_shaped h.2), h.1, h.2, q _ H (Same.refl H) (.bl _)⟩
    · cases e
  · split at e
    · rename_i h
      cases e
      rw [Bool.and_eq_true] at h
      exact .inr ⟨x, _, rx.dp (SeqAt.canLay_of_shaped h.1), ry.dp (SeqAt.canLay_of_shaped h.2), h.1, h.2, q _ H (Same.refl H) (.bl _)⟩
    · cases e
  · cases e
theorem room65 {k : Nat} {A : Around} (hr : Room k A) : A.units + 65 < cLine := by have := hr.un; omega
section
variable {X : Cx} {a b : Expr} {pos : Pos} {F G : DG D}
theorem de_in (hu : X.A.units + 65 < cLine) (ha : DE X a F) (hb : DE X b G) (hm : behindInMarks .In b = false := by rfl) : DE X (.Compare a [.In] [b] pos) (dBin opIn F G) := de_cmp ((op_inD hu).or (op_inT hu)) od_in ha hb hm
theorem de_notin (hu : X.A.units + 65 < cLine) (ha : DE X a F) (hb : DE X b G) (hm : behindInMarks .NotIn b = false := by rfl) : DE X (.Compare a [.NotIn] [b] pos) (dBin opNotIn F G) := de_cmp ((op_notInD hu).or (op_notInT hu)) od_notin ha hb hm
theorem dt_in (hu : X.A.units + 65 < cLine) (ha : DE X a F) (hb : DE X b G) (hm : behindInMarks .In b = false := by rfl) : DT X (.Compare a [.In] [b] pos) (dUn asBool (dBin opIn F G)) := dt_cmp ((op_inD hu).or (op_inT hu)) od_in ha hb hm
theorem dt_notin (hu : X.A.units + 65 < cLine) (ha : DE X a F) (hb : DE X b G) (hm : behindInMarks .NotIn b = false := by rfl) : DT X (.Compare a [.NotIn] [b] pos) (dUn asBool (dBin opNotIn F G)) := dt_cmp ((op_notInD hu).or (op_notInT hu)) od_notin ha hb hm
end
/-! ### the law's own start: the source of draws -/
/-- _law_cells: a list of ints for a list of ints -/
def spCells (K : PySem.W.Frag) : Sp := fun vs H Q _ => ∃ (a : Addr) (ns : List Int), vs = [.ref a, .int 1] ∧ SqL K H a (ns.map V.int) ∧ ns.length ≤ 63 ∧ ∀ H' p (ms : List Int), Same H H' → H' p = some (.lst (ms.map V.int)) → ms.length ≤ 1000 → Q (.ref p) H'
/-- _law_box: two numbers from 0, the second below 2 ^ 62, and 0 -/
def spBox (K : PySem.W.Frag) : Sp := fun vs H Q _ => ∃ (a : Addr) (ns : List Int), vs = [.ref a, .int 0] ∧ SqL K H a (ns.map V.int) ∧ ns.length ≤ 1000 ∧ ∀ H' p (n m : Int), Same H H' → H' p = some (.lst [.int n, .int m, .int 0]) → 0 ≤ n → 0 ≤ m → m < 2 ^ 62 → Q (.ref p) H'
/-- what law(script) promises -/
def spLaw (K : PySem.W.Frag) : Sp := fun vs H Q _ => ∃ (a : Addr) (ns : List Int), vs = [.ref a] ∧ SqL K H a (ns.map V.int) ∧ ns.length ≤ 63 ∧ ∀ H', Q (.bl true) H'
/-- behind the first statement: the source stands at t -/
theorem law_start {K : PySem.W.Frag} {G : SG} {t : Addr} {H : Hp} {n m : Int} {σ : L2.St} {l i : Nat} {E : Ends} {T' : List D} (ht : H t = some (.lst [.int n, .int m, .int 0])) (hl : σ.length = l) (hi : σ[i]? = some (some (.ref t)))
    (hG : G ((List.replicate l .no).set i (.sh (.dict []))) [.int n, .int m, .int 0] = some (.rt (.bool true), T')) (hE : ∀ H', E.rt (.bl true) H') : tDS K G E σ H := by
  have e0 : Ev K ⟨t, H, fun b => b = t⟩ (fun b => b = t) σ (List.replicate l .no) H := by
    refine ⟨by rw [hl, List.length_replicate], fun j o s h1 h2 => ?_, fun j k a ds es _ _ h2 _ _ => ?_⟩
    · rw [List.getElem?_replicate] at h2
      split at h2
      · cases h2; exact .no
      · cases h2
    · rw [List.getElem?_replicate] at h2
      split at h2
      · cases h2
      · cases h2
  have e1 := e0.set (i := i) (v := .ref t) (d := .dict []) .tin
  rw [set_self hi] at e1
  refine ⟨⟨t, H, fun b => b = t⟩, _, _, fun b => b = t, ⟨rfl, ⟨_, ht, .cons (.int n) (.cons (.int m) (.cons (.int 0) .nil))⟩, fun _ _ h _ => h, fun _ h => h, fun _ h => .inl h, fun b h => by rw [h, ht]; exact fun z => nomatch z⟩, e1, _, T', hG, fun v H' O' w' _ r => ?_⟩
  rw [r.blE]
  exact hE H'
end DL
set_option Elab.async false
set_option linter.all false
set_option maxRecDepth 100000
set_option maxHeartbeats 4000000
/-! Dl9: running the data layer forward: Ex m P, m comes to a value of which P holds. -/
namespace DL
open PySem PySem.Spec PyProof.Rows L2
def Ex {α : Type} (m : Option (α × List D)) (P : α → List D → Prop) : Prop := ∃ a T', m = some (a, T') ∧ P a T'
theorem Ex.of {α : Type} {m : Option (α × List D)} {a : α} {T' : List D} {P : α → List D → Prop} (h : m = some (a, T')) (p : P a T') : Ex m P := ⟨a, T', h, p⟩
theorem Ex.imp {α : Type} {m : Option (α × List D)} {P Q : α → List D → Prop} (h : Ex m P) (f : ∀ a T', P a T' → Q a T') : Ex m Q := by
  obtain ⟨a, T', e, p⟩ := h
  exact ⟨a, T', e, f _ _ p⟩
theorem Ex.get {α : Type} {m : Option (α × List D)} {P : α → List D → Prop} (h : Ex m P) : ∃ a T', m = some (a, T') ∧ P a T' := h
section
variable {α β γ : Type} {f : DG D} {ρ ρ' : List Sl} {T : List D} {i : Nat} {d : D}
theorem w_var {P : D → List D → Prop} (h : ρ[i]? = some (.sh d)) (p : P d T) : Ex (dVar i ρ T) P := ⟨d, T, by unfold dVar; rw [h], p⟩
theorem w_c {P : D → List D → Prop} (p : P d T) : Ex (dC d ρ T) P := ⟨d, T, rfl, p⟩
theorem w_bin {op : α → β → Option γ} {f : DG α} {g : DG β} {P : γ → List D → Prop} (h : Ex (f ρ T) fun x T1 => Ex (g ρ T1) fun y T2 => ∃ d, op x y = some d ∧ P d T2) : Ex (dBin op f g ρ T) P := by
  obtain ⟨x, T1, e1, y, T2, e2, d, e3, p⟩ := h
  exact ⟨d, T2, by unfold dBin; rw [e1, Option.bind_some, e2, Option.bind_some, e3, Option.map_some], p⟩
theorem w_un {op : α → Option β} {f : DG α} {P : β → List D → Prop} (h : Ex (f ρ T) fun x T1 => ∃ d, op x = some d ∧ P d T1) : Ex (dUn op f ρ T) P := by
  obtain ⟨x, T1, e1, d, e3, p⟩ := h
  exact ⟨d, T1, by unfold dUn; rw [e1, Option.bind_some, e3, Option.map_some], p⟩
theorem w_nil {P : List D → List D → Prop} (p : P [] T) : Ex (dNil ρ T) P := ⟨[], T, rfl, p⟩
theorem w_cons {f : DG D} {g : DG (List D)} {P : List D → List D → Prop} (h : Ex (f ρ T) fun x T1 => Ex (g ρ T1) fun xs T2 => P (x :: xs) T2) : Ex (dCons f g ρ T) P := by
  refine w_bin (h.imp fun x T1 h => h.imp fun xs T2 p => ⟨_, rfl, p⟩)
theorem w_tup {f : DG (List D)} {P : D → List D → Prop} (h : Ex (f ρ T) fun ds T1 => small ds.length = true ∧ P (.tuple ds) T1) : Ex (dTup f ρ T) P := by
  refine w_un (h.imp fun ds T1 h => ⟨_, ?_, h.2⟩)
  rw [if_pos h.1]
theorem w_lst {f : DG (List D)} {P : List D → List D → Prop} (h : Ex (f ρ T) fun ds T1 => small ds.length = true ∧ P ds T1) : Ex (dLst f ρ T) P := by
  refine w_un (h.imp fun ds T1 h => ⟨_, ?_, h.2⟩)
  rw [if_pos h.1]
theorem w_ofF {f : DG (List D)} {P : D → List D → Prop} (h : Ex (f ρ T) fun ds T1 => P (.list ds) T1) : Ex (dOfF f ρ T) P := by
  obtain ⟨x, T1, e1, p⟩ := h
  exact ⟨_, T1, by unfold dOfF; rw [e1, Option.map_some], p⟩
theorem w_ix {f g : DG D} {P : D → List D → Prop} (h : Ex (f ρ T) fun x T1 => Ex (g ρ T1) fun y T2 => ∃ d, ixT x y T2 = some d ∧ P d T2) : Ex (dIx f g ρ T) P := by
  obtain ⟨x, T1, e1, y, T2, e2, d, e3, p⟩ := h
  refine ⟨d, T2, ?_, p⟩
  unfold dIx
  rw [e1, Option.bind_some, e2, Option.bind_some, e3, Option.map_some]
theorem w_sl {f : DG D} {l u : DG (Option Int)} {P : D → List D → Prop} (h : Ex (f ρ T) fun x T1 => Ex (l ρ T1) fun a T2 => Ex (u ρ T2) fun b T3 => ∃ d, opSl x a b = some d ∧ P d T3) : Ex (dSl f l u ρ T) P := by
  obtain ⟨x, T1, e1, a, T2, e2, b, T3, e3, d, e4, p⟩ := h
  exact ⟨d, T3, by unfold dSl; rw [e1, Option.bind_some, e2, Option.bind_some, e3, Option.bind_some, e4, Option.map_some], p⟩
theorem w_nopart {P : Option Int → List D → Prop} (p : P none T) : Ex (dNoPart ρ T) P := ⟨none, T, rfl, p⟩
theorem w_and {f g : DG Bool} {P : Bool → List D → Prop} (h : Ex (f ρ T) fun b T1 => if b = true then Ex (g ρ T1) P else P false T1) : Ex (dAnd f g ρ T) P := by
  obtain ⟨b, T1, e1, h⟩ := h
  cases b with
  | true =>
    rw [if_pos rfl] at h
    obtain ⟨c, T2, e2, p⟩ := h
    exact ⟨c, T2, by unfold dAnd; rw [e1, Option.bind_some]; exact e2, p⟩
  | false => exact ⟨false, T1, by unfold dAnd; rw [e1, Option.bind_some]; rfl, by simpa using h⟩
theorem w_or {f g : DG Bool} {P : Bool → List D → Prop} (h : Ex (f ρ T) fun b T1 => if b = true then P true T1 else Ex (g ρ T1) P) : Ex (dOr f g ρ T) P := by
  obtain ⟨b, T1, e1, h⟩ := h
  cases b with
  | true => exact ⟨true, T1, by unfold dOr; rw [e1, Option.bind_some]; rfl, by simpa using h⟩
  | false =>
    rw [if_neg Bool.false_ne_true] at h
    obtain ⟨c, T2, e2, p⟩ := h
    exact ⟨c, T2, by unfold dOr; rw [e1, Option.bind_some]; exact e2, p⟩
theorem w_not {f : DG Bool} {P : Bool → List D → Prop} (h : Ex (f ρ T) fun b T1 => P (!b) T1) : Ex (dNot f ρ T) P := by
  obtain ⟨b, T1, e1, p⟩ := h
  exact ⟨_, T1, by unfold dNot; rw [e1, Option.map_some], p⟩
theorem w_andV {f g : DG D} {P : D → List D → Prop} (h : Ex (f ρ T) fun x T1 => ∃ b, x = .bool b ∧ if b = true then Ex (g ρ T1) P else P (.bool false) T1) : Ex (dAndV f g ρ T) P := by
  obtain ⟨x, T1, e1, b, rfl, h⟩ := h
  cases b with
  | true =>
    rw [if_pos rfl] at h
    obtain ⟨c, T2, e2, p⟩ := h
    exact ⟨c, T2, by unfold dAndV; rw [e1, Option.bind_some]; exact e2, p⟩
  | false => exact ⟨_, T1, by unfold dAndV; rw [e1, Option.bind_some]; rfl, by simpa using h⟩
theorem w_orV {f g : DG D} {P : D → List D → Prop} (h : Ex (f ρ T) fun x T1 => ∃ b, x = .bool b ∧ if b = true then P (.bool true) T1 else Ex (g ρ T1) P) : Ex (dOrV f g ρ T) P := by
  obtain ⟨x, T1, e1, b, rfl, h⟩ := h
  cases b with
  | true => exact ⟨_, T1, by unfold dOrV; rw [e1, Option.bind_some]; rfl, by simpa using h⟩
  | false =>
    rw [if_neg Bool.false_ne_true] at h
    obtain ⟨c, T2, e2, p⟩ := h
    exact ⟨c, T2, by unfold dOrV; rw [e1, Option.bind_some]; exact e2, p⟩
theorem w_if {t : DG Bool} {f g : DG α} {P : α → List D → Prop} (h : Ex (t ρ T) fun b T1 => if b = true then Ex (f ρ T1) P else Ex (g ρ T1) P) : Ex (dIf t f g ρ T) P := by
  obtain ⟨b, T1, e1, h⟩ := h
  cases b with
  | true =>
    rw [if_pos rfl] at h
    obtain ⟨c, T2, e2, p⟩ := h
    exact ⟨c, T2, by unfold dIf; rw [e1, Option.bind_some]; exact e2, p⟩
  | false =>
    rw [if_neg Bool.false_ne_true] at h
    obtain ⟨c, T2, e2, p⟩ := h
    exact ⟨c, T2, by unfold dIf; rw [e1, Option.bind_some]; exact e2, p⟩
theorem w_call {F : List D → List D → Option (D × List D)} {a : DG (List D)} {P : D → List D → Prop} (h : Ex (a ρ T) fun ds T1 => Ex (F ds T1) P) : Ex (dCall F a ρ T) P := by
  obtain ⟨ds, T1, e1, d, T2, e2, p⟩ := h
  exact ⟨d, T2, by unfold dCall; rw [e1, Option.bind_some]; exact e2, p⟩
theorem w_isi {bs : List String} {P : D → List D → Prop} (h : Ex (f ρ T) fun x T1 => ∃ n, tyN x = some n ∧ P (.bool (isiAny n bs)) T1) : Ex (dIsi bs f ρ T) P :=
  w_un (h.imp fun x T1 ⟨n, h, p⟩ => ⟨_, by rw [h, Option.map_some], p⟩)
/-! comprehensions -/
theorem w_lc {I : DG (List D)} {vs : List Nat} {tg : D → List Sl → Option (List Sl)} {tt : DG Bool} {te : DG D} {P : List D → List D → Prop} (h : Ex (I ρ T) fun items T1 => small items.length = true ∧ Ex (lcGo tg tt te (wipeD ρ vs) items T1) P) : Ex (dLc I vs tg tt te ρ T) P := by
  obtain ⟨items, T1, e1, hs, d, T2, e2, p⟩ := h
  exact ⟨d, T2, by unfold dLc; rw [e1, Option.bind_some]; simp only; rw [if_pos hs]; exact e2, p⟩
theorem w_lcnil {tg : D → List Sl → Option (List Sl)} {tt : DG Bool} {te : DG D} {P : List D → List D → Prop} (p : P [] T) : Ex (lcGo tg tt te ρ [] T) P := ⟨[], T, rfl, p⟩
theorem w_lccons {tg : D → List Sl → Option (List Sl)} {tt : DG Bool} {te : DG D} {x : D} {xs : List D} {P : List D → List D → Prop}
    (h : ∃ ρ1, tg x ρ = some ρ1 ∧ Ex (tt ρ1 T) fun b T1 => if b = true then Ex (te ρ1 T1) fun y T2 => Ex (lcGo tg tt te ρ xs T2) fun ys T3 => P (y :: ys) T3 else Ex (lcGo tg tt te ρ xs T1) P) : Ex (lcGo tg tt te ρ (x :: xs) T) P := by
  obtain ⟨ρ1, e0, b, T1, e1, h⟩ := h
  cases b with
  | true =>
    rw [if_pos rfl] at h
    obtain ⟨y, T2, e2, ys, T3, e3, p⟩ := h
    exact ⟨_, T3, by unfold lcGo; rw [e0, Option.bind_some, e1, Option.bind_some, if_pos rfl, e2, Option.bind_some, e3, Option.map_some], p⟩
  | false =>
    rw [if_neg Bool.false_ne_true] at h
    obtain ⟨ys, T3, e3, p⟩ := h
    exact ⟨_, T3, by unfold lcGo; rw [e0, Option.bind_some, e1, Option.bind_some, if_neg Bool.false_ne_true, e3], p⟩
theorem w_yes {P : Bool → List D → Prop} (p : P true T) : Ex (dYes ρ T) P := ⟨true, T, rfl, p⟩
/-- each item by its value: a comprehension that leaves the source of draws -/
theorem w_lcmap {tg : D → List Sl → Option (List Sl)} {te : DG D} {g : D → D} {P : List D → List D → Prop} : ∀ {xs : List D}, (∀ x ∈ xs, ∃ ρ1, tg x ρ = some ρ1 ∧ te ρ1 T = some (g x, T)) → P (xs.map g) T → Ex (lcGo tg dYes te ρ xs T) P
  | [], _, p => w_lcnil p
  | x :: xs, h, p => by
    obtain ⟨ρ1, e0, e1⟩ := h x List.mem_cons_self
    refine w_lccons ⟨ρ1, e0, w_yes ?_⟩
    rw [if_pos rfl]
    exact .of e1 (w_lcmap (P := fun ys T' => P (g x :: ys) T') (fun y hy => h y (List.mem_cons_of_mem _ hy)) p)
end
/-! statements -/
section
variable {F G B : SG} {f : DG D} {ρ ρ' : List Sl} {T : List D} {i : Nat} {d : D} {P : Fl → List D → Prop}
def kSeq (G : SG) (P : Fl → List D → Prop) : Fl → List D → Prop
  | .nx ρ, T => Ex (G ρ T) P
  | .bk ρ, T => P (.bk ρ) T
  | .ct ρ, T => P (.ct ρ) T
  | .rt d, T => P (.rt d) T
theorem k_nx (h : Ex (G ρ T) P) : kSeq G P (.nx ρ) T := h
theorem k_rt (h : P (.rt d) T) : kSeq G P (.rt d) T := h
theorem w_seq (h : Ex (F ρ T) (kSeq G P)) : Ex (sSeq F G ρ T) P := by
  obtain ⟨fl, T1, e1, h⟩ := h
  cases fl with
  | nx ρ1 =>
    obtain ⟨c, T2, e2, p⟩ := h
    exact ⟨c, T2, by unfold sSeq; rw [e1, Option.bind_some]; exact e2, p⟩
  | bk ρ1 => exact ⟨_, T1, by unfold sSeq; rw [e1, Option.bind_some], h⟩
  | ct ρ1 => exact ⟨_, T1, by unfold sSeq; rw [e1, Option.bind_some], h⟩
  | rt d => exact ⟨_, T1, by unfold sSeq; rw [e1, Option.bind_some], h⟩
theorem w_snil (p : P (.nx ρ) T) : Ex (sNil ρ T) P := ⟨_, T, rfl, p⟩
theorem w_ret (h : Ex (f ρ T) fun d T1 => P (.rt d) T1) : Ex (sRet f ρ T) P := by
  obtain ⟨d, T1, e1, p⟩ := h
  exact ⟨_, T1, by unfold sRet; rw [e1, Option.map_some], p⟩
theorem w_retN (p : P (.rt .none) T) : Ex (sRetN ρ T) P := ⟨_, T, rfl, p⟩
theorem w_expr (h : Ex (f ρ T) fun _ T1 => P (.nx ρ) T1) : Ex (sExpr f ρ T) P := by
  obtain ⟨d, T1, e1, p⟩ := h
  exact ⟨_, T1, by unfold sExpr; rw [e1, Option.map_some], p⟩
theorem w_sif {b : DG Bool} (h : Ex (b ρ T) fun c T1 => if c = true then Ex (F ρ T1) P else Ex (G ρ T1) P) : Ex (sIf b F G ρ T) P := by
  obtain ⟨b, T1, e1, h⟩ := h
  cases b with
  | true =>
    rw [if_pos rfl] at h
    obtain ⟨c, T2, e2, p⟩ := h
    exact ⟨c, T2, by unfold sIf; rw [e1, Option.bind_some]; exact e2, p⟩
  | false =>
    rw [if_neg Bool.false_ne_true] at h
    obtain ⟨c, T2, e2, p⟩ := h
    exact ⟨c, T2, by unfold sIf; rw [e1, Option.bind_some]; exact e2, p⟩
theorem w_set (h : Ex (f ρ T) fun d T1 => P (.nx (ρ.set i (.sh d))) T1) : Ex (sSet i f ρ T) P := by
  obtain ⟨d, T1, e1, p⟩ := h
  exact ⟨_, T1, by unfold sSet; rw [e1, Option.map_some], p⟩
theorem w_setO {f : DG (List D)} (h : Ex (f ρ T) fun d T1 => P (.nx (ρ.set i (.ow d))) T1) : Ex (sSetO i f ρ T) P := by
  obtain ⟨d, T1, e1, p⟩ := h
  exact ⟨_, T1, by unfold sSetO; rw [e1, Option.map_some], p⟩
theorem w_asg {tg : D → List Sl → Option (List Sl)} (h : Ex (f ρ T) fun d T1 => ∃ ρ', tg d ρ = some ρ' ∧ P (.nx ρ') T1) : Ex (sAsg f tg ρ T) P := by
  obtain ⟨d, T1, e1, ρ', e2, p⟩ := h
  exact ⟨_, T1, by unfold sAsg; rw [e1, Option.bind_some]; simp only; rw [e2, Option.map_some], p⟩
theorem w_par {j : Nat} {A : DG (List D)} (h : Ex (A ρ T) fun ds T1 => ∃ x y, ds = [x, y] ∧ P (.nx ((ρ.set i (.sh x)).set j (.sh y))) T1) : Ex (sPar i j A ρ T) P := by
  obtain ⟨d, T1, e1, x, y, rfl, p⟩ := h
  exact ⟨_, T1, by unfold sPar; rw [e1, Option.bind_some], p⟩
theorem w_par3 {j l : Nat} {A : DG (List D)} (h : Ex (A ρ T) fun ds T1 => ∃ x y z, ds = [x, y, z] ∧ P (.nx (((ρ.set i (.sh x)).set j (.sh y)).set l (.sh z))) T1) : Ex (sPar3 i j l A ρ T) P := by
  obtain ⟨d, T1, e1, x, y, z, rfl, p⟩ := h
  exact ⟨_, T1, by unfold sPar3; rw [e1, Option.bind_some], p⟩
theorem w_aug {op : D → D → Option D} {x : D} (hx : ρ[i]? = some (.sh x)) (h : Ex (f ρ T) fun y T1 => ∃ z, op x y = some z ∧ P (.nx (ρ.set i (.sh z))) T1) : Ex (sAug i op f ρ T) P := by
  obtain ⟨y, T1, e1, z, e2, p⟩ := h
  exact ⟨_, T1, by unfold sAug; rw [hx]; simp only; rw [e1, Option.bind_some]; simp only; rw [e2, Option.map_some], p⟩
theorem w_app {ds : List D} (hx : ρ[i]? = some (.ow ds)) (h : Ex (f ρ T) fun y T1 => small (ds.length + 1) = true ∧ P (.nx (ρ.set i (.ow (ds ++ [y])))) T1) : Ex (sApp i f ρ T) P := by
  obtain ⟨y, T1, e1, e2, p⟩ := h
  exact ⟨_, T1, by unfold sApp; rw [hx]; simp only; rw [e1, Option.bind_some]; simp only; rw [if_pos e2], p⟩
theorem w_tin {g : DG D} (hx : ρ[i]? = some (.sh (.dict []))) (h : Ex (f ρ T) fun x T1 => Ex (g ρ T1) fun y T2 => ∃ k j, y = .int k ∧ ixN T2.length k = some j ∧ P (.nx ρ) (T2.set j x)) : Ex (sTin i f g ρ T) P := by
  obtain ⟨x, T1, e1, y, T2, e2, k, j, rfl, e3, p⟩ := h
  exact ⟨_, _, by unfold sTin; rw [hx]; simp only; rw [e1, Option.bind_some]; simp only; rw [e2, Option.bind_some]; simp only; rw [e3, Option.map_some], p⟩
theorem w_frz {ds : List D} (hx : ρ[i]? = some (.ow ds)) (h : Ex (G (ρ.set i (.sh (.list ds))) T) P) : Ex (sFrz i G ρ T) P := by
  obtain ⟨y, T1, e1, p⟩ := h
  exact ⟨_, T1, by unfold sFrz; rw [hx]; exact e1, p⟩
/-- a for's turn -/
def kFor (tg : D → List Sl → Option (List Sl)) (B : SG) (xs : List D) (P : Fl → List D → Prop) : Fl → List D → Prop
  | .nx ρ, T => Ex (forGo tg B xs ρ T) P
  | .ct ρ, T => Ex (forGo tg B xs ρ T) P
  | .bk ρ, T => P (.nx ρ) T
  | .rt d, T => P (.rt d) T
theorem w_for {I : DG (List D)} {tg : D → List Sl → Option (List Sl)} (h : Ex (I ρ T) fun items T1 => Ex (forGo tg B items ρ T1) P) : Ex (sFor I tg B ρ T) P := by
  obtain ⟨items, T1, e1, d, T2, e2, p⟩ := h
  exact ⟨d, T2, by unfold sFor; rw [e1, Option.bind_some]; exact e2, p⟩
theorem w_fornil {tg : D → List Sl → Option (List Sl)} (p : P (.nx ρ) T) : Ex (forGo tg B [] ρ T) P := ⟨_, T, rfl, p⟩
theorem w_forcons {tg : D → List Sl → Option (List Sl)} {x : D} {xs : List D} (h : ∃ ρ1, tg x ρ = some ρ1 ∧ Ex (B ρ1 T) (kFor tg B xs P)) : Ex (forGo tg B (x :: xs) ρ T) P := by
  obtain ⟨ρ1, e0, fl, T1, e1, h⟩ := h
  cases fl with
  | nx ρ2 =>
    obtain ⟨c, T2, e2, p⟩ := h
    exact ⟨c, T2, by unfold forGo; rw [e0, Option.bind_some, e1, Option.bind_some]; exact e2, p⟩
  | ct ρ2 =>
    obtain ⟨c, T2, e2, p⟩ := h
    exact ⟨c, T2, by unfold forGo; rw [e0, Option.bind_some, e1, Option.bind_some]; exact e2, p⟩
  | bk ρ2 => exact ⟨_, T1, by unfold forGo; rw [e0, Option.bind_some, e1, Option.bind_some], h⟩
  | rt d => exact ⟨_, T1, by unfold forGo; rw [e0, Option.bind_some, e1, Option.bind_some], h⟩
theorem kf_nx {tg : D → List Sl → Option (List Sl)} {xs : List D} (h : Ex (forGo tg B xs ρ T) P) : kFor tg B xs P (.nx ρ) T := h
theorem kf_ct {tg : D → List Sl → Option (List Sl)} {xs : List D} (h : Ex (forGo tg B xs ρ T) P) : kFor tg B xs P (.ct ρ) T := h
theorem kf_rt {tg : D → List Sl → Option (List Sl)} {xs : List D} (h : P (.rt d) T) : kFor tg B xs P (.rt d) T := h
/-- a for by an invariant, its turns all run through; the part that is left counts -/
theorem w_forinv {tg : D → List Sl → Option (List Sl)} (J : List D → List Sl → List D → Prop) (hs : ∀ x xs ρ T, J (x :: xs) ρ T → ∃ ρ1, tg x ρ = some ρ1 ∧ Ex (B ρ1 T) fun fl T1 => match fl with | .nx ρ2 => J xs ρ2 T1 | .ct ρ2 => J xs ρ2 T1 | .bk ρ2 => P (.nx ρ2) T1 | .rt d => P (.rt d) T1)
    (hd : ∀ ρ T, J [] ρ T → P (.nx ρ) T) : ∀ {items : List D} {ρ : List Sl} {T : List D}, J items ρ T → Ex (forGo tg B items ρ T) P
  | [], ρ, T, h => w_fornil (hd ρ T h)
  | x :: xs, ρ, T, h => by
    obtain ⟨ρ1, e0, e1⟩ := hs x xs ρ T h
    refine w_forcons ⟨ρ1, e0, e1.imp fun fl T1 q => ?_⟩
    cases fl with
    | nx ρ2 => exact w_forinv J hs hd q
    | ct ρ2 => exact w_forinv J hs hd q
    | bk ρ2 => exact q
    | rt d => exact q
/-- a while by an invariant that counts down -/
theorem w_whinv {c : DG Bool} (J : Nat → List Sl → List D → Prop) (hs : ∀ m ρ T, J m ρ T → Ex (c ρ T) fun b T1 => if b = true then Ex (B ρ T1) fun fl T2 => match fl with | .nx ρ2 => ∃ m', m' < m ∧ J m' ρ2 T2 | .ct ρ2 => ∃ m', m' < m ∧ J m' ρ2 T2 | .bk ρ2 => P (.nx ρ2) T2 | .rt d => P (.rt d) T2 else P (.nx ρ) T1) :
    ∀ {n m : Nat} {ρ : List Sl} {T : List D}, m < n → J m ρ T → Ex (whGo c B n ρ T) P
  | 0, _, _, _, h, _ => absurd h (Nat.not_lt_zero _)
  | n + 1, m, ρ, T, hm, h => by
    obtain ⟨b, T1, e1, h⟩ := hs m ρ T h
    cases b with
    | true =>
      rw [if_pos rfl] at h
      obtain ⟨fl, T2, e2, h⟩ := h
      cases fl with
      | nx ρ2 =>
        obtain ⟨m', hm', h⟩ := h
        obtain ⟨d, T3, e3, p⟩ := w_whinv J hs (n := n) (by omega) h
        exact ⟨d, T3, by unfold whGo; rw [e1, Option.bind_some, if_pos rfl, e2, Option.bind_some]; exact e3, p⟩
      | ct ρ2 =>
        obtain ⟨m', hm', h⟩ := h
        obtain ⟨d, T3, e3, p⟩ := w_whinv J hs (n := n) (by omega) h
        exact ⟨d, T3, by unfold whGo; rw [e1, Option.bind_some, if_pos rfl, e2, Option.bind_some]; exact e3, p⟩
      | bk ρ2 => exact ⟨_, T2, by unfold whGo; rw [e1, Option.bind_some, if_pos rfl, e2, Option.bind_some], h⟩
      | rt d => exact ⟨_, T2, by unfold whGo; rw [e1, Option.bind_some, if_pos rfl, e2, Option.bind_some], h⟩
    | false =>
      rw [if_neg Bool.false_ne_true] at h
      exact ⟨_, T1, by unfold whGo; rw [e1, Option.bind_some, if_neg Bool.false_ne_true], h⟩
theorem w_wh {φ : List Sl → List D → Nat} {c : DG Bool} (h : Ex (whGo c B (φ ρ T) ρ T) P) : Ex (sWh φ c B ρ T) P := h
/-- a def's body -/
theorem w_body {n m : Nat} {ds : List D} {Q : D → List D → Prop} (hm : ds.length = m) (h : Ex (G (ρ0 n ds) T) fun fl T' => match fl with | .rt d => Q d T' | .nx _ => Q .none T' | _ => False) : Ex (bodyF n m G ds T) Q := by
  obtain ⟨fl, T1, e1, h⟩ := h
  cases fl with
  | rt d => exact ⟨d, T1, by unfold bodyF; rw [if_pos hm, e1], h⟩
  | nx ρ => exact ⟨.none, T1, by unfold bodyF; rw [if_pos hm, e1], h⟩
  | bk ρ => exact h.elim
  | ct ρ => exact h.elim
end
theorem mul_ok {i j : Int} (h : mulC i j = true) : opMul (.int i) (.int j) = some (.int (i * j)) := by
  show (if mulC i j = true then some (PyData.int (i * j)) else none) = _
  rw [if_pos h]
theorem eq_int (i j : Int) : opEq (.int i) (.int j) = some (.bool (decide (i = j))) := by
  unfold opEq
  rw [show (SeqAt.shaped (PyData.int i) && SeqAt.shaped (PyData.int j)) = true from rfl, if_pos rfl]
  rfl
theorem ne_int (i j : Int) : opNe (.int i) (.int j) = some (.bool (!decide (i = j))) := by
  unfold opNe
  rw [show (SeqAt.shaped (PyData.int i) && SeqAt.shaped (PyData.int j)) = true from rfl, if_pos rfl]
  rfl
theorem eq_any {x y : D} (hx : SeqAt.shaped x = true) (hy : SeqAt.shaped y = true) : opEq x y = some (.bool (PyData.eqv x y)) := by
  unfold opEq
  rw [hx, hy]
  rfl
theorem ne_any {x y : D} (hx : SeqAt.shaped x = true) (hy : SeqAt.shaped y = true) : opNe x y = some (.bool (!PyData.eqv x y)) := by
  unfold opNe
  rw [hx, hy]
  rfl
theorem fdiv_ok {i j : Int} (h : divC i j = true) : opFdiv (.int i) (.int j) = some (.int (i / j)) := by
  show (if divC i j = true then some (PyData.int (i / j)) else none) = _
  rw [if_pos h]
theorem mod_ok {i j : Int} (h : 0 < j) : opMod (.int i) (.int j) = some (.int (i % j)) := by
  show (if decide (0 < j) = true then some (PyData.int (i % j)) else none) = _
  rw [if_pos (decide_eq_true h)]
theorem rng1 {j : Int} (h0 : 0 ≤ j) (h : j < 4611686018427387904) : asRng1 [.int j] = some ((List.range j.toNat).map fun i => .int (i : Nat)) := by
  show (if -(2 ^ 62) ≤ j ∧ j < 2 ^ 62 then some ((List.range j.toNat).map fun i => PyData.int (i : Nat)) else none) = _
  rw [if_pos (by omega)]
theorem ite_t {b : Bool} {A B : Prop} (h : b = true) (p : A) : if b = true then A else B := by rw [if_pos h]; exact p
theorem ite_f {b : Bool} {A B : Prop} (h : b = false) (p : B) : if b = true then A else B := by rw [if_neg (by rw [h]; exact Bool.false_ne_true)]; exact p
theorem ite_s {b : Bool} {A B : Prop} (p : b = true → A) (q : b = false → B) : if b = true then A else B := by
  cases b with
  | true => rw [if_pos rfl]; exact p rfl
  | false => rw [if_neg Bool.false_ne_true]; exact q rfl
end DL
set_option Elab.async false
set_option linter.all false
set_option maxRecDepth 100000
set_option maxHeartbeats 4000000
/-! Dl10: what is raised: defs that return a value or let an exception out (told by its name); try .. except, defs called within an except suite; is beside True and False. -/
namespace DL
open PySem PySem.Spec PyProof.Rows L2

/-! ### is, beside a truth -/
def opIs : D → D → Option D
  | x, .none => some (.bool (isNone x))
  | .bool a, .bool b => some (.bool (a == b))
  | _, _ => none
def opIsnt : D → D → Option D
  | x, .none => some (.bool (!isNone x))
  | .bool a, .bool b => some (.bool (!(a == b)))
  | _, _ => none
def rIsB : R2 := fun x y H Q => ∃ a b, x = .bl a ∧ y = .bl b ∧ Q (.bl (a == b)) H
def rIsntB : R2 := fun x y H Q => ∃ a b, x = .bl a ∧ y = .bl b ∧ Q (.bl (!(a == b))) H
theorem op_isB {X : Cx} : OpR X (compareOp .Is) rIsB := by
  intro pins s σ H x y v u Q I rx ry h
  obtain ⟨a, b, rfl, rfl, q⟩ := h
  cases rx
  cases ry
  exact wpAny_pure (fin_bl I q (by cases a <;> cases b <;> rfl))
theorem op_isntB {X : Cx} : OpR X (compareOp .IsNot) rIsntB := by
  intro pins s σ H x y v u Q I rx ry h
  obtain ⟨a, b, rfl, rfl, q⟩ := h
  cases rx
  cases ry
  exact wpAny_pure (fin_bl I q (by cases a <;> cases b <;> rfl))
theorem od_is {K : PySem.W.Frag} : OpD K (fun x y H Q => (y = .non ∧ Q (.bl (decide (x = .non))) H) ∨ rIsB x y H Q) opIs := by
  intro H t O vx vy x y d Q al rx ry e q
  unfold opIs at e
  split at e
  · cases ry
    cases e
    exact .inl ⟨rfl, q _ H (Same.refl H) (by rw [isNone_ok rx]; exact .bl _)⟩
  · cases rx
    cases ry
    cases e
    exact .inr ⟨_, _, rfl, rfl, q _ H (Same.refl H) (.bl _)⟩
  · cases e
theorem od_isnt {K : PySem.W.Frag} : OpD K (fun x y H Q => (y = .non ∧ Q (.bl (!decide (x = .non))) H) ∨ rIsntB x y H Q) opIsnt := by
  intro H t O vx vy x y d Q al rx ry e q
  unfold opIsnt at e
  split at e
  · cases ry
    cases e
    exact .inl ⟨rfl, q _ H (Same.refl H) (by rw [isNone_ok rx]; exact .bl _)⟩
  · cases rx
    cases ry
    cases e
    exact .inr ⟨_, _, rfl, rfl, q _ H (Same.refl H) (.bl _)⟩
  · cases e
section
variable {X : Cx} {a b : Expr} {pos : Pos} {F G : DG D}
theorem de_is (ha : DE X a F) (hb : DE X b G) : DE X (.Compare a [.Is] [b] pos) (dBin opIs F G) := de_cmp (op_isN.or op_isB) od_is ha hb (nomark _)
theorem de_isnt (ha : DE X a F) (hb : DE X b G) : DE X (.Compare a [.IsNot] [b] pos) (dBin opIsnt F G) := de_cmp (op_notN.or op_isntB) od_isnt ha hb (nomark _)
theorem dt_is (ha : DE X a F) (hb : DE X b G) : DT X (.Compare a [.Is] [b] pos) (dUn asBool (dBin opIs F G)) := dt_cmp (op_isN.or op_isB) od_is ha hb (nomark _)
theorem dt_isnt (ha : DE X a F) (hb : DE X b G) : DT X (.Compare a [.IsNot] [b] pos) (dUn asBool (dBin opIsnt F G)) := dt_cmp (op_notN.or op_isntB) od_isnt ha hb (nomark _)
end

/-! ### what is raised -/
inductive Xl where
  | nr (fl : Fl) | xc (x : Str) (ρ : List Sl)
abbrev XG := List Sl → List D → Option (Xl × List D)
inductive Re where
  | ok (d : D) | er (x : Str)
abbrev XF := List D → List D → Option (Re × List D)
def XlK (K : PySem.W.Frag) (mg : Str → Option Value) (W : WX) (c : Ctx) (O : Addr → Prop) (H : Hp) (xl : Xl) (T' : List D) (E : Ends) : Prop := match xl with
  | .nr fl => FlK K c O H fl T' E
  | .xc x ρ' => ∀ C d σ' H' O', mg x = some (.ref C) → Wd K c O' T' H' → Ev K c O' σ' ρ' H' → TrS c O H O' H' → W (.ref C) d σ' H'
def tXS (K : PySem.W.Frag) (mg : Str → Option Value) (W : WX) (G : XG) : TS := fun E σ H => ∃ c ρ T O, Wd K c O T H ∧ Ev K c O σ ρ H ∧ ∃ xl T', G ρ T = some (xl, T') ∧ XlK K mg W c O H xl T' E
structure XS (X : Cx) (W : WX) (st : Stmt) (G : XG) : Prop where
  p : PS X st (tXS X.K X.mg W G)
structure XSs (X : Cx) (W : WX) (st : List Stmt) (G : XG) : Prop where
  p : PSs X st (tXS X.K X.mg W G)
theorem XlK.step {K : PySem.W.Frag} {mg : Str → Option Value} {W : WX} {c : Ctx} {O O1 : Addr → Prop} {H H1 : Hp} {xl : Xl} {T' : List D} {E : Ends} (t : TrS c O H O1 H1) (k : XlK K mg W c O H xl T' E) : XlK K mg W c O1 H1 xl T' E := by
  cases xl with
  | nr fl => exact FlK.step t k
  | xc x ρ => exact fun C d σ' H' O' hm w e t2 => k C d σ' H' O' hm w e (t.trans t2)
section
variable {X : Cx} {W : WX} {st : Stmt} {sts rest : List Stmt} {e : Expr} {pos : Pos} {G : XG} {f : DG D}
def xLift (F : SG) : XG := fun ρ T => (F ρ T).map fun p => (.nr p.1, p.2)
theorem xs_lift {F : SG} (h : DS X st F) : XS X W st (xLift F) := ⟨PS.imp h.p fun E σ H ⟨c, ρ, T, O, w, ev, xl, T', hG, k⟩ => by
  obtain ⟨⟨fl, T1⟩, h1, h2⟩ := Option.map_eq_some_iff.mp hG
  cases h2
  exact ⟨c, ρ, T, O, w, ev, fl, T1, h1, k⟩⟩
theorem xss_lift {F : SG} (h : DSs X sts F) : XSs X W sts (xLift F) := ⟨PSs.imp h.p fun E σ H ⟨c, ρ, T, O, w, ev, xl, T', hG, k⟩ => by
  obtain ⟨⟨fl, T1⟩, h1, h2⟩ := Option.map_eq_some_iff.mp hG
  cases h2
  exact ⟨c, ρ, T, O, w, ev, fl, T1, h1, k⟩⟩
def xSeq (F G : XG) : XG := fun ρ T => (F ρ T).bind fun p => match p.1 with
  | .nr (.nx ρ') => G ρ' p.2
  | o => some (o, p.2)
theorem xss_cons {F : XG} (h1 : XS X W st F) (h2 : XSs X W rest G) : XSs X W (st :: rest) (xSeq F G) := ⟨PSs.imp (pss_cons h1.p h2.p) fun E σ H ⟨c, ρ, T, O, w, ev, xl, T', hG, k⟩ => by
  obtain ⟨⟨f1, T1⟩, h1, h2⟩ := Option.bind_eq_some_iff.mp hG
  refine ⟨c, ρ, T, O, w, ev, f1, T1, h1, ?_⟩
  cases f1 with
  | nr fl =>
    cases fl with
    | nx ρ1 => exact fun σ1 H1 O1 w1 e1 t1 => ⟨c, ρ1, T1, O1, w1, e1, xl, T', h2, k.step t1⟩
    | bk ρ1 => cases h2; exact k
    | ct ρ1 => cases h2; exact k
    | rt d => cases h2; exact k
  | xc x ρ1 => cases h2; exact k⟩
theorem xss_one (h1 : XS X W st G) : XSs X W [st] G := ⟨PSs.imp (pss_one h1.p) fun E σ H h => h⟩
def xIf (b : DG Bool) (F G : XG) : XG := fun ρ T => (b ρ T).bind fun p => if p.1 = true then F ρ p.2 else G ρ p.2
theorem xs_if {a b : List Stmt} {B : DG Bool} {F : XG} (hc : DT X e B) (ha : XSs X W a F) (hb : XSs X W b G) : XS X W (.If e a b pos) (xIf B F G) := ⟨PS.imp (ps_if hc.p ha.p hb.p) fun E σ H ⟨c, ρ, T, O, w, ev, xl, T', hG, k⟩ => by
  obtain ⟨⟨b, T1⟩, h1, h2⟩ := Option.bind_eq_some_iff.mp hG
  refine ⟨c, ρ, T, O, w, ev, b, T1, h1, fun H1 O1 w1 e1 t1 => ?_⟩
  cases b with
  | true =>
    rw [if_pos rfl] at h2 ⊢
    exact ⟨c, ρ, T1, O1, w1, e1, xl, T', h2, k.step t1.s⟩
  | false =>
    rw [if_neg Bool.false_ne_true] at h2 ⊢
    exact ⟨c, ρ, T1, O1, w1, e1, xl, T', h2, k.step t1.s⟩⟩
def xRaise (x : Str) : XG := fun ρ T => some (.xc x ρ, T)
theorem xs_raise {x : Str} {C : Addr} (hc : X.calm = true) (tk : L2N.Takes X W) (hm : X.mg x = some (.ref C)) (he : L2N.PMk X e fun _ H Q => Q (.ref C) none H) : XS X W (.Raise (some e) none pos) (xRaise x) := ⟨PS.imp (L2N.ps_raise hc tk he) fun E σ H ⟨c, ρ, T, O, w, ev, xl, T', hG, k⟩ => by
  cases hG
  exact k C none σ H O hm w ev (TrS.refl w.ot)⟩

/-! calls -/
def spX (K : PySem.W.Frag) (mg : Str → Option Value) (n : Nat) (F : XF) : Sp := fun vs H Q E => vs.length = n ∧ ∃ t O ds T r T', O t ∧ (∃ xs, H t = some (.lst xs) ∧ RA K H t O xs T) ∧ (∀ b, O b → H b ≠ none) ∧ RA K H t O vs ds ∧ F ds T = some (r, T') ∧ match r with
  | .ok d => ∀ v H', (∀ b o, H b = some o → b ≠ t → H' b = some o) → (∃ xs, H' t = some (.lst xs) ∧ RA K H' t O xs T') → R K H' t O v d → Q v H'
  | .er x => ∀ C dd H', mg x = some (.ref C) → (∀ b o, H b = some o → b ≠ t → H' b = some o) → (∃ xs, H' t = some (.lst xs) ∧ RA K H' t O xs T') → E (.ref C) dd H'
abbrev XE1 := List Sl → List D → Option (Re × List D)
def tXE (K : PySem.W.Frag) (mg : Str → Option Value) (W : WX) (G : XE1) : TE := fun σ H Q => ∃ c ρ T O, Wd K c O T H ∧ Ev K c O σ ρ H ∧ ∃ r T', G ρ T = some (r, T') ∧ match r with
  | .ok d => KV K c O σ ρ H d T' Q
  | .er x => ∀ C dd H' O', mg x = some (.ref C) → Wd K c O' T' H' → Ev K c O' σ ρ H' → Tr c O H O' H' → W (.ref C) dd σ H'
structure XE (X : Cx) (W : WX) (e : Expr) (G : XE1) : Prop where
  p : PE X e (tXE X.K X.mg W G)
def xCall (F : XF) (A : DG (List D)) : XE1 := fun ρ T => (A ρ T).bind fun p => F p.1 p.2
theorem xe_call {k n : Nat} {f : Addr} {fd : FuncData} {ps : List Str} {F : XF} {x : Str} {p : Pos} {es : List Expr} {A : DG (List D)} (Fn : FnOk X.prog X.w X.K X.mg X.base (L2N.CX X.prog X.w) k f fd ps (spX X.K X.mg n F)) (hr : Room k X.A) (hg : Gl X x) (hm : X.mg x = some (.ref f)) (hk : PySem.W.keepIn X.K (.ref f) = true) (hb : Binds X.K fd ps []) (tk : L2N.Takes X W)
    (ha : DA X (e :: es) A) (hlen : ∀ ρ T ds T', A ρ T = some (ds, T') → ds.length = n)
    (hd : (x == ("__debug__" : Str)) = false := by decide) (he : starEach (e :: es) X.env = (false, eval e X.env) :: starEach es X.env := by rfl) (hpl : (backTo pos (starEach es X.env)).any (·.1) = false := by rfl) : XE X W (.Call (.Name x p) (e :: es) [] pos) (xCall F A) := by
  refine ⟨PE.imp (pe_callS Fn hr hg hm hk hb (fun σ => L2N.passAt tk σ) ha.p hd he hpl) fun σ H Q h => ?_⟩
  obtain ⟨c, ρ, T, O, w, ev, r, T', hG, k⟩ := h
  obtain ⟨⟨ds, T1⟩, h1, h2⟩ := Option.bind_eq_some_iff.mp hG
  refine ⟨c, ρ, T, O, w, ev, ds, T1, h1, fun vs H1 O1 w1 e1 t1 r1 => ?_⟩
  refine ⟨by rw [r1.length]; exact hlen _ _ _ _ h1, c.t, O1, ds, T1, r, T', w1.ot, w1.tin, w1.al, r1, h2, ?_⟩
  cases r with
  | ok d =>
    intro v H' kp tn rv
    have t2 : Tr c O1 H1 O1 H' := ⟨w1.ot, kp, fun _ h => h, fun _ h => .inl h⟩
    exact k v H' O1 (w1.call kp tn) (t2.ev w1 e1) (t1.trans t2) rv
  | er y =>
    intro C dd H' hm kp tn
    have t2 : Tr c O1 H1 O1 H' := ⟨w1.ot, kp, fun _ h => h, fun _ h => .inl h⟩
    exact k C dd H' O1 hm (w1.call kp tn) (t2.ev w1 e1) (t1.trans t2)
def xRet (g : XE1) : XG := fun ρ T => (g ρ T).map fun p => match p.1 with
  | .ok d => (.nr (.rt d), p.2)
  | .er x => (.xc x ρ, p.2)
theorem xs_ret {g : XE1} (h : XE X W e g) : XS X W (.Return (some e) pos) (xRet g) := ⟨PS.imp (ps_ret h.p) fun E σ H ⟨c, ρ, T, O, w, ev, xl, T', hG, k⟩ => by
  obtain ⟨⟨r, T1⟩, h1, h2⟩ := Option.map_eq_some_iff.mp hG
  cases r with
  | ok d =>
    cases h2
    exact ⟨c, ρ, T, O, w, ev, _, T1, h1, fun v H' O' w' e' t' r' => k v H' O' w' t'.s r'⟩
  | er x =>
    cases h2
    exact ⟨c, ρ, T, O, w, ev, _, T1, h1, fun C dd H' O' hm w' e' t' => k C dd σ H' O' hm w' e' t'.s⟩⟩
def xExpr (g : XE1) : XG := fun ρ T => (g ρ T).map fun p => match p.1 with
  | .ok d => (.nr (.nx ρ), p.2)
  | .er x => (.xc x ρ, p.2)
theorem xs_expr {g : XE1} (h : XE X W e g) (hs : swapsWith e none pos.line X.env = pure false := by rfl) : XS X W (.Expr e pos) (xExpr g) := ⟨PS.imp (ps_expr h.p hs) fun E σ H ⟨c, ρ, T, O, w, ev, xl, T', hG, k⟩ => by
  obtain ⟨⟨r, T1⟩, h1, h2⟩ := Option.map_eq_some_iff.mp hG
  cases r with
  | ok d =>
    cases h2
    exact ⟨c, ρ, T, O, w, ev, _, T1, h1, fun v H' O' w' e' t' r' => k σ H' O' w' e' t'.s⟩
  | er x =>
    cases h2
    exact ⟨c, ρ, T, O, w, ev, _, T1, h1, fun C dd H' O' hm w' e' t' => k C dd σ H' O' hm w' e' t'.s⟩⟩
def xSet (i : Nat) (g : XE1) : XG := fun ρ T => (g ρ T).map fun p => match p.1 with
  | .ok d => (.nr (.nx (ρ.set i (.sh d))), p.2)
  | .er x => (.xc x ρ, p.2)
theorem xs_set {i : Nat} {x : Str} {pos' : Pos} {g : XE1} (hN : X.N.Nodup) (hi : X.N[i]? = some x) (hx : Loc X.env.scope x) (h : XE X W e g) (hs : swapsWith e (some (.Name x pos')) pos.line X.env = pure false := by rfl) (hf : X.fn x = true ∨ X.env.scope.names.lookup x = some .local := by first | exact .inl rfl | exact .inr rfl | assumption) :
    XS X W (.Assign [.Name x pos'] e pos) (xSet i g) := ⟨PS.imp (ps_set hN hi hx h.p hs hf) fun E σ H ⟨c, ρ, T, O, w, ev, xl, T', hG, k⟩ => by
  obtain ⟨⟨r, T1⟩, h1, h2⟩ := Option.map_eq_some_iff.mp hG
  cases r with
  | ok d =>
    cases h2
    exact ⟨c, ρ, T, O, w, ev, _, T1, h1, fun v H' O' w' e' t' r' => k _ H' O' w' (e'.set r') t'.s⟩
  | er x =>
    cases h2
    exact ⟨c, ρ, T, O, w, ev, _, T1, h1, fun C dd H' O' hm w' e' t' => k C dd σ H' O' hm w' e' t'.s⟩⟩
end
/-! a def that may raise -/
def bodyX (n m : Nat) (G : XG) : XF := fun ds T => if ds.length = m then
    match G (ρ0 n ds) T with
    | some (.nr (.rt d), T') => some (.ok d, T')
    | some (.nr (.nx _), T') => some (.ok .none, T')
    | some (.xc x _, T') => some (.er x, T')
    | _ => none
  else none
theorem ok_defX {P : Program} {w : World} {K : PySem.W.Frag} {mg : Str → Option Value} {base : Heap} {x qual : Str} {st : Stmt} {f : Addr} {fd : FuncData} {N ps : List Str} {n m : Nat} (k : Nat) (G : XG) (Fn : Fun K x qual st f fd) (S : FnScope N ps (defScope st)) (hn : N.length = n) (hm : ps.length = m)
    (hb : ∀ (cdv : Value) (A : Around) (outer : List Env) (s : Shared) (H : Hp) (E : XK), Room k (A.deeper (envOfC qual (defScope st) s.heap.objs.size f cdv)) → L2N.Takes (cxOf (L2N.CX P w) P w K mg base N qual (defScope st) f cdv A outer s H E) (fun cls d _ H => E cls d H) →
      XSs (cxOf (L2N.CX P w) P w K mg base N qual (defScope st) f cdv A outer s H E) (fun cls d _ H => E cls d H) (defBody st) G) :
    FnOk P w K mg base (L2N.CX P w) (k + 1) f fd ps (spX K mg m (bodyX n m G)) := by
  subst hn
  subst hm
  obtain ⟨oc, od, kV, doc, pm, an, cdv, ct, osl, rfl, lk, hcd⟩ := Fn.ex
  refine fn_of lk hcd S (fun vs H Q E h => h.1) fun A outer s H vs Q E hr h => ⟨_, (hb cdv A outer s H E hr (L2N.takes_of rfl rfl rfl rfl)).p, ?_⟩
  obtain ⟨hl, t, O, ds, T, r, T', ot, tn, al, ra, hF, k⟩ := h
  unfold bodyX at hF
  split at hF
  case isFalse => cases hF
  have w0 : Wd K ⟨t, H, O⟩ O T H := ⟨ot, tn, fun _ _ h _ => h, fun _ h => h, fun _ h => .inl h, al⟩
  refine ⟨⟨t, H, O⟩, ρ0 N.length ds, T, O, w0, ev_start ra, ?_⟩
  split at hF
  · rename_i d1 T1 e1
    cases hF
    refine ⟨_, _, e1, fun v H' O' w' t' r' => k v H' w'.kp ?_ (r'.less w'.up)⟩
    obtain ⟨xs, h1, h2⟩ := w'.tin
    exact ⟨xs, h1, h2.less w'.up⟩
  · rename_i ρ1 T1 e1
    cases hF
    refine ⟨_, _, e1, fun σ' H' O' w' e' t' => k .non H' w'.kp ?_ .non⟩
    obtain ⟨xs, h1, h2⟩ := w'.tin
    exact ⟨xs, h1, h2.less w'.up⟩
  · rename_i x1 ρ1 T1 e1
    cases hF
    refine ⟨_, _, e1, fun C d σ' H' O' hm w' e' t' => k C d H' hm w'.kp ?_⟩
    obtain ⟨xs, h1, h2⟩ := w'.tin
    exact ⟨xs, h1, h2.less w'.up⟩
  · cases hF
/-! try .. except -/
def sTry (x : Str) (G : XG) (F : SG) : SG := fun ρ T => (G ρ T).bind fun p => match p.1 with
  | .nr fl => some (fl, p.2)
  | .xc y ρ1 => if y = x then F ρ1 p.2 else none
theorem ds_try {X : Cx} {x : Str} {C : Addr} {body suite : List Stmt} {b0 : Stmt} {np pos pos' : Pos} {G : XG} {F : SG} (hs : X.stack = X.env :: X.outer) (hf : X.env.frame = some X.env.locals) (hc : Names X x (.ref C)) (hm : X.mg x = some (.ref C)) (hx : PySem.W.exmOne X.K (.ref C) (.ref C) = some true)
    (hpa : ∀ hd : Option Value, PassesOwnAt (model X.prog X.w) (X.A.mark hd) X.A X.env X.xe)
    (hb : ∀ (W : WX) (pn : List (Addr × Obj)) (xe : Value → Shared → Prop), L2N.Takes (X.tr pn xe) W → PassesOwn (model X.prog X.w) X.A X.env xe → XSs (X.tr pn xe) W body G)
    (hsu : ∀ (a : Addr) (pn : List (Addr × Obj)), L2H.HotC (L2H.suiteX X a pn) → DSs (L2H.suiteX X a pn) (b0 :: suite) F) :
    DS X (.Try body [.ExceptHandler (some (.Name x np)) none (b0 :: suite) pos'] [] [] pos) (sTry x G F) := by
  refine ⟨PS.imp (L2H.ps_try_onlyX (tb := fun W => tXS X.K X.mg W G) (ts := fun _ _ _ => tDS X.K F) (Wout := fun _ _ _ _ => False) hs hf hc hpa takes0 (fun W pn xe tk _ hp => (hb W pn xe tk hp).p) (fun a oe cls d pn _ _ _ hot => (hsu a _ hot).p)) fun E σ H ⟨c, ρ, T, O, w, ev, fl, T', hG, k⟩ => ?_⟩
  obtain ⟨⟨xl, T1⟩, h1, h2⟩ := Option.bind_eq_some_iff.mp hG
  refine ⟨c, ρ, T, O, w, ev, xl, T1, h1, ?_⟩
  cases xl with
  | nr f1 =>
    cases h2
    exact k
  | xc y ρ1 =>
    simp only at h2
    split at h2
    · rename_i hy
      subst hy
      intro C' d σ' H' O' hm' w' e' t'
      rw [hm] at hm'
      cases hm'
      exact ⟨true, hx, fun _ a _ => ⟨c, ρ1, T1, O', w', e', fl, T', h2, k.step t'⟩, fun z => nomatch z⟩
    · cases h2
/-! defs called within an except suite -/
theorem de_callH {X : Cx} {CX : CXT} {k n : Nat} {f : Addr} {fd : FuncData} {ps : List Str} {F : List D → List D → Option (D × List D)} {E : L2.St → XK} {x : Str} {p pos : Pos} {e : Expr} {es : List Expr} {A : DG (List D)} (Fn : L2H.FnH X.prog X.w X.K X.mg X.base CX k f fd ps (spD X.K n F)) (hr : L2H.RoomH k X.A) (hc : L2H.HotC X) (hg : Gl X x) (hm : X.mg x = some (.ref f)) (hk : PySem.W.keepIn X.K (.ref f) = true) (hb : Binds X.K fd ps []) (hx : ∀ σ, PassesAt CX X σ (E σ))
    (ha : DA X (e :: es) A) (hlen : ∀ ρ T ds T', A ρ T = some (ds, T') → ds.length = n)
    (hd : (x == ("__debug__" : Str)) = false := by decide) (he : starEach (e :: es) X.env = (false, eval e X.env) :: starEach es X.env := by rfl) (hpl : (backTo pos (starEach es X.env)).any (·.1) = false := by rfl) : DE X (.Call (.Name x p) (e :: es) [] pos) (dCall F A) := by
  refine ⟨PE.imp (L2H.pe_callH Fn hr hc hg hm hk hb hx ha.p hd he hpl) fun σ H Q h => ?_⟩
  obtain ⟨c, ρ, T, O, w, ev, d, T', hG, k⟩ := h
  obtain ⟨⟨ds, T1⟩, h1, h2⟩ := Option.bind_eq_some_iff.mp hG
  refine ⟨c, ρ, T, O, w, ev, ds, T1, h1, fun vs H1 O1 w1 e1 t1 r1 => ?_⟩
  refine ⟨by rw [r1.length]; exact hlen _ _ _ _ h1, c.t, O1, ds, T1, d, T', w1.ot, w1.tin, w1.al, r1, h2, fun v H' kp tn rv => ?_⟩
  have t2 : Tr c O1 H1 O1 H' := ⟨w1.ot, kp, fun _ h => h, fun _ h => .inl h⟩
  exact k v H' O1 (w1.call kp tn) (t2.ev w1 e1) (t1.trans t2) rv
theorem passH {X : Cx} : ∀ σ, PassesAt CX0 X σ ((fun _ => E0) σ) := fun _ _ _ _ _ _ _ h => h.elim
theorem ok_defH {P : Program} {w : World} {K : PySem.W.Frag} {mg : Str → Option Value} {base : Heap} {x qual : Str} {st : Stmt} {f : Addr} {fd : FuncData} {N ps : List Str} {n m : Nat} (k : Nat) (G : SG) (Fn : Fun K x qual st f fd) (S : FnScope N ps (defScope st)) (hn : N.length = n) (hm : ps.length = m)
    (hb : ∀ (cdv : Value) (A : Around) (outer : List Env) (s : Shared) (H : Hp) (E : XK) (p : Addr × Obj), L2H.RoomH k (A.deeper (envOfC qual (defScope st) s.heap.objs.size f cdv)) → L2H.HotC (L2H.cxH CX0 P w K mg base N qual (defScope st) f cdv A outer s H E p).nox →
      DSs (L2H.cxH CX0 P w K mg base N qual (defScope st) f cdv A outer s H E p).nox (defBody st) G) :
    L2H.FnH P w K mg base CX0 (k + 1) f fd ps (spD K m (bodyF n m G)) := by
  subst hn
  subst hm
  obtain ⟨oc, od, kV, doc, pm, an, cdv, ct, osl, rfl, lk, hcd⟩ := Fn.ex
  refine L2H.fn_ofH lk hcd S (fun vs H Q E h => h.1) fun A outer s H vs Q E p hot hr h => ⟨_, PSs.nox (hb cdv A outer s H E p hr ⟨p, hot, List.mem_singleton.mpr rfl⟩).p, ?_⟩
  obtain ⟨hl, t, O, ds, T, d, T', ot, tn, al, ra, hF, k⟩ := h
  unfold bodyF at hF
  split at hF
  case isFalse => cases hF
  have w0 : Wd K ⟨t, H, O⟩ O T H := ⟨ot, tn, fun _ _ h _ => h, fun _ h => h, fun _ h => .inl h, al⟩
  refine ⟨⟨t, H, O⟩, ρ0 N.length ds, T, O, w0, ev_start ra, ?_⟩
  split at hF
  · rename_i d1 T1 e1
    cases hF
    refine ⟨_, _, e1, fun v H' O' w' t' r' => k v H' w'.kp ?_ (r'.less w'.up)⟩
    obtain ⟨xs, h1, h2⟩ := w'.tin
    exact ⟨xs, h1, h2.less w'.up⟩
  · rename_i ρ1 T1 e1
    cases hF
    refine ⟨_, _, e1, fun σ' H' O' w' e' t' => k .non H' w'.kp ?_ .non⟩
    obtain ⟨xs, h1, h2⟩ := w'.tin
    exact ⟨xs, h1, h2.less w'.up⟩
  · cases hF
/-! the classes of what is raised -/
/-- an error of the class at S is what «except S» names -/
theorem exm_own {K : PySem.W.Frag} {S : Addr} (h1 : PySem.W.subIn K (.ref S) (.type "BaseException") = some true) (h2 : PySem.W.isClsIn K S = true) (h3 : PySem.W.typeIn K (.ref S) = some (.type "type")) (h4 : PySem.W.subIn K (.ref S) (.ref S) = some true) :
    PySem.W.exmOne K (.ref S) (.ref S) = some true := by
  have e1 : (PySem.W.subIn K (.ref S) (.type "BaseException") == some true) = true := by rw [h1] <;> rfl
  have e2 : ((PySem.W.clsIn K S).isSome && PySem.W.typeIn K (.ref S) == some (.type "type")) = true := by
    have h2' : (PySem.W.clsIn K S).isSome = true := h2
    rw [h2', h3] <;> rfl
  show (if (PySem.W.subIn K (.ref S) (.type "BaseException") == some true) = true then (if ((PySem.W.clsIn K S).isSome && PySem.W.typeIn K (.ref S) == some (.type "type")) = true then PySem.W.subIn K (.ref S) (.ref S) else none) else none) = some true
  rw [if_pos e1, if_pos e2]
  exact h4
/-- an exception class of the program without a word of its own, over ValueError -/
structure ExcV (K : PySem.W.Frag) (mg : Str → Option Value) (x : Str) : Type where
  C : Addr
  g : mg x = some (.ref C)
  q : PySem.W.excIn K C [.type "ValueError", .type "Exception", .type "BaseException", .type "object"] "ValueError.__new__" = true
  kp : PySem.W.keepIn K (.ref C) = true
  sb : PySem.W.subIn K (.ref C) (.type "BaseException") = some true
  ty : PySem.W.typeIn K (.ref C) = some (.type "type")
  ex : PySem.W.exmOne K (.ref C) (.ref C) = some true
/-- X() -/
theorem pmk_own0 {X : Cx} {x : Str} {p pos : Pos} (V : ExcV X.K X.mg x) (hg : Gl X x) (hdb : (x == ("__debug__" : Str)) = false := by decide) : L2N.PMk X (.Call (.Name x p) [] [] pos) (fun _ H Q => Q (.ref V.C) none H) := by
  intro pins s σ H Q I h
  refine wpAny_Call_Name_kw (ld_glob I hg V.g ?_ hdb)
  refine PySem.W.callWith_K0 I.kIn V.kp ?_
  show wpAny _ _ (call (.ref V.C) []) _ _ _
  obtain ⟨bm, N, nm, qn, bs, hdct, sn, sub, ab, col, dd, k0, k1, k2, k3, k5, mN, hC, hN, hni, T⟩ := exc_obj I.kIn V.q
  refine wpAny_call_exc_subT PySem.F.excBase_ValueError T hC hN hni (fun h' e hm => ?_) (Nat.zero_le _)
  exact L2N.mk_of I hm (raises_own V.sb V.ty) h (I.hok.gone hm.new)
theorem roomH65 {k : Nat} {A : Around} (hr : L2H.RoomH k A) : A.units + 65 < cLine := by have := hr.un; omega
theorem roomHu {k : Nat} {A : Around} (hr : L2H.RoomH k A) : A.units + 64 < cLine := by have := hr.un; omega
end DL
set_option Elab.async false
set_option linter.all false
set_option maxRecDepth 100000
set_option maxHeartbeats 4000000
/-! Dl11: methods of own lists with arguments; comprehensions over own lists. -/
namespace DL
open PySem PySem.Spec PyProof.Rows L2
/-- a method that changes a list of the def's own and returns None -/
def sMeth (i : Nat) (op : List D → List D → Option (List D)) (A : DG (List D)) : SG := fun ρ T => match ρ[i]? with
  | some (.ow es) => (A ρ T).bind fun p => (op es p.1).map fun fs => (.nx (ρ.set i (.ow fs)), p.2)
  | _ => none
def MethD (K : PySem.W.Frag) (r : V → List V → Hp → VK → Prop) (op : List D → List D → Option (List D)) : Prop :=
  ∀ (H : Hp) (t : Addr) (O : Addr → Prop) (a : Addr) (xs vs : List V) (es ds fs : List D) (Q : VK), O a → H a = some (.lst xs) → RA K H t O xs es → RA K H t O vs ds → op es ds = some fs → (∀ ys, RA K H t O ys fs → Q .non (upd H a (.lst ys))) → r (.ref a) vs H Q
section
variable {X : Cx} {st : Stmt}
theorem ds_meth {i : Nat} {x : Str} {p1 : Pos} {es : List Expr} {A : DG (List D)} {op : List D → List D → Option (List D)} {r : V → List V → Hp → VK → Prop} (hN : X.N[i]? = some x) (hv : Vis X.env.scope x) (ha : DA X es A) (ho : MethD X.K r op)
    (p : PE X (.Name x p1) (tVar i) → PA X es (tDA X.K A) → PS X st (tDrop (tBM X.K "list" r (tVar i) (tDA X.K A))))
    (hd : (x == ("__debug__" : Str)) = false := by decide) (hcd : (x == ("__classdict__" : Str)) = false := by decide) : DS X st (sMeth i op A) := ⟨PS.imp (p (pe_var hN hv hd hcd) ha.p) fun E σ H ⟨c, ρ, T, O, w, ev, fl, T', hG, k⟩ => by
  unfold sMeth at hG
  split at hG
  · rename_i ds hr
    obtain ⟨⟨ps, T1⟩, h1, h2⟩ := Option.bind_eq_some_iff.mp hG
    obtain ⟨fs, h3, h4⟩ := Option.map_eq_some_iff.mp h2
    cases h4
    obtain ⟨o, ho', rs⟩ := ow_at ev hr
    cases rs with
    | @ow a xs _ k1 k2 k3 k4 k5 k6 =>
      refine ⟨_, ho', .inl ⟨rfl, _, SqL.of k5⟩, c, ρ, T, O, w, ev, ps, _, h1, fun vs H' O' w' e' t' r' => ?_⟩
      have h5 : H' a = some (.lst xs) := t'.kp a _ k5 k1
      refine ho H' c.t O' a xs vs ds ps fs _ (t'.up _ k2) h5 (t'.ra w k6) r' h3 fun ys ry => ?_
      obtain ⟨w2, e2, t2⟩ := own_mut (ys := ys) (es := fs) w' e' ho' hr h5 ry
      exact k _ _ O' w2 e2 (t'.s.trans t2)
  · cases hG⟩
end
def opInsert : List D → List D → Option (List D)
  | es, [.int k, d] => if 0 ≤ k ∧ k < 2 ^ 63 ∧ small (es.length + 1) = true then some (es.take k.toNat ++ [d] ++ es.drop k.toNat) else none
  | _, _ => none
def rInsert : V → List V → Hp → VK → Prop := fun x vs H Q => ∃ (l : Addr) (xs : List V) (i : Int) (y : V), x = .ref l ∧ vs = [.int i, y] ∧ H l = some (.lst xs) ∧ xs.length < sizeLine ∧ 0 ≤ i ∧ i < 2 ^ 63 ∧ Q .non (upd H l (.lst (xs.take i.toNat ++ [y] ++ xs.drop i.toNat)))
theorem md_insert {K : PySem.W.Frag} : MethD K rInsert opInsert := by
  intro H t O a xs vs es ds fs Q oa ha r q e k
  unfold opInsert at e
  split at e
  · split at e
    · rename_i h
      cases e
      cases q with
      | cons r1 q =>
        cases q with
        | cons r2 q =>
          cases q
          cases r1
          refine ⟨a, xs, _, _, rfl, rfl, ha, ?_, h.1, h.2.1, k _ (((r.take _).append (.cons r2 .nil)).append (r.drop _))⟩
          have := small_ok h.2.2
          rw [r.length]
          omega
    · cases e
  · cases e
/-! comprehensions over own lists -/
def StabE (K : PySem.W.Frag) (c : Ctx) (J : It) (items : List D) (O1 : Addr → Prop) (H1 : Hp) : Prop := ∀ O' H' T, Wd K c O' T H' → Tr c O1 H1 O' H' → ∀ k, (∀ d, items[k]? = some d → J.go k H' ∧ ∀ x H2, J.yld k H' x H2 → Same H' H2 ∧ R K H2 c.t O' x d) ∧ (k = items.length → J.stop k H')
def iE (K : PySem.W.Frag) (I : DG (List D)) : TI := fun σ H R' => ∃ c ρ T O, Wd K c O T H ∧ Ev K c O σ ρ H ∧ ∃ items T', I ρ T = some (items, T') ∧
  ∀ J H' O', Wd K c O' T' H' → Ev K c O' σ ρ H' → Tr c O H O' H' → StabE K c J items O' H' → R' J H'
structure DIE (X : Cx) (tg iter : Expr) (I : DG (List D)) : Prop where
  p : PI X tg iter (iE X.K I)
def dOwn (i : Nat) : DG (List D) := fun ρ T => match ρ[i]? with
  | some (.ow ds) => some (ds, T)
  | _ => none
theorem di_own {X : Cx} {tg : Expr} {i : Nat} {x : Str} {p : Pos} (hN : X.N[i]? = some x) (hv : Vis X.env.scope x) (hd : (x == ("__debug__" : Str)) = false := by decide) (hcd : (x == ("__classdict__" : Str)) = false := by decide) : DIE X tg (.Name x p) (dOwn i) := ⟨PI.imp (pi_list (pe_var hN hv hd hcd)) fun σ H Q ⟨c, ρ, T, O, w, ev, d, T', hG, k⟩ => by
  unfold dOwn at hG
  split at hG
  · rename_i ds hr
    cases hG
    obtain ⟨o, ho', rs⟩ := ow_at ev hr
    cases rs with
    | @ow a xs _ k1 k2 k3 k4 k5 k6 =>
      refine ⟨_, ho', a, rfl, ⟨xs, SqL.of k5⟩, k _ H O w ev (Tr.refl w.ot) fun O2 H2 T2 w2 t2 i => ?_⟩
      have h2 : H2 a = some (.lst xs) := t2.kp a _ k5 k1
      have r2 := t2.ra w k6
      refine ⟨fun d hd => ?_, fun hi => ⟨xs, SqL.of h2, by rw [k6.length, hi]; exact Nat.le_refl _⟩⟩
      obtain ⟨v, h3, h4⟩ := r2.get hd
      refine ⟨⟨xs, v, SqL.of h2, h3⟩, fun x H3 ⟨e3, y⟩ => ?_⟩
      subst e3
      have e4 := (y xs (SqL.of h2)).symm.trans h3
      cases e4
      exact ⟨Same.refl _, h4⟩
  · cases hG⟩
theorem lcE_imp {K : PySem.W.Frag} {I : DG (List D)} {vs sl : List Nat} {tg : D → List Sl → Option (List Sl)} {tt : DG Bool} {te : DG D} {σ : L2.St} {H : Hp} {Q : VK} (hsl : ∀ j ∈ sl, j ∈ vs)
    (h : tDF K (dLc I vs tg tt te) σ H Q) : tLc (iE K I) (gD K sl tg) (tDT K tt) (tD K te) vs σ H Q := by
  obtain ⟨c, ρ, T, O, w, ev, d, T', hG, k⟩ := h
  unfold dLc at hG
  obtain ⟨⟨items, T1⟩, hI, hG⟩ := Option.bind_eq_some_iff.mp hG
  simp only at hG
  split at hG
  case isFalse => cases hG
  rename_i hsm
  refine ⟨c, ρ, T, O, w, ev, items, T1, hI, fun J H1 O1 w1 e1 t1 st => fun Dd hD => ?_⟩
  obtain ⟨nDt, nO, nO0, h0D, sp⟩ := new_of w1 e1 hD
  have nw : ∀ b o, H1 b = some o → b ≠ Dd := fun b o q z => by rw [z, hD] at q; cases q
  refine ⟨fun i m H2 => m = items.length - i ∧ i ≤ items.length ∧ ∃ O2 T2 acc accd restd, Wd K c O2 T2 H2 ∧ Ev K c O2 σ ρ H2 ∧ Tr c O1 H1 O2 H2 ∧ O2 Dd ∧ H2 Dd = some (.lst acc) ∧ RA K H2 c.t O2 acc accd ∧ accd.length ≤ i ∧
    lcGo tg tt te (wipeD ρ vs) (items.drop i) T2 = some (restd, T') ∧ d = accd ++ restd, ⟨items.length, by simp, Nat.zero_le _, ?_⟩, ?_⟩
  · -- the start
    obtain ⟨w2, e2, t2⟩ := lay w1 e1 hD []
    exact ⟨_, T1, [], [], d, w2, e2, t2, .inr rfl, upd_same, .nil, Nat.le_refl _, hG, rfl⟩
  · rintro i m H2 ⟨rfl, hi, O2, T2, acc, accd, restd, w2, e2, t2, oD, hDa, ra, hal, hgo, hd⟩
    obtain ⟨sg, ss⟩ := st O2 H2 T2 w2 t2 i
    by_cases hlt : i < items.length
    · refine .inr ?_
      have hx : items[i]? = some items[i] := List.getElem?_eq_getElem hlt
      obtain ⟨hg, hy⟩ := sg _ hx
      refine ⟨hg, fun H' => ∃ m', m' < items.length - i ∧ m' = items.length - (i + 1) ∧ i + 1 ≤ items.length ∧ ∃ O2 T2 acc accd restd, Wd K c O2 T2 H' ∧ Ev K c O2 σ ρ H' ∧ Tr c O1 H1 O2 H' ∧ O2 Dd ∧ H' Dd = some (.lst acc) ∧ RA K H' c.t O2 acc accd ∧ accd.length ≤ i + 1 ∧
        lcGo tg tt te (wipeD ρ vs) (items.drop (i + 1)) T2 = some (restd, T') ∧ d = accd ++ restd, fun H' h => h, fun x H3 hyx => ?_⟩
      obtain ⟨s3, r3⟩ := hy x H3 hyx
      rw [List.drop_eq_getElem_cons hlt] at hgo
      unfold lcGo at hgo
      obtain ⟨ρ1, htg, hgo⟩ := Option.bind_eq_some_iff.mp hgo
      obtain ⟨⟨b, T3⟩, htt, hgo⟩ := Option.bind_eq_some_iff.mp hgo
      have w3 := w2.same s3
      have e3 := Ev.same w2 s3 e2
      have t3 : Tr c O1 H1 O2 H3 := t2.trans (Tr.same w2.ot s3)
      refine ⟨c, wipeD ρ vs, O2, T2, _, w3, e3.wipe vs, r3, ρ1, htg, fun σ1 e4 kp4 l4 => ⟨?_, ?_⟩⟩
      · have q : L2.wipe σ1 vs = L2.wipe (L2.wipe σ vs) vs := wipe_eq l4 fun j hj => kp4 j fun z => hj (hsl j z)
        rw [q]
        exact wipe_eq (L2.wipe_length _ _) fun j hj => L2.wipe_out hj
      · refine ⟨c, ρ1, T2, O2, w3, e4, b, T3, htt, fun H5 O5 w5 e5 t5 => ?_⟩
        cases b with
        | true =>
          rw [if_pos rfl] at hgo ⊢
          obtain ⟨⟨y, T4⟩, hte, hgo⟩ := Option.bind_eq_some_iff.mp hgo
          obtain ⟨⟨rest2, T5⟩, hg2, hr⟩ := Option.map_eq_some_iff.mp hgo
          cases hr
          refine ⟨c, ρ1, T3, O5, w5, e5, y, T4, hte, fun v6 H6 O6 w6 e6 t6 r6 => ?_⟩
          have t36 : Tr c O2 H3 O6 H6 := t5.trans t6
          have t16 : Tr c O1 H1 O6 H6 := t3.trans t36
          have hD6 : H6 Dd = some (.lst acc) := t36.kp _ _ (s3 _ _ hDa) nDt
          have oD6 : O6 Dd := t36.up _ oD
          have e6' : Ev K c O6 σ ρ H6 := t36.ev w3 e3
          have ra6 : RA K H6 c.t O6 acc accd := t36.ra w3 (ra.same s3)
          have us := TrS.upd (ys := acc ++ [v6]) w6 oD6 nDt hD6
          refine ⟨acc, hD6, ?_, items.length - (i + 1), by omega, rfl, hlt, O6, T4, acc ++ [v6], accd ++ [y], rest2, w6.upd oD6 nDt h0D hD6, Ev.upd w6 oD6 nDt hD6 e6' sp,
            ⟨w1.ot, fun b o h n => by rw [upd_ne (nw b o h)]; exact t16.kp b o h n, t16.up, t16.nw⟩, oD6, upd_same, us.ra w6 (ra6.append (.cons r6 .nil)), by rw [List.length_append]; exact Nat.succ_le_succ hal, hg2, by rw [hd, List.append_assoc]; rfl⟩
          have := small_ok hsm
          rw [ra.length]
          omega
        | false =>
          rw [if_neg Bool.false_ne_true] at hgo ⊢
          have t35 : Tr c O2 H3 O5 H5 := t5
          exact ⟨items.length - (i + 1), by omega, rfl, hlt, O5, T3, acc, accd, restd, w5, t35.ev w3 e3, t3.trans t35, t35.up _ oD, t35.kp _ _ (s3 _ _ hDa) nDt, t35.ra w3 (ra.same s3), by omega, hgo, hd⟩
    · refine .inl ?_
      have hie : i = items.length := by omega
      refine ⟨ss hie, ?_⟩
      rw [hie, List.drop_length] at hgo
      unfold lcGo at hgo
      cases hgo
      rw [List.append_nil] at hd
      subst hd
      exact k Dd H2 O2 acc w2 e2 (t1.trans t2) hDa ra (free_of w1 t1 hD) oD
section
variable {X : Cx}
theorem df_lcE {elt tg iter : Expr} {ifs : List Expr} {scope : Scope} {own : List (Str × Nat)} {sl : List Nat} {pos : Pos} {I : DG (List D)} {g : D → List Sl → Option (List Sl)} {tt : DG Bool} {te : DG D} (hc : X.calm = true) (hN : X.N.Nodup) (hi : DIE X tg iter I) (ok : BlkOk X.N X.env.scope scope own)
    (hg : ∀ (s : Shared) (H : Hp) (C : Addr) (cl : List (Str × Addr)) (fp : List Addr), DTg (X.blk s H scope (compEnvC scope cl C X.env) fp) tg sl g) (ht : ∀ (s : Shared) (H : Hp) (C : Addr) (cl : List (Str × Addr)) (fp : List Addr), DP (X.blk s H scope (compEnvC scope cl C X.env) fp) ifs tt)
    (he : ∀ (s : Shared) (H : Hp) (C : Addr) (cl : List (Str × Addr)) (fp : List Addr), DE (X.blk s H scope (compEnvC scope cl C X.env) fp) elt te) (hsl : ∀ j ∈ sl, j ∈ own.map (·.2)) (hs : ∀ x, foldedSetIterable iter X.env x = pure x := by intro _; rfl) :
    DF X (.ListComp elt [⟨tg, iter, ifs, 0⟩] scope pos) (dLc I (own.map (·.2)) g tt te) :=
  ⟨PE.imp (pe_lc hc hN hi.p ok (fun s H C cl fp => (hg s H C cl fp).p) (fun s H C cl fp => (ht s H C cl fp).p) (fun s H C cl fp => (he s H C cl fp).p) hs) fun σ H Q h => lcE_imp hsl h⟩
end
end DL
set_option Elab.async false
set_option linter.all false
set_option maxRecDepth 100000
set_option maxHeartbeats 4000000
/-! Dl12: a tuple taken apart within an except suite. -/
namespace DL
open PySem PySem.Spec PyProof.Rows L2
section
variable {pg : Program} {wd : World} {B : Around} {EE : Value → Shared → Prop} {z : Shared}
/-- a tuple's turns are over, while another exception is handled -/
theorem tup_end_hot {j tu xa : Addr} {n : Nat} {its : Array Value} {R : Option Value → Shared → Prop} (hot : HotX.HotAt B xa z.heap) (hne : xa ≠ j) (hj : IsTupIter z.heap j tu n) (ht : IsTup z.heap tu its) (hn : its[n]? = none)
    (k : ∀ h1, Heap.ExtBut j z.heap h1 → R none { z with heap := h1 }) : wpAny (model pg wd) B (pyNext (.ref j)) R EE z := by
  obtain ⟨ob, ho, hcl, hda⟩ := id hj
  obtain ⟨ot, hot2, _, nn, hdt⟩ := ht
  obtain ⟨hh, o1, vs1, g1, d1, c1⟩ := hot
  have up : ∀ f b o, b ≠ j → z.heap.get? b = some o → (z.heap.update j f).get? b = some o := fun f b o nb e => (Heap.SameBut.update z.heap j f).extBut b o nb e
  unfold pyNext
  refine wpAny_bind (wpAny_attempt (wpAny_callSpecial?_slot (name := Str.ofString "__next__") hj.typeIs slot_tupleiter_next (wpAny_call_entry slot_tupleiter_next hj.typeIs entry_tupleiter_next ?go (args_tupleiter_next _))))
  case go =>
    (show wpAny _ _ (field (.ref j) 0 >>= _) _ _ z); refine wpAny_bind (wpAny_field ho hda (x := .ref tu) rfl ?_)
    (show wpAny _ _ (if (Value.ref tu == Value.none) = true then _ else _) _ _ z); rw [if_neg (show ¬ ((Value.ref tu == Value.none) = true) from nofun)]
    (show wpAny _ _ (field (.ref j) 1 >>= _) _ _ z); refine wpAny_bind (wpAny_field ho hda (x := .int n 0) rfl ?_)
    (show wpAny _ _ (seqItems? (.ref tu) >>= _) _ _ z); refine wpAny_bind (wpAny_seqItems hot2 hdt ?_)
    simp only [Int.toNat_natCast, hn]
    refine wpAny_bind (wpAny_rule (wpAny_bind (wpAny_setField ho hda (by simp) ?raised)))
    case raised =>
      (show wpAny _ _ (newExc (.type "StopIteration") [] >>= _) _ _ _); refine wpAny_bind ?_
      simp only [newExc, newTuple]; refine wpAny_bind (wpAny_newObj_type ?_ (by size_fits))
      refine wpAny_bind (m := firstArgMember _ _) (wpAny_of_eq (a := Value.none) (by first | (simp only [firstArgMember]; rfl) | rfl) (wpAny_newObj_type ?_ (by size_fits)))
      have g2 := up (Obj.mapFields (·.setIfInBounds 0 Value.none)) xa o1 hne g1
      refine HotX.raiseNew_hot ⟨hh, o1, vs1, Heap.get?_push_of_some _ (Heap.get?_push_of_some _ g2), d1, c1⟩ (Nat.ne_of_lt (Heap.lt_size (Heap.get?_push_of_some _ g2))) (Heap.get?_push_size _ rfl) rfl (by first | (simp; omega) | (simp; done) | (simp only [Array.size_append]; simp; omega)) ?_
      refine wpAny_bind (wpAny_isInstance (T := "StopIteration") (b := true) ⟨_, Heap.get?_update_self _ (Heap.get?_push_size _ rfl) rfl, rfl⟩ isSubtype_stop (wpAny_pure (k _ fun b o hb e => ?_)))
      have g3 := up (Obj.mapFields (·.setIfInBounds 0 Value.none)) b o hb e
      rw [Heap.get?_update_other _ _ (Nat.ne_of_gt (Heap.lt_size (Heap.get?_push_of_some _ g3)))]; exact Heap.get?_push_of_some _ (Heap.get?_push_of_some _ g3)
theorem tup_items_hot {tu xa : Addr} {its : Array Value} {R : List Value → Shared → Prop} (hot : HotX.HotAt B xa z.heap) (ht : IsTup z.heap tu its)
    (k : ∀ h1, Heap.ExtBut z.heap.objs.size z.heap h1 → R its.toList { z with heap := h1 }) : wpAny (model pg wd) B (unpackItems (.ref tu) its.size none) R EE z := by
  have nt : tu ≠ z.heap.objs.size := by
    obtain ⟨o, ho, _⟩ := ht
    exact Nat.ne_of_lt (Heap.lt_size ho)
  obtain ⟨hh, o1, vs1, g1, d1, c1⟩ := hot
  have nx : xa ≠ z.heap.objs.size := Nat.ne_of_lt (Heap.lt_size g1)
  unfold unpackItems notIterableAtAll
  refine wpAny_bind (wpAny_bind (wpAny_specialOf ht.typeIs slot_tuple_iter.lookup (wpAny_pure ?_)))
  simp only [Bool.false_eq_true, if_false]; refine wpAny_bind (wpAny_holding (iter_tuple ht (wpAny_bind (wpAny_holding (draw_tuple nt its.size 0 _ _ ⟨_, Heap.get?_push_size _ rfl, rfl, rfl⟩ (ht.push _) (by omega) fun h2 hj sb => ?_)))))
  rw [show List.take its.size (List.drop 0 its.toList) = its.toList by rw [List.drop_zero]; exact List.take_of_length_le (by simp), if_neg (by simp)]
  refine wpAny_bind (wpAny_holding (tup_end_hot (xa := xa) ⟨hh, o1, vs1, sb.extBut xa o1 nx (Heap.get?_push_of_some _ g1), d1, c1⟩ nx hj ((ht.push _).extBut sb.extBut nt) (by simp) fun h3 eb => ?_))
  simp only [Option.isSome_none, Bool.false_eq_true, if_false]; exact wpAny_pure (k h3 fun b o hb e => eb b o hb (sb.extBut b o hb (Heap.get?_push_of_some _ e)))
end
section
variable {X : Cx} {pos : Pos}
theorem pg_tupH {es : List Expr} {k : Nat} {t : TGs} {n : Nat} (hc : L2H.HotC X) (h : PGs X es t) (hn : (assignEach es X.env).length = n := by rfl) (hst : (assignEach es X.env).findIdx? (·.1) = none := by rfl) : PG X (.Tuple es k pos) (gTup X.K n t) := by
  refine ⟨fun pins s σ H v u Q I r hw => ?_⟩
  obtain ⟨a, xs, rfl, hq, hl, hw⟩ := hw
  cases r
  obtain ⟨its, rv, ht, hz⟩ := I.tuple hq
  obtain ⟨xa, hot⟩ := hc.at I
  rw [assign_Tuple]
  refine wpAny_bind (wpAny_standAt ?_)
  unfold unpack
  rw [show (assignEach es X.env).length = its.toArray.size by simp [hn, ← hl, rv.length], hst]
  refine wpAny_bind (wpAny_holding (tup_items_hot hot ht fun h' hx => ?_))
  have I1 : Inv X pins σ H { s with heap := h' } := I.kept (t' := s.toks) fun b o e => hx b o (Nat.ne_of_lt (Heap.lt_size e)) e
  exact h.run pins _ σ H xs _ Q I1 (by simpa using rv) hw
end
def tgTt (g : List D → List Sl → Option (List Sl)) (n : Nat) : D → List Sl → Option (List Sl)
  | .tuple ds, ρ => if ds.length = n then g ds ρ else none
  | _, _ => none
theorem dg_tupH {X : Cx} {pos : Pos} {es : List Expr} {k n : Nat} {sl : List Nat} {g : List D → List Sl → Option (List Sl)} (hc : L2H.HotC X) (h : DTs X es sl g) (hn : (assignEach es X.env).length = n := by rfl) (hst : (assignEach es X.env).findIdx? (·.1) = none := by rfl) : DTg X (.Tuple es k pos) sl (tgTt g n) :=
  ⟨PG.imp (pg_tupH (n := n) hc h.p hn hst) fun v σ H Q ⟨c, ρ, O, T, d, w, ev, r, ρ', hg, k⟩ => by
    unfold tgTt at hg
    split at hg
    · split at hg
      · rename_i hl
        obtain ⟨a, xs, rfl, h1, r1⟩ := r.tupE
        exact ⟨a, xs, rfl, h1, by rw [r1.length]; exact hl, c, ρ, O, T, _, w, ev, r1, ρ', hg, k⟩
      · cases hg
    · cases hg⟩
theorem roomH_mark {k : Nat} {A : Around} {v : Option Value} (hr : Room k A) : L2H.RoomH k (A.mark v) := ⟨hr.dp, hr.un⟩
theorem xs_raise0 {X : Cx} {W : WX} {x : Str} {p pos pos' : Pos} (V : ExcV X.K X.mg x) (hc : X.calm = true) (tk : L2N.Takes X W) (hg : Gl X x) (hdb : (x == ("__debug__" : Str)) = false := by decide) : XS X W (.Raise (some (.Call (.Name x p) [] [] pos)) none pos') (xRaise x) :=
  xs_raise hc tk V.g (pmk_own0 V hg hdb)
end DL
set_option Elab.async false
set_option linter.all false
set_option maxRecDepth 100000
set_option maxHeartbeats 4000000
/-! Dl13: running forward what Dl10, Dl11 tell. -/
namespace DL
open PySem PySem.Spec PyProof.Rows L2
section
variable {ρ : List Sl} {T : List D} {i : Nat}
theorem w_own {P : List D → List D → Prop} {ds : List D} (hx : ρ[i]? = some (.ow ds)) (p : P ds T) : Ex (dOwn i ρ T) P := ⟨ds, T, by unfold dOwn; rw [hx], p⟩
theorem w_meth {op : List D → List D → Option (List D)} {A : DG (List D)} {es : List D} {P : Fl → List D → Prop} (hx : ρ[i]? = some (.ow es)) (h : Ex (A ρ T) fun ds T1 => ∃ fs, op es ds = some fs ∧ P (.nx (ρ.set i (.ow fs))) T1) : Ex (sMeth i op A ρ T) P := by
  obtain ⟨ds, T1, e1, fs, e2, p⟩ := h
  exact ⟨_, T1, by unfold sMeth; rw [hx]; simp only; rw [e1, Option.bind_some, e2]; rfl, p⟩
theorem w_try {x : Str} {G : XG} {F : SG} {P : Fl → List D → Prop} (h : Ex (G ρ T) fun xl T1 => match xl with | .nr fl => P fl T1 | .xc y ρ1 => y = x ∧ Ex (F ρ1 T1) P) : Ex (sTry x G F ρ T) P := by
  obtain ⟨xl, T1, e1, h⟩ := h
  cases xl with
  | nr fl => exact ⟨fl, T1, by unfold sTry; rw [e1]; rfl, h⟩
  | xc y ρ1 =>
    obtain ⟨rfl, fl, T2, e2, p⟩ := h
    exact ⟨fl, T2, by unfold sTry; rw [e1, Option.bind_some]; simpa using e2, p⟩
def kX (G : XG) (P : Xl → List D → Prop) : Xl → List D → Prop
  | .nr (.nx ρ'), T => Ex (G ρ' T) P
  | o, T => P o T
theorem w_xseq {F G : XG} {P : Xl → List D → Prop} (h : Ex (F ρ T) (kX G P)) : Ex (xSeq F G ρ T) P := by
  obtain ⟨xl, T1, e1, h⟩ := h
  cases xl with
  | nr fl =>
    cases fl with
    | nx ρ1 =>
      obtain ⟨a, T2, e2, p⟩ := h
      exact ⟨a, T2, by unfold xSeq; rw [e1, Option.bind_some]; exact e2, p⟩
    | bk ρ1 => exact ⟨_, T1, by unfold xSeq; rw [e1]; rfl, h⟩
    | ct ρ1 => exact ⟨_, T1, by unfold xSeq; rw [e1]; rfl, h⟩
    | rt d => exact ⟨_, T1, by unfold xSeq; rw [e1]; rfl, h⟩
  | xc y ρ1 => exact ⟨_, T1, by unfold xSeq; rw [e1]; rfl, h⟩
theorem w_xexpr {g : XE1} {P : Xl → List D → Prop} (h : Ex (g ρ T) fun r T1 => match r with | .ok d => P (.nr (.nx ρ)) T1 | .er x => P (.xc x ρ) T1) : Ex (xExpr g ρ T) P := by
  obtain ⟨r, T1, e1, h⟩ := h
  cases r with
  | ok d => exact ⟨_, T1, by unfold xExpr; rw [e1]; rfl, h⟩
  | er x => exact ⟨_, T1, by unfold xExpr; rw [e1]; rfl, h⟩
theorem w_xcall {F : XF} {A : DG (List D)} {P : Re → List D → Prop} (h : Ex (A ρ T) fun ds T1 => Ex (F ds T1) P) : Ex (xCall F A ρ T) P := by
  obtain ⟨ds, T1, e1, r, T2, e2, p⟩ := h
  exact ⟨r, T2, by unfold xCall; rw [e1]; exact e2, p⟩
end
end DL
set_option linter.all false
set_option maxRecDepth 100000
set_option maxHeartbeats 4000000
/-! Rm: RAYS, plainly: whole numbers of eighths of a turn (Zw), divided by root; one way to tell each. -/
namespace RM
@[ext] structure Zw where
  a : Int
  b : Int
  c : Int
  d : Int
deriving DecidableEq
namespace Zw
def mul (x y : Zw) : Zw := ⟨x.a * y.a - x.b * y.d - x.c * y.c - x.d * y.b, x.a * y.b + x.b * y.a - x.c * y.d - x.d * y.c, x.a * y.c + x.b * y.b + x.c * y.a - x.d * y.d, x.a * y.d + x.b * y.c + x.c * y.b + x.d * y.a⟩
instance : Mul Zw := ⟨mul⟩
instance : Add Zw := ⟨fun x y => ⟨x.a + y.a, x.b + y.b, x.c + y.c, x.d + y.d⟩⟩
instance : Neg Zw := ⟨fun x => ⟨-x.a, -x.b, -x.c, -x.d⟩⟩
def zero : Zw := ⟨0, 0, 0, 0⟩
def one : Zw := ⟨1, 0, 0, 0⟩
theorem mul_def (x y : Zw) : x * y = ⟨x.a * y.a - x.b * y.d - x.c * y.c - x.d * y.b, x.a * y.b + x.b * y.a - x.c * y.d - x.d * y.c, x.a * y.c + x.b * y.b + x.c * y.a - x.d * y.d, x.a * y.d + x.b * y.c + x.c * y.b + x.d * y.a⟩ := rfl
theorem add_def (x y : Zw) : x + y = ⟨x.a + y.a, x.b + y.b, x.c + y.c, x.d + y.d⟩ := rfl
theorem neg_def (x : Zw) : -x = ⟨-x.a, -x.b, -x.c, -x.d⟩ := rfl
theorem mul_comm (x y : Zw) : x * y = y * x := by
  rw [mul_def, mul_def]
  ext <;> grind
theorem mul_assoc (x y z : Zw) : x * y * z = x * (y * z) := by
  simp only [mul_def]
  ext <;> grind
theorem add_mul (x y z : Zw) : (x + y) * z = x * z + y * z := by
  simp only [mul_def, add_def]
  ext <;> grind
theorem mul_add (x y z : Zw) : z * (x + y) = z * x + z * y := by rw [mul_comm, add_mul, mul_comm x, mul_comm y]
theorem neg_mul (x z : Zw) : (-x) * z = -(x * z) := by
  simp only [mul_def, neg_def]
  ext <;> grind
theorem mul_neg (x z : Zw) : z * (-x) = -(z * x) := by rw [mul_comm, neg_mul, mul_comm x]
theorem neg_neg (x : Zw) : -(-x) = x := by
  simp only [neg_def]
  ext <;> grind
theorem one_mul (x : Zw) : one * x = x := by
  simp only [mul_def, one]
  ext <;> grind
theorem mul_one (x : Zw) : x * one = x := by rw [mul_comm, one_mul]
theorem add_comm (x y : Zw) : x + y = y + x := by
  simp only [add_def]
  ext <;> grind
theorem add_assoc (x y z : Zw) : x + y + z = x + (y + z) := by
  simp only [add_def]
  ext <;> grind
instance : Std.Commutative (α := Zw) (· * ·) := ⟨mul_comm⟩
instance : Std.Associative (α := Zw) (· * ·) := ⟨mul_assoc⟩
instance : Std.Commutative (α := Zw) (· + ·) := ⟨add_comm⟩
instance : Std.Associative (α := Zw) (· + ·) := ⟨add_assoc⟩
/-- times root -/
def ms (x : Zw) : Zw := ⟨x.b - x.d, x.a + x.c, x.b + x.d, x.c - x.a⟩
theorem ms_mul (x y : Zw) : ms x * y = ms (x * y) := by
  simp only [mul_def, ms]
  ext <;> grind
theorem ms_add (x y : Zw) : ms (x + y) = ms x + ms y := by
  simp only [add_def, ms]
  ext <;> grind
theorem ms_ms (x : Zw) : ms (ms x) = x + x := by
  simp only [add_def, ms]
  ext <;> grind
theorem ms_neg (x : Zw) : ms (-x) = -(ms x) := by
  simp only [neg_def, ms]
  ext <;> grind
theorem ms_inj {x y : Zw} (h : ms x = ms y) : x = y := by
  have h2 : ms (ms x) = ms (ms y) := by rw [h]
  rw [ms_ms, ms_ms, add_def, add_def] at h2
  injection h2 with h1 h2 h3 h4
  ext <;> omega
/-- the mirror: w to the seventh for w -/
def conj (x : Zw) : Zw := ⟨x.a, -x.d, -x.c, -x.b⟩
theorem conj_mul (x y : Zw) : conj (x * y) = conj x * conj y := by
  simp only [mul_def, conj]
  ext <;> grind
theorem conj_ms (x : Zw) : conj (ms x) = ms (conj x) := by
  simp only [conj, ms]
  ext <;> grind
theorem conj_conj (x : Zw) : conj (conj x) = x := by
  simp only [conj]
  ext <;> grind
theorem conj_add (x y : Zw) : conj (x + y) = conj x + conj y := by
  simp only [add_def, conj]
  ext <;> grind
theorem conj_neg (x : Zw) : conj (-x) = -(conj x) := by
  simp only [neg_def, conj]
/-- the twin: w to the fifth for w -/
def tau (x : Zw) : Zw := ⟨x.a, -x.b, x.c, -x.d⟩
theorem tau_mul (x y : Zw) : tau (x * y) = tau x * tau y := by
  simp only [mul_def, tau]
  ext <;> grind
theorem tau_ms (x : Zw) : tau (ms x) = -(ms (tau x)) := by
  simp only [tau, ms, neg_def]
  ext <;> grind
theorem tau_neg (x : Zw) : tau (-x) = -(tau x) := by
  simp only [neg_def, tau]
theorem tau_tau (x : Zw) : tau (tau x) = x := by
  simp only [tau]
  ext <;> grind
theorem tau_conj (x : Zw) : tau (conj x) = conj (tau x) := by
  rfl
/-- times root, n times -/
def ps : Nat → Zw → Zw
  | 0, x => x
  | n + 1, x => ps n (ms x)
theorem ps_add : ∀ (m n : Nat) (x : Zw), ps (m + n) x = ps n (ps m x)
  | 0, n, x => by rw [Nat.zero_add]; rfl
  | m + 1, n, x => by
    rw [Nat.add_right_comm]
    exact ps_add m n (ms x)
theorem ps_comm (m n : Nat) (x : Zw) : ps m (ps n x) = ps n (ps m x) := by rw [← ps_add, ← ps_add, Nat.add_comm]
theorem ps_ms : ∀ (n : Nat) (x : Zw), ps n (ms x) = ms (ps n x)
  | 0, _ => rfl
  | n + 1, x => ps_ms n (ms x)
theorem ps_mul : ∀ (n : Nat) (x y : Zw), ps n x * y = ps n (x * y)
  | 0, _, _ => rfl
  | n + 1, x, y => by
    show ps n (ms x) * y = ps n (ms (x * y))
    rw [ps_mul n, ms_mul]
theorem mul_ps (n : Nat) (x y : Zw) : x * ps n y = ps n (x * y) := by rw [mul_comm, ps_mul, mul_comm]
theorem ps_sum : ∀ (n : Nat) (x y : Zw), ps n (x + y) = ps n x + ps n y
  | 0, _, _ => rfl
  | n + 1, x, y => by
    show ps n (ms (x + y)) = _
    rw [ms_add, ps_sum n]
    rfl
theorem ps_neg : ∀ (n : Nat) (x : Zw), ps n (-x) = -(ps n x)
  | 0, _ => rfl
  | n + 1, x => by
    show ps n (ms (-x)) = _
    rw [ms_neg, ps_neg n]
    rfl
theorem ps_inj : ∀ {n : Nat} {x y : Zw}, ps n x = ps n y → x = y
  | 0, _, _, h => h
  | n + 1, x, y, h => ms_inj (ps_inj (n := n) h)
theorem ps_conj : ∀ (n : Nat) (x : Zw), conj (ps n x) = ps n (conj x)
  | 0, _ => rfl
  | n + 1, x => by
    show conj (ps n (ms x)) = ps n (ms (conj x))
    rw [ps_conj n, conj_ms]
theorem ps_two (x : Zw) : ps 2 x = x + x := ms_ms x
/-- with the sign of (-1) to the n -/
def sg (n : Nat) (x : Zw) : Zw := if n % 2 = 1 then -x else x
theorem sg_even (n : Nat) (x : Zw) : sg (2 * n) x = x := by
  unfold sg
  rw [if_neg (by omega)]
theorem sg_dbl (n : Nat) (x : Zw) : sg (n + n) x = x := by
  unfold sg
  rw [if_neg (by omega)]
theorem sg_sg (m n : Nat) (x : Zw) : sg m (sg n x) = sg (m + n) x := by
  unfold sg
  by_cases h1 : m % 2 = 1 <;> by_cases h2 : n % 2 = 1
  · rw [if_pos h1, if_pos h2, if_neg (by omega), neg_neg]
  · rw [if_pos h1, if_neg h2, if_pos (by omega)]
  · rw [if_neg h1, if_pos h2, if_pos (by omega)]
  · rw [if_neg h1, if_neg h2, if_neg (by omega)]
theorem sg_par {m n : Nat} (h : m % 2 = n % 2) {x : Zw} : sg m x = sg n x := by
  unfold sg
  rw [h]
theorem sg_mul (n : Nat) (x y : Zw) : sg n x * y = sg n (x * y) := by
  unfold sg
  split
  · rw [neg_mul]
  · rfl
theorem mul_sg (n : Nat) (x y : Zw) : x * sg n y = sg n (x * y) := by rw [mul_comm, sg_mul, mul_comm]
theorem ps_sg (m n : Nat) (x : Zw) : ps m (sg n x) = sg n (ps m x) := by
  unfold sg
  split
  · rw [ps_neg]
  · rfl
theorem conj_sg (n : Nat) (x : Zw) : conj (sg n x) = sg n (conj x) := by
  unfold sg
  split
  · rw [conj_neg]
  · rfl
theorem tau_sg (n : Nat) (x : Zw) : tau (sg n x) = sg n (tau x) := by
  unfold sg
  split
  · rw [tau_neg]
  · rfl
theorem ps_tau : ∀ (n : Nat) (x : Zw), tau (ps n x) = sg n (ps n (tau x))
  | 0, _ => rfl
  | n + 1, x => by
    show tau (ps n (ms x)) = sg (n + 1) (ps n (ms (tau x)))
    rw [ps_tau n, tau_ms, ps_neg]
    have e : ∀ y : Zw, sg n (-y) = sg (n + 1) y := fun y => by
      unfold sg
      by_cases h : n % 2 = 1
      · rw [if_pos h, if_neg (by omega), neg_neg]
      · rw [if_neg h, if_pos (by omega)]
    exact e _
/-- root divides it -/
def ev (x : Zw) : Bool := decide ((x.a + x.c) % 2 = 0) && decide ((x.b + x.d) % 2 = 0)
def hs (x : Zw) : Zw := ⟨(x.b - x.d) / 2, (x.a + x.c) / 2, (x.b + x.d) / 2, (x.c - x.a) / 2⟩
theorem ev_iff {x : Zw} : ev x = true ↔ (x.a + x.c) % 2 = 0 ∧ (x.b + x.d) % 2 = 0 := by
  unfold ev
  rw [Bool.and_eq_true, decide_eq_true_iff, decide_eq_true_iff]
theorem ms_hs {x : Zw} (h : ev x = true) : ms (hs x) = x := by
  rw [ev_iff] at h
  unfold ms hs
  ext <;> simp only <;> omega
theorem ev_ms (x : Zw) : ev (ms x) = true := by
  rw [ev_iff]
  unfold ms
  simp only
  omega
theorem ev_neg (x : Zw) : ev (-x) = ev x := by
  rw [Bool.eq_iff_iff, ev_iff, ev_iff, neg_def]
  simp only
  omega
theorem ev_sg (n : Nat) (x : Zw) : ev (sg n x) = ev x := by
  unfold sg
  split
  · exact ev_neg x
  · rfl
theorem ev_tau (x : Zw) : ev (tau x) = ev x := by
  rw [Bool.eq_iff_iff, ev_iff, ev_iff]
  unfold tau
  simp only
  omega
theorem ev_conj (x : Zw) : ev (conj x) = ev x := by
  rw [Bool.eq_iff_iff, ev_iff, ev_iff]
  unfold conj
  simp only
  omega
/-- w times -/
def mw (x : Zw) : Zw := ⟨-x.d, x.a, x.b, x.c⟩
theorem ev_mw (x : Zw) : ev (mw x) = ev x := by
  rw [Bool.eq_iff_iff, ev_iff, ev_iff]
  unfold mw
  simp only
  omega
theorem mw_ms (x : Zw) : mw (ms x) = ms (mw x) := by
  simp only [mw, ms]
  ext <;> grind
theorem mw_conj (x : Zw) : mw x * conj (mw x) = x * conj x := by
  simp only [mul_def, mw, conj]
  ext <;> grind
end Zw
open Zw
@[ext] structure Ray where
  x : Zw
  k : Nat
deriving DecidableEq
/-- told with the least k -/
def Can (r : Ray) : Prop := r.k = 0 ∨ ev r.x = false
/-- r stands for x, divided by root k times -/
def Rep (r : Ray) (x : Zw) (k : Nat) : Prop := Zw.ps k r.x = Zw.ps r.k x
theorem Rep.own (r : Ray) : Rep r r.x r.k := rfl
theorem Rep.conv {r : Ray} {x y : Zw} {k l : Nat} (h : Rep r x k) (e : Zw.ps l x = Zw.ps k y) : Rep r y l := by
  unfold Rep at h ⊢
  refine ps_inj (n := k) ?_
  rw [ps_comm, h, ps_comm, e, ps_comm]
theorem can_eq {r r' : Ray} (h : Can r) (h' : Can r') (e : Zw.ps r'.k r.x = Zw.ps r.k r'.x) : r = r' := by
  have key : ∀ {r r' : Ray}, Can r' → Zw.ps r'.k r.x = Zw.ps r.k r'.x → r.k ≤ r'.k → r = r' := fun {r r'} h' e hl => by
    obtain ⟨m, hm⟩ : ∃ m, r'.k = m + r.k := ⟨r'.k - r.k, by omega⟩
    rw [hm, ps_add] at e
    have e2 := ps_inj e
    cases m with
    | zero => exact Ray.ext e2 (by omega)
    | succ j =>
      have q : ev r'.x = true := by
        rw [← e2]
        show ev (ps j (ms r.x)) = true
        rw [ps_ms]
        exact ev_ms _
      rcases h' with h' | h'
      · omega
      · rw [q] at h'; cases h'
  by_cases hl : r.k ≤ r'.k
  · exact key h' e hl
  · exact (key h e.symm (by omega)).symm
theorem rep_eq {r r' : Ray} {x : Zw} {k : Nat} (h : Can r) (h' : Can r') (e : Rep r x k) (e' : Rep r' x k) : r = r' := by
  refine can_eq h h' (ps_inj (n := k) ?_)
  unfold Rep at e e'
  rw [ps_comm, e, ps_comm, ← e', ps_comm]
def shortGo : Nat → Zw → Ray
  | 0, x => ⟨x, 0⟩
  | k + 1, x => if ev x = true then shortGo k (hs x) else ⟨x, k + 1⟩
theorem shortGo_succ (k : Nat) (x : Zw) : shortGo (k + 1) x = if ev x = true then shortGo k (hs x) else ⟨x, k + 1⟩ := rfl
theorem shortGo_can : ∀ (k : Nat) (x : Zw), Can (shortGo k x)
  | 0, _ => .inl rfl
  | k + 1, x => by
    unfold shortGo
    by_cases h : ev x = true
    · rw [if_pos h]
      exact shortGo_can k _
    · rw [if_neg h]
      exact .inr (by simpa using h)
theorem shortGo_rep : ∀ (k : Nat) (x : Zw), Rep (shortGo k x) x k
  | 0, _ => rfl
  | k + 1, x => by
    unfold shortGo
    by_cases h : ev x = true
    · rw [if_pos h]
      have q := shortGo_rep k (hs x)
      refine q.conv ?_
      show ps k (ms (hs x)) = _
      rw [ms_hs h]
    · rw [if_neg h]
      rfl
def short (x : Zw) (k : Nat) : Ray := if x = Zw.zero then ⟨Zw.zero, 0⟩ else shortGo k x
theorem short_can (x : Zw) (k : Nat) : Can (short x k) := by
  unfold short
  split
  · exact .inl rfl
  · exact shortGo_can k x
theorem ps_zero : ∀ k : Nat, ps k Zw.zero = Zw.zero
  | 0 => rfl
  | k + 1 => ps_zero k
theorem short_rep (x : Zw) (k : Nat) : Rep (short x k) x k := by
  unfold short
  split
  · rename_i h
    subst h
    exact ps_zero k
  · exact shortGo_rep k x
theorem short_of {r : Ray} {x : Zw} {k : Nat} (h : Can r) (e : Rep r x k) : r = short x k := rep_eq h (short_can x k) e (short_rep x k)
theorem short_eq {x y : Zw} {k l : Nat} (e : Zw.ps l x = Zw.ps k y) : short x k = short y l := rep_eq (short_can x k) (short_can y l) ((short_rep x k).conv e) (short_rep y l)
/-! the operations -/
def rprod (r s : Ray) : Ray := short (r.x * s.x) (r.k + s.k)
theorem rprod_can (r s : Ray) : Can (rprod r s) := short_can _ _
theorem rprod_rep {r s : Ray} {x y : Zw} {k l : Nat} (h : Rep r x k) (g : Rep s y l) : Rep (rprod r s) (x * y) (k + l) := by
  refine (short_rep _ _).conv ?_
  unfold Rep at h g
  rw [ps_add, ps_add]
  rw [← ps_mul, ← mul_ps, ← ps_mul, ← mul_ps, h, g]
def rsum (r s : Ray) : Ray := short (ps (max r.k s.k - r.k) r.x + ps (max r.k s.k - s.k) s.x) (max r.k s.k)
theorem rsum_can (r s : Ray) : Can (rsum r s) := short_can _ _
theorem rsum_rep {r s : Ray} {x y : Zw} {k l : Nat} (h : Rep r x k) (g : Rep s y l) : Rep (rsum r s) (ps l x + ps k y) (k + l) := by
  refine (short_rep _ _).conv ?_
  unfold Rep at h g
  rw [ps_sum, ps_sum]
  have h1 : ps (k + l) (ps (max r.k s.k - r.k) r.x) = ps (max r.k s.k) (ps l x) := by
    rw [ps_add, ps_comm k, h, ← ps_add, ← ps_add, ← ps_add]
    congr 1
    omega
  have h2 : ps (k + l) (ps (max r.k s.k - s.k) s.x) = ps (max r.k s.k) (ps k y) := by
    rw [Nat.add_comm k l, ps_add, ps_comm l, g, ← ps_add, ← ps_add, ← ps_add]
    congr 1
    omega
  rw [h1, h2]
def rmir (r : Ray) : Ray := ⟨conj r.x, r.k⟩
theorem rmir_can {r : Ray} (h : Can r) : Can (rmir r) := h.elim .inl fun q => .inr (by show ev (conj r.x) = false; rw [ev_conj]; exact q)
theorem rmir_rep {r : Ray} {x : Zw} {k : Nat} (h : Rep r x k) : Rep (rmir r) (conj x) k := by
  unfold Rep at h ⊢
  show ps k (conj r.x) = ps r.k (conj x)
  rw [← ps_conj, h, ps_conj]
def rtwin (r : Ray) : Ray := ⟨sg r.k (tau r.x), r.k⟩
theorem rtwin_can {r : Ray} (h : Can r) : Can (rtwin r) := h.elim .inl fun q => .inr (by show ev (sg r.k (tau r.x)) = false; rw [ev_sg, ev_tau]; exact q)
theorem rtwin_rep {r : Ray} {x : Zw} {k : Nat} (h : Rep r x k) : Rep (rtwin r) (sg k (tau x)) k := by
  unfold Rep at h ⊢
  show ps k (sg r.k (tau r.x)) = ps r.k (sg k (tau x))
  have q := congrArg tau h
  rw [ps_tau, ps_tau] at q
  have q2 : sg r.k (sg k (sg k (ps k (tau r.x)))) = sg r.k (sg k (sg r.k (ps r.k (tau x)))) := by rw [q]
  rw [sg_sg k k, sg_dbl] at q2
  rw [ps_sg, ps_sg, q2, sg_sg, sg_sg]
  exact sg_par (by omega)
def rsize (r : Ray) : Ray := rprod r (rmir r)
theorem rsize_rep {r : Ray} {x : Zw} {k : Nat} (h : Rep r x k) : Rep (rsize r) (x * conj x) (k + k) := rprod_rep h (rmir_rep h)
/-- divided by root -/
def rover (r : Ray) (j : Nat) : Ray := short r.x (r.k + j)
theorem rover_rep {r : Ray} {x : Zw} {k j : Nat} (h : Rep r x k) : Rep (rover r j) x (k + j) := by
  refine (short_rep _ _).conv ?_
  unfold Rep at h
  rw [ps_add, h, ps_add, ps_comm]
/-- multiplied by root -/
def rtimes (r : Ray) (j : Nat) : Ray := if j ≤ r.k then short r.x (r.k - j) else ⟨ps (j - r.k) r.x, 0⟩
theorem rtimes_can (r : Ray) (j : Nat) : Can (rtimes r j) := by
  unfold rtimes
  split
  · exact short_can _ _
  · exact .inl rfl
theorem rtimes_rep {r : Ray} {x : Zw} {k j : Nat} (h : Rep r x k) : Rep (rtimes r j) (ps j x) k := by
  unfold rtimes
  unfold Rep at h
  by_cases hj : j ≤ r.k
  · rw [if_pos hj]
    refine (short_rep _ _).conv ?_
    rw [h, ← ps_add]
    congr 1
    omega
  · rw [if_neg hj]
    show ps k (ps (j - r.k) r.x) = ps 0 (ps j x)
    rw [ps_comm, h, ← ps_add]
    show _ = ps j x
    congr 1
    omega
/-- the norm: x times its mirror and their twins -/
def nrm (x : Zw) : Zw := x * conj x * tau (x * conj x)
def nz (x : Zw) : Int := (x.a * x.a - x.c * x.c + 2 * x.b * x.d) * (x.a * x.a - x.c * x.c + 2 * x.b * x.d) + (2 * x.a * x.c - x.b * x.b + x.d * x.d) * (2 * x.a * x.c - x.b * x.b + x.d * x.d)
theorem nrm_eq (x : Zw) : nrm x = ⟨nz x, 0, 0, 0⟩ := by
  unfold nrm nz
  simp only [mul_def, conj, tau]
  ext <;> grind
theorem mul_self_nn (i : Int) : 0 ≤ i * i := by
  rcases Int.le_total 0 i with h | h
  · exact Int.mul_nonneg h h
  · have := Int.mul_nonneg (show 0 ≤ -i by omega) (show 0 ≤ -i by omega)
    rwa [Int.neg_mul_neg] at this
theorem nz_nonneg (x : Zw) : 0 ≤ nz x := by
  unfold nz
  exact Int.add_nonneg (mul_self_nn _) (mul_self_nn _)
theorem nrm_mul (x y : Zw) : nrm (x * y) = nrm x * nrm y := by
  unfold nrm
  simp only [conj_mul, tau_mul]
  ac_rfl
/-! root is no fraction -/
theorem no_root : ∀ (m n : Nat), m * m = 2 * (n * n) → m = 0 := by
  intro m
  induction m using Nat.strongRecOn with
  | ind m ih =>
    intro n h
    by_cases hm : m = 0
    · exact hm
    · exfalso
      have he : m % 2 = 0 := by
        rcases Nat.mod_two_eq_zero_or_one m with q | q
        · exact q
        · have : (m * m) % 2 = 1 := by rw [Nat.mul_mod, q]
          omega
      obtain ⟨p, hp⟩ : ∃ p, m = 2 * p := ⟨m / 2, by omega⟩
      subst hp
      have h2 : n * n = 2 * (p * p) := by
        have : 2 * p * (2 * p) = 2 * (2 * (p * p)) := by
          rw [Nat.mul_mul_mul_comm]
          omega
        omega
      have hn : n < 2 * p := by
        rcases Nat.lt_or_ge n (2 * p) with q | q
        · exact q
        · have q2 := Nat.mul_le_mul q q
          have : 0 < p * p := Nat.mul_pos (by omega) (by omega)
          have e : 2 * p * (2 * p) = 4 * (p * p) := by
            rw [Nat.mul_mul_mul_comm]
          omega
      have hz := ih n hn p h2
      subst hz
      have : 0 < p * p := Nat.mul_pos (by omega) (by omega)
      omega
theorem no_root_int {i j : Int} (h : i * i = 2 * (j * j)) : i = 0 ∧ j = 0 := by
  have e : i.natAbs * i.natAbs = 2 * (j.natAbs * j.natAbs) := by
    have h1 := Int.natAbs_mul_self (a := i)
    have h2 := Int.natAbs_mul_self (a := j)
    omega
  have hi := no_root _ _ e
  have hi0 : i = 0 := by omega
  subst hi0
  have h3 : j * j = 0 := by omega
  exact ⟨rfl, by rcases Int.mul_eq_zero.mp h3 with q | q <;> exact q⟩
def sqs (x : Zw) : Int := x.a * x.a + x.b * x.b + x.c * x.c + x.d * x.d
def mid (x : Zw) : Int := x.a * x.b + x.b * x.c + x.c * x.d - x.d * x.a
theorem size_num (x : Zw) : x * conj x = ⟨sqs x, mid x, 0, -mid x⟩ := by
  unfold sqs mid
  simp only [mul_def, conj]
  ext <;> grind
theorem nz_sqs (x : Zw) : nz x = sqs x * sqs x - 2 * (mid x * mid x) := by
  unfold nz sqs mid
  grind
theorem sqs_zero {x : Zw} (h : sqs x = 0) : x = Zw.zero := by
  unfold sqs at h
  have h1 := mul_self_nn x.a
  have h2 := mul_self_nn x.b
  have h3 := mul_self_nn x.c
  have h4 := mul_self_nn x.d
  have z : ∀ i : Int, i * i = 0 → i = 0 := fun i q => by rcases Int.mul_eq_zero.mp q with q | q <;> exact q
  have e1 := z x.a (by omega)
  have e2 := z x.b (by omega)
  have e3 := z x.c (by omega)
  have e4 := z x.d (by omega)
  exact Zw.ext e1 e2 e3 e4
theorem nz_zero {x : Zw} : nz x = 0 ↔ x = Zw.zero := by
  constructor
  · intro h
    rw [nz_sqs] at h
    exact sqs_zero (no_root_int (i := sqs x) (j := mid x) (by omega)).1
  · intro h
    subst h
    decide
/-- a whole number divided by root an even number of times -/
theorem short_int (n : Int) : ∀ j : Nat, ∃ (m : Int) (i : Nat), short ⟨n, 0, 0, 0⟩ (2 * j) = ⟨⟨m, 0, 0, 0⟩, 2 * i⟩ ∧ (0 ≤ n → 0 ≤ m) ∧ (n = 0 ↔ m = 0) := by
  by_cases hz : n = 0
  · subst hz
    intro j
    exact ⟨0, 0, by unfold short; rw [if_pos (show (⟨0, 0, 0, 0⟩ : Zw) = Zw.zero from rfl)]; rfl, fun h => h, Iff.rfl⟩
  have go : ∀ (j : Nat) (n : Int), n ≠ 0 → ∃ (m : Int) (i : Nat), shortGo (2 * j) ⟨n, 0, 0, 0⟩ = ⟨⟨m, 0, 0, 0⟩, 2 * i⟩ ∧ (0 ≤ n → 0 ≤ m) ∧ (n = 0 ↔ m = 0) := by
    intro j
    induction j with
    | zero => exact fun n _ => ⟨n, 0, rfl, fun h => h, Iff.rfl⟩
    | succ j ih =>
      intro n hn
      by_cases he : n % 2 = 0
      · obtain ⟨m, i, h1, h2, h3⟩ := ih (n / 2) (by omega)
        refine ⟨m, i, ?_, fun q => h2 (by omega), ⟨fun q => absurd q hn, fun q => ?_⟩⟩
        · rw [← h1]
          show shortGo (2 * j + 1 + 1) _ = _
          rw [shortGo_succ, if_pos (ev_iff.mpr ⟨by simp only; omega, by show (0 + 0 : Int) % 2 = 0; decide⟩), shortGo_succ]
          have e : hs ⟨n, 0, 0, 0⟩ = ⟨0, n / 2, 0, -(n / 2)⟩ := by
            unfold hs
            ext <;> simp only <;> omega
          rw [e, if_pos (ev_iff.mpr ⟨by show (0 + 0 : Int) % 2 = 0; decide, by simp only; omega⟩)]
          have e2 : hs ⟨0, n / 2, 0, -(n / 2)⟩ = ⟨n / 2, 0, 0, 0⟩ := by
            unfold hs
            ext <;> simp only <;> omega
          rw [e2]
        · have := h3.mpr q
          omega
      · refine ⟨n, j + 1, ?_, fun h => h, Iff.rfl⟩
        show shortGo (2 * j + 1 + 1) _ = _
        rw [shortGo_succ, if_neg]
        · rfl
        · intro q
          have := (ev_iff.mp q).1
          simp only at this
          omega
  intro j
  unfold short
  rw [if_neg (fun q => hz (by injection q))]
  exact go j n hz
end RM
set_option linter.all false
set_option maxRecDepth 100000
set_option maxHeartbeats 4000000
/-! Rb: how great the numbers of RAYS are. -/
namespace RM
open Zw
def Sm (n : Nat) (i : Int) : Prop := i.natAbs < 2 ^ n
theorem Sm.mono {m n : Nat} {i : Int} (h : Sm m i) (l : m ≤ n) : Sm n i := Nat.lt_of_lt_of_le h (Nat.pow_le_pow_right (by decide) l)
theorem Sm.mul {m n : Nat} {i j : Int} (h : Sm m i) (g : Sm n j) : Sm (m + n) (i * j) := by
  unfold Sm at *
  rw [Int.natAbs_mul, Nat.pow_add]
  exact Nat.mul_lt_mul'' h g
theorem Sm.neg {n : Nat} {i : Int} (h : Sm n i) : Sm n (-i) := by unfold Sm at *; omega
theorem two_succ (n : Nat) : 2 ^ (n + 1) = 2 ^ n + 2 ^ n := by rw [Nat.pow_succ]; omega
theorem Sm.add {n : Nat} {i j : Int} (h : Sm n i) (g : Sm n j) : Sm (n + 1) (i + j) := by
  unfold Sm at *
  rw [two_succ]
  omega
theorem Sm.sub {n : Nat} {i j : Int} (h : Sm n i) (g : Sm n j) : Sm (n + 1) (i - j) := by
  unfold Sm at *
  rw [two_succ]
  omega
theorem Sm.abs {n : Nat} {i : Int} (h : Sm n i) : Sm n (if i < 0 then -i else i) := by
  unfold Sm at *
  split <;> omega
theorem Sm.pow (n : Nat) : Sm (n + 1) (2 ^ n : Int) := by
  unfold Sm
  rw [Int.natAbs_pow, two_succ]
  have : 0 < 2 ^ n := Nat.pow_pos (by decide)
  show 2 ^ n < _
  omega
structure Bd (n : Nat) (x : Zw) : Prop where
  a : Sm n x.a
  b : Sm n x.b
  c : Sm n x.c
  d : Sm n x.d
theorem Bd.mono {m n : Nat} {x : Zw} (h : Bd m x) (l : m ≤ n) : Bd n x := ⟨h.a.mono l, h.b.mono l, h.c.mono l, h.d.mono l⟩
theorem Bd.mul {m n : Nat} {x y : Zw} (h : Bd m x) (g : Bd n y) : Bd (m + n + 2) (x * y) := by
  have s4 : ∀ {i j k l : Int} {p : Nat}, Sm p i → Sm p j → Sm p k → Sm p l → Sm (p + 2) (i - j - k - l) ∧ Sm (p + 2) (i + j - k - l) ∧ Sm (p + 2) (i + j + k - l) ∧ Sm (p + 2) (i + j + k + l) := fun {i j k l p} h1 h2 h3 h4 => by
    unfold Sm at *
    rw [show p + 2 = (p + 1) + 1 from rfl, two_succ, two_succ]
    omega
  rw [mul_def]
  exact ⟨(s4 (h.a.mul g.a) (h.b.mul g.d) (h.c.mul g.c) (h.d.mul g.b)).1, (s4 (h.a.mul g.b) (h.b.mul g.a) (h.c.mul g.d) (h.d.mul g.c)).2.1, (s4 (h.a.mul g.c) (h.b.mul g.b) (h.c.mul g.a) (h.d.mul g.d)).2.2.1, (s4 (h.a.mul g.d) (h.b.mul g.c) (h.c.mul g.b) (h.d.mul g.a)).2.2.2⟩
theorem Bd.add {n : Nat} {x y : Zw} (h : Bd n x) (g : Bd n y) : Bd (n + 1) (x + y) := ⟨h.a.add g.a, h.b.add g.b, h.c.add g.c, h.d.add g.d⟩
theorem Bd.neg {n : Nat} {x : Zw} (h : Bd n x) : Bd n (-x) := ⟨h.a.neg, h.b.neg, h.c.neg, h.d.neg⟩
theorem Bd.conj {n : Nat} {x : Zw} (h : Bd n x) : Bd n (conj x) := ⟨h.a, h.d.neg, h.c.neg, h.b.neg⟩
theorem Bd.tau {n : Nat} {x : Zw} (h : Bd n x) : Bd n (tau x) := ⟨h.a, h.b.neg, h.c, h.d.neg⟩
theorem Bd.mw {n : Nat} {x : Zw} (h : Bd n x) : Bd n (mw x) := ⟨h.d.neg, h.a, h.b, h.c⟩
theorem Bd.sg {n m : Nat} {x : Zw} (h : Bd n x) : Bd n (sg m x) := by
  unfold Zw.sg
  split
  · exact h.neg
  · exact h
theorem Bd.ms {n : Nat} {x : Zw} (h : Bd n x) : Bd (n + 1) (ms x) := ⟨h.b.sub h.d, h.a.add h.c, h.b.add h.d, h.c.sub h.a⟩
theorem Bd.ps {n : Nat} : ∀ {j : Nat} {x : Zw}, Bd n x → Bd (n + j) (ps j x)
  | 0, _, h => h
  | j + 1, x, h => by
    have q := Bd.ps (n := n + 1) (j := j) h.ms
    rw [show n + (j + 1) = n + 1 + j by omega]
    exact q
theorem Bd.hs {n : Nat} {x : Zw} (h : Bd n x) : Bd n (hs x) := by
  obtain ⟨h1, h2, h3, h4⟩ := h
  unfold Sm at *
  refine ⟨?_, ?_, ?_, ?_⟩ <;> unfold Sm Zw.hs <;> simp only <;> omega
theorem Bd.shortGo {n : Nat} : ∀ {k : Nat} {x : Zw}, Bd n x → Bd n (shortGo k x).x
  | 0, _, h => h
  | k + 1, x, h => by
    rw [shortGo_succ]
    split
    · exact Bd.shortGo h.hs
    · exact h
theorem Bd.zero (n : Nat) : Bd n Zw.zero := by
  have q : Sm n 0 := by
    unfold Sm
    exact Nat.pow_pos (by decide)
  exact ⟨q, q, q, q⟩
theorem Bd.short {n k : Nat} {x : Zw} (h : Bd n x) : Bd n (short x k).x := by
  unfold RM.short
  split
  · exact Bd.zero n
  · exact h.shortGo
theorem shortGo_k : ∀ (k : Nat) (x : Zw), (shortGo k x).k ≤ k
  | 0, _ => Nat.le_refl _
  | k + 1, x => by
    rw [shortGo_succ]
    split
    · exact Nat.le_succ_of_le (shortGo_k k _)
    · exact Nat.le_refl _
theorem short_k (k : Nat) (x : Zw) : (short x k).k ≤ k := by
  unfold short
  split
  · exact Nat.zero_le _
  · exact shortGo_k k x
/-- times 2 to the j -/
theorem ps_dbl : ∀ (j : Nat) (x : Zw), ps (2 * j) x = ⟨x.a * 2 ^ j, x.b * 2 ^ j, x.c * 2 ^ j, x.d * 2 ^ j⟩
  | 0, x => by
    show x = _
    ext <;> simp
  | j + 1, x => by
    show ps (2 * j) (Zw.ms (Zw.ms x)) = _
    rw [ps_dbl j, ms_ms]
    simp only [add_def, Int.pow_succ]
    ext <;> grind
theorem ps_odd (j : Nat) (x : Zw) : ps (2 * j + 1) x = ⟨(x.b - x.d) * 2 ^ j, (x.a + x.c) * 2 ^ j, (x.b + x.d) * 2 ^ j, (x.c - x.a) * 2 ^ j⟩ := by
  show ps (2 * j) (Zw.ms x) = _
  rw [ps_dbl]
  rfl
end RM
set_option Elab.async false
set_option linter.all false
namespace RM
open Zw
theorem Rep.cast {r : Ray} {x y : Zw} {k l : Nat} (h : Rep r x k) (e : x = y) (f : k = l) : Rep r y l := by
  subst e
  subst f
  exact h
def rnorm (r : Ray) : Ray := rprod (rsize r) (rtwin (rsize r))
theorem rnorm_rep {r : Ray} {x : Zw} {k : Nat} (h : Rep r x k) : Rep (rnorm r) (nrm x) (k + k + (k + k)) := by
  have h1 := rsize_rep h
  have h2 := rtwin_rep h1
  rw [sg_dbl] at h2
  exact rprod_rep h1 h2
theorem rnorm_can (r : Ray) : Can (rnorm r) := rprod_can _ _
theorem norm_prod (r s : Ray) : rnorm (rprod r s) = rprod (rnorm r) (rnorm s) :=
  rep_eq (rnorm_can _) (rprod_can _ _) (rnorm_rep (rprod_rep (Rep.own r) (Rep.own s)))
    ((rprod_rep (rnorm_rep (Rep.own r)) (rnorm_rep (Rep.own s))).cast (nrm_mul _ _).symm (by omega))
theorem norm_real {r : Ray} (hr : Can r) : ∃ (m : Int) (i : Nat), rnorm r = ⟨⟨m, 0, 0, 0⟩, 2 * i⟩ ∧ 0 ≤ m ∧ (m = 0 ↔ r = ⟨Zw.zero, 0⟩) := by
  have h := short_of (rnorm_can r) (rnorm_rep (Rep.own r))
  rw [nrm_eq] at h
  obtain ⟨m, i, e, h1, h2⟩ := short_int (nz r.x) (r.k + r.k)
  rw [show r.k + r.k + (r.k + r.k) = 2 * (r.k + r.k) by omega, e] at h
  refine ⟨m, i, h, h1 (nz_nonneg _), ?_⟩
  rw [← h2, nz_zero]
  constructor
  · intro q
    rcases hr with hk | he
    · cases r
      subst q
      subst hk
      rfl
    · rw [q] at he
      exact absurd he (by decide)
  · intro q
    rw [q]
theorem norm_zero {r : Ray} {m : Int} {i : Nat} (q : r = ⟨Zw.zero, 0⟩) (e : rnorm r = ⟨⟨m, 0, 0, 0⟩, 2 * i⟩) : i = 0 := by
  subst q
  have h : rnorm ⟨Zw.zero, 0⟩ = ⟨Zw.zero, 0⟩ := by decide
  rw [h] at e
  injection e with e1 e2
  omega
theorem size_prod (r s : Ray) : rsize (rprod r s) = rprod (rsize r) (rsize s) :=
  rep_eq (rprod_can _ _) (rprod_can _ _) (rsize_rep (rprod_rep (Rep.own r) (Rep.own s)))
    ((rprod_rep (rsize_rep (Rep.own r)) (rsize_rep (Rep.own s))).cast (by rw [conj_mul]; ac_rfl) (by omega))
theorem size_mir (r : Ray) : rsize (rmir r) = rsize r := by
  show short (conj r.x * conj (conj r.x)) _ = short (r.x * conj r.x) _
  rw [conj_conj, Zw.mul_comm]
  rfl
theorem size_twin {r : Ray} : rtwin (rsize r) = rsize (rtwin r) := by
  refine rep_eq (rtwin_can (rprod_can _ _)) (rprod_can _ _) (rtwin_rep (rsize_rep (Rep.own r))) ((rsize_rep (rtwin_rep (Rep.own r))).cast ?_ rfl)
  rw [conj_sg, sg_mul, mul_sg, sg_sg, tau_mul, tau_conj]
theorem mir_twin (r : Ray) : rmir (rtwin r) = rtwin (rmir r) := by
  show (⟨conj (sg r.k (tau r.x)), r.k⟩ : Ray) = ⟨sg r.k (tau (conj r.x)), r.k⟩
  rw [conj_sg, tau_conj]
theorem size_over (r : Ray) (j : Nat) : rsize (rover r j) = rover (rsize r) (2 * j) :=
  rep_eq (rprod_can _ _) (short_can _ _) (rsize_rep (rover_rep (Rep.own r))) ((rover_rep (rsize_rep (Rep.own r))).cast rfl (by omega))
theorem over_times (r s : Ray) (j : Nat) : rprod (rover r j) (rtimes s j) = rprod r s := by
  refine rep_eq (rprod_can _ _) (rprod_can _ _) ((rprod_rep (rover_rep (Rep.own r)) (rtimes_rep (Rep.own s))).conv ?_) (rprod_rep (Rep.own r) (Rep.own s))
  rw [mul_ps, ← ps_add]
  exact congrArg (fun n => ps n (r.x * s.x)) (by omega)
theorem norms {u v x y : Zw} (hu : u = x + y) (hv : v = x + -y) : u * conj u + v * conj v = ps 2 (x * conj x + y * conj y) := by
  subst hu
  subst hv
  rw [ps_two, conj_add, conj_add, conj_neg]
  ext <;> simp only [add_def, mul_def, neg_def, conj] <;> grind
theorem sums (r s t : Ray) (ht : t = ⟨-s.x, s.k⟩) : rsum (rsize (rsum r s)) (rsize (rsum r t)) = rtimes (rsum (rsize r) (rsize s)) 2 := by
  subst ht
  have a1 := rsum_rep (Rep.own r) (Rep.own s)
  have a2 : Rep (rsum r ⟨-s.x, s.k⟩) (ps s.k r.x + ps r.k (-s.x)) (r.k + s.k) := rsum_rep (Rep.own r) (Rep.own ⟨-s.x, s.k⟩)
  have a3 := rsum_rep (rsize_rep a1) (rsize_rep a2)
  have a4 := rtimes_rep (j := 2) (rsum_rep (rsize_rep (Rep.own r)) (rsize_rep (Rep.own s)))
  refine rep_eq (rsum_can _ _) (rtimes_can _ _) (a3.conv ?_) a4
  rw [← ps_sum, norms rfl (by rw [ps_neg])]
  have e1 : ps s.k r.x * conj (ps s.k r.x) = ps (s.k + s.k) (r.x * conj r.x) := by
    rw [ps_conj, ps_mul, mul_ps, ps_add]
  have e2 : ps r.k s.x * conj (ps r.k s.x) = ps (r.k + r.k) (s.x * conj s.x) := by
    rw [ps_conj, ps_mul, mul_ps, ps_add]
  rw [e1, e2, ← ps_add]
  exact congrArg (fun n => ps n (ps 2 (ps (s.k + s.k) (r.x * conj r.x) + ps (r.k + r.k) (s.x * conj s.x)))) (by omega)
/-! units -/
structure Unit1 (u : Ray) : Prop where
  k : u.k = 0
  n : nz u.x = 1
theorem short_nil (x : Zw) : short x 0 = ⟨x, 0⟩ := by
  unfold short
  split
  · rename_i h
    rw [h]
  · rfl
theorem nz_mul (x y : Zw) : nz (x * y) = nz x * nz y := by
  have h := nrm_mul x y
  rw [nrm_eq, nrm_eq, nrm_eq] at h
  rw [mul_def (⟨nz x, 0, 0, 0⟩ : Zw)] at h
  have h1 := congrArg Zw.a h
  simpa using h1
theorem Unit1.prod {u v : Ray} (h : Unit1 u) (g : Unit1 v) : Unit1 (rprod u v) := by
  unfold rprod
  rw [h.k, g.k, show 0 + 0 = 0 from rfl, short_nil]
  exact ⟨rfl, by rw [nz_mul, h.n, g.n]; rfl⟩
def rback (u : Ray) : Ray := rprod (rmir u) (rprod (rtwin u) (rmir (rtwin u)))
theorem Unit1.rep {u : Ray} (h : Unit1 u) : Rep (rback u) (conj u.x * (tau u.x * conj (tau u.x))) 0 := by
  have h1 := Rep.own u
  rw [h.k] at h1
  exact rprod_rep (rmir_rep h1) (rprod_rep (rtwin_rep h1) (rmir_rep (rtwin_rep h1)))
theorem Unit1.one {u : Ray} (h : Unit1 u) : u.x * (conj u.x * (tau u.x * conj (tau u.x))) = Zw.one := by
  rw [← Zw.mul_assoc, ← tau_conj, ← tau_mul]
  show nrm u.x = _
  rw [nrm_eq, h.n]
  rfl
theorem Unit1.told {u : Ray} (h : Unit1 u) : rprod u (rback u) = ⟨Zw.one, 0⟩ := by
  have h1 := Rep.own u
  rw [h.k] at h1
  have h2 := rprod_rep h1 h.rep
  rw [h.one] at h2
  exact rep_eq (rprod_can _ _) (.inl rfl) h2 (Rep.own ⟨Zw.one, 0⟩)
theorem Unit1.again {u : Ray} (h : Unit1 u) (r : Ray) : rprod (rprod u r) (rback u) = rprod ⟨Zw.one, 0⟩ r := by
  have h1 := Rep.own u
  rw [h.k] at h1
  refine rep_eq (rprod_can _ _) (rprod_can _ _) (rprod_rep (rprod_rep h1 (Rep.own r)) h.rep) ((rprod_rep (Rep.own ⟨Zw.one, 0⟩) (Rep.own r)).cast ?_ (by simp))
  show Zw.one * r.x = _
  rw [← h.one]
  ac_rfl
end RM
set_option Elab.async false
set_option linter.all false
/-! Rs: x + y root, plainly: its sign by whole numbers; signs of sums and of products. -/
namespace RS
/-- times (3 + 2 root), so often -/
def up : Nat → Int × Int → Int × Int
  | 0, z => z
  | n + 1, z => up n (3 * z.1 + 4 * z.2, 2 * z.1 + 3 * z.2)
/-- none below 0, one above it -/
def Good (z : Int × Int) : Prop := 0 ≤ z.1 ∧ 0 ≤ z.2 ∧ 0 < z.1 + z.2
def Pos (x y : Int) : Prop := ∃ n, Good (up n (x, y))
theorem up_add : ∀ (n m : Nat) (z : Int × Int), up (n + m) z = up n (up m z)
  | n, 0, z => rfl
  | n, m + 1, z => up_add n m _
theorem good_up : ∀ (n : Nat) {z : Int × Int}, Good z → Good (up n z)
  | 0, _, h => h
  | n + 1, z, ⟨h1, h2, h3⟩ => good_up n ⟨by show 0 ≤ 3 * z.1 + 4 * z.2; omega, by show 0 ≤ 2 * z.1 + 3 * z.2; omega, by show 0 < 3 * z.1 + 4 * z.2 + (2 * z.1 + 3 * z.2); omega⟩
theorem Pos.at {x y : Int} (h : Pos x y) : ∃ n, ∀ m, n ≤ m → Good (up m (x, y)) := by
  obtain ⟨n, h⟩ := h
  refine ⟨n, fun m hm => ?_⟩
  obtain ⟨j, rfl⟩ : ∃ j, m = j + n := ⟨m - n, by omega⟩
  rw [up_add]
  exact good_up j h
theorem up_sum : ∀ (n : Nat) (x y a b : Int), up n (x + a, y + b) = ((up n (x, y)).1 + (up n (a, b)).1, (up n (x, y)).2 + (up n (a, b)).2)
  | 0, _, _, _, _ => rfl
  | n + 1, x, y, a, b => by
    show up n (3 * (x + a) + 4 * (y + b), 2 * (x + a) + 3 * (y + b)) = _
    rw [show 3 * (x + a) + 4 * (y + b) = (3 * x + 4 * y) + (3 * a + 4 * b) by omega, show 2 * (x + a) + 3 * (y + b) = (2 * x + 3 * y) + (2 * a + 3 * b) by omega, up_sum n]
    rfl
theorem up_neg : ∀ (n : Nat) (x y : Int), up n (-x, -y) = (-(up n (x, y)).1, -(up n (x, y)).2)
  | 0, _, _ => rfl
  | n + 1, x, y => by
    show up n (3 * -x + 4 * -y, 2 * -x + 3 * -y) = _
    rw [show 3 * -x + 4 * -y = -(3 * x + 4 * y) by omega, show 2 * -x + 3 * -y = -(2 * x + 3 * y) by omega, up_neg n]
    rfl
theorem up_zero : ∀ n : Nat, up n (0, 0) = (0, 0)
  | 0 => rfl
  | n + 1 => up_zero n
/-- the product -/
def mul (z w : Int × Int) : Int × Int := (z.1 * w.1 + 2 * z.2 * w.2, z.1 * w.2 + z.2 * w.1)
theorem mul_up1 (z w : Int × Int) : mul (3 * z.1 + 4 * z.2, 2 * z.1 + 3 * z.2) w = (3 * (mul z w).1 + 4 * (mul z w).2, 2 * (mul z w).1 + 3 * (mul z w).2) := by
  unfold mul
  refine Prod.ext ?_ ?_ <;> simp only <;> grind
theorem mul_up : ∀ (n : Nat) (z w : Int × Int), mul (up n z) w = up n (mul z w)
  | 0, _, _ => rfl
  | n + 1, z, w => by
    show mul (up n (3 * z.1 + 4 * z.2, 2 * z.1 + 3 * z.2)) w = up n (3 * (mul z w).1 + 4 * (mul z w).2, 2 * (mul z w).1 + 3 * (mul z w).2)
    rw [mul_up n, mul_up1]
theorem mul_comm (z w : Int × Int) : mul z w = mul w z := by
  unfold mul
  refine Prod.ext ?_ ?_ <;> simp only <;> grind
theorem Good.mul {z w : Int × Int} (h : Good z) (g : Good w) : Good (mul z w) := by
  obtain ⟨h1, h2, h3⟩ := h
  obtain ⟨g1, g2, g3⟩ := g
  have a := Int.mul_nonneg h1 g1
  have b := Int.mul_nonneg h2 g2
  have c := Int.mul_nonneg h1 g2
  have d := Int.mul_nonneg h2 g1
  have e := Int.mul_pos h3 g3
  rw [Int.add_mul, Int.mul_add, Int.mul_add] at e
  unfold RS.mul
  rw [Int.mul_assoc 2]
  exact ⟨by show 0 ≤ z.1 * w.1 + 2 * (z.2 * w.2); omega, by show 0 ≤ z.1 * w.2 + z.2 * w.1; omega, by show 0 < z.1 * w.1 + 2 * (z.2 * w.2) + (z.1 * w.2 + z.2 * w.1); omega⟩
theorem Pos.mul {x y a b : Int} (h : Pos x y) (g : Pos a b) : Pos (x * a + 2 * y * b) (x * b + y * a) := by
  obtain ⟨n, h⟩ := h
  obtain ⟨m, g⟩ := g
  refine ⟨n + m, ?_⟩
  have e : up (n + m) (RS.mul (x, y) (a, b)) = RS.mul (up n (x, y)) (up m (a, b)) := by
    rw [mul_up, mul_comm (x, y) (up m (a, b)), mul_up, mul_comm (a, b), up_add]
  show Good (up (n + m) (RS.mul (x, y) (a, b)))
  rw [e]
  exact h.mul g
theorem Pos.add {x y a b : Int} (h : Pos x y) (g : Pos a b) : Pos (x + a) (y + b) := by
  obtain ⟨n, h⟩ := h.at
  obtain ⟨m, g⟩ := g.at
  obtain ⟨h1, h2, h3⟩ := h (n + m) (by omega)
  obtain ⟨g1, g2, g3⟩ := g (n + m) (by omega)
  refine ⟨n + m, ?_⟩
  rw [up_sum]
  exact ⟨Int.add_nonneg h1 g1, Int.add_nonneg h2 g2, by show 0 < _ + _ + (_ + _); omega⟩
theorem Pos.not {x y : Int} (h : Pos x y) (g : Pos (-x) (-y)) : False := by
  obtain ⟨n, h⟩ := h.at
  obtain ⟨m, g⟩ := g.at
  obtain ⟨h1, h2, h3⟩ := h (n + m) (by omega)
  have q := g (n + m) (by omega)
  rw [up_neg] at q
  obtain ⟨g1, g2, g3⟩ := q
  simp only at g1 g2 g3
  omega
theorem Pos.ne {x y : Int} (h : Pos x y) : ¬ (x = 0 ∧ y = 0) := by
  rintro ⟨rfl, rfl⟩
  obtain ⟨n, h1, h2, h3⟩ := h
  rw [up_zero] at h3
  exact absurd h3 (by decide)
theorem good0 {x y : Int} (hx : 0 ≤ x) (hy : 0 ≤ y) (h : ¬ (x = 0 ∧ y = 0)) : Pos x y := ⟨0, hx, hy, by show 0 < x + y; omega⟩
theorem Pos.step {x y : Int} (h : Pos (3 * x + 4 * y) (2 * x + 3 * y)) : Pos x y := by
  obtain ⟨n, h⟩ := h
  exact ⟨n + 1, h⟩
theorem sq_le {a b : Int} (h : 0 ≤ a) (g : a ≤ b) : a * a ≤ b * b := Int.mul_le_mul g g h (Int.le_trans h g)
/-- of mixed signs -/
theorem mixed : ∀ (n : Nat) (p q : Int), 0 < p → 0 < q → q.toNat ≤ n → (2 * (q * q) < p * p → Pos p (-q)) ∧ (p * p < 2 * (q * q) → Pos (-p) q)
  | 0, p, q, hp, hq, hn => by omega
  | n + 1, p, q, hp, hq, hn => by
    have qq : 0 < q * q := Int.mul_pos hq hq
    constructor
    · intro h
      have h1 : 4 * q < 3 * p := by
        refine Int.not_le.mp fun z => ?_
        have := sq_le (by omega) z
        rw [show 3 * p * (3 * p) = 9 * (p * p) by grind, show 4 * q * (4 * q) = 16 * (q * q) by grind] at this
        omega
      by_cases h2 : 3 * q ≤ 2 * p
      · exact ⟨1, by show 0 ≤ 3 * p + 4 * -q; omega, by show 0 ≤ 2 * p + 3 * -q; omega, by show 0 < 3 * p + 4 * -q + (2 * p + 3 * -q); omega⟩
      · refine Pos.step ?_
        have r := (mixed n (3 * p - 4 * q) (3 * q - 2 * p) (by omega) (by omega) (by omega)).1 (by
          have e : (3 * p - 4 * q) * (3 * p - 4 * q) - 2 * ((3 * q - 2 * p) * (3 * q - 2 * p)) = p * p - 2 * (q * q) := by grind
          omega)
        rw [show 3 * p + 4 * -q = 3 * p - 4 * q by omega, show 2 * p + 3 * -q = -(3 * q - 2 * p) by omega]
        exact r
    · intro h
      have h1 : 2 * p < 3 * q := by
        refine Int.not_le.mp fun z => ?_
        have := sq_le (by omega) z
        rw [show 2 * p * (2 * p) = 4 * (p * p) by grind, show 3 * q * (3 * q) = 9 * (q * q) by grind] at this
        omega
      by_cases h2 : 3 * p ≤ 4 * q
      · exact ⟨1, by show 0 ≤ 3 * -p + 4 * q; omega, by show 0 ≤ 2 * -p + 3 * q; omega, by show 0 < 3 * -p + 4 * q + (2 * -p + 3 * q); omega⟩
      · refine Pos.step ?_
        have r := (mixed n (3 * p - 4 * q) (3 * q - 2 * p) (by omega) (by omega) (by omega)).2 (by
          have e : (3 * p - 4 * q) * (3 * p - 4 * q) - 2 * ((3 * q - 2 * p) * (3 * q - 2 * p)) = p * p - 2 * (q * q) := by grind
          omega)
        rw [show 3 * -p + 4 * q = -(3 * p - 4 * q) by omega, show 2 * -p + 3 * q = 3 * q - 2 * p by omega]
        exact r
/-! the sign -/
def ab (x : Int) : Int := if x < 0 then -x else x
def vl (x y : Int) : Int := x * ab x + 2 * y * ab y
theorem ab_neg (x : Int) : ab (-x) = ab x := by
  unfold ab
  split <;> split <;> omega
theorem vl_neg (x y : Int) : vl (-x) (-y) = -vl x y := by
  unfold vl
  rw [ab_neg, ab_neg]
  grind
theorem nn_of {x y : Int} (hx : 0 ≤ x) (hy : 0 ≤ y) (h : 0 < vl x y) : Pos x y := by
  refine ⟨0, hx, hy, ?_⟩
  show 0 < x + y
  refine Int.not_le.mp fun z => ?_
  have : x = 0 ∧ y = 0 := by omega
  obtain ⟨rfl, rfl⟩ := this
  exact absurd h (by decide)
theorem pos_of {x y : Int} (h : 0 < vl x y) : Pos x y := by
  by_cases hx : 0 ≤ x
  · by_cases hy : 0 ≤ y
    · exact nn_of hx hy h
    · unfold vl ab at h
      rw [if_neg (by omega), if_pos (by omega)] at h
      have hx0 : x ≠ 0 := by
        rintro rfl
        have : 0 < y * y := Int.mul_pos_of_neg_of_neg (by omega) (by omega)
        grind
      have r := (mixed (-y).toNat x (-y) (by omega) (by omega) (Nat.le_refl _)).1 (by grind)
      rw [Int.neg_neg] at r
      exact r
  · by_cases hy : 0 < y
    · unfold vl ab at h
      rw [if_pos (by omega), if_neg (by omega)] at h
      have r := (mixed y.toNat (-x) y (by omega) hy (Nat.le_refl _)).2 (by grind)
      rw [Int.neg_neg] at r
      exact r
    · exfalso
      unfold vl ab at h
      rw [if_pos (by omega)] at h
      have a : 0 < x * x := Int.mul_pos_of_neg_of_neg (by omega) (by omega)
      split at h
      · have b : 0 < y * y := Int.mul_pos_of_neg_of_neg (by omega) (by omega)
        grind
      · have : y = 0 := by omega
        subst this
        grind
def sg (i : Int) : Int := if i = 0 then 0 else if 0 < i then 1 else -1
def S (x y : Int) : Int := sg (vl x y)
theorem vl_zero {x y : Int} (h : vl x y = 0) : x = 0 ∧ y = 0 := by
  have key : x * x = 2 * (y * y) → x = 0 ∧ y = 0 := RM.no_root_int
  unfold vl ab at h
  split at h <;> split at h
  · refine key ?_
    have a := RM.mul_self_nn x
    have b := RM.mul_self_nn y
    grind
  · exact key (by grind)
  · exact key (by grind)
  · refine key ?_
    have a := RM.mul_self_nn x
    have b := RM.mul_self_nn y
    grind
theorem S_cases (x y : Int) : (S x y = 1 ∧ Pos x y) ∨ (S x y = -1 ∧ Pos (-x) (-y)) ∨ (S x y = 0 ∧ x = 0 ∧ y = 0) := by
  unfold S sg
  by_cases h : vl x y = 0
  · rw [if_pos h]
    exact .inr (.inr ⟨rfl, vl_zero h⟩)
  · rw [if_neg h]
    by_cases g : 0 < vl x y
    · rw [if_pos g]
      exact .inl ⟨rfl, pos_of g⟩
    · rw [if_neg g]
      refine .inr (.inl ⟨rfl, pos_of ?_⟩)
      rw [vl_neg]
      omega
theorem S_zero : S 0 0 = 0 := by decide
theorem S_of_pos {x y : Int} (h : Pos x y) : S x y = 1 := by
  rcases S_cases x y with q | q | q
  · exact q.1
  · exact (h.not q.2).elim
  · exact (h.ne q.2).elim
theorem S_of_neg {x y : Int} (h : Pos (-x) (-y)) : S x y = -1 := by
  rcases S_cases x y with q | q | q
  · exact (q.2.not h).elim
  · exact q.1
  · exact (h.ne ⟨by omega, by omega⟩).elim
theorem S_neg (x y : Int) : S (-x) (-y) = -S x y := by
  rcases S_cases x y with ⟨q, p⟩ | ⟨q, p⟩ | ⟨q, rfl, rfl⟩
  · rw [q, S_of_neg (by rw [Int.neg_neg, Int.neg_neg]; exact p)]
  · rw [q, S_of_pos p]
    rfl
  · rw [q]
    exact q
theorem S_mul (x y a b : Int) : S (x * a + 2 * y * b) (x * b + y * a) = S x y * S a b := by
  rcases S_cases x y with ⟨q, p⟩ | ⟨q, p⟩ | ⟨q, rfl, rfl⟩
  · rcases S_cases a b with ⟨r, o⟩ | ⟨r, o⟩ | ⟨r, rfl, rfl⟩
    · rw [q, r, S_of_pos (p.mul o)]
      rfl
    · rw [q, r, S_of_neg]
      · rfl
      · have := p.mul o
        rw [show x * -a + 2 * y * -b = -(x * a + 2 * y * b) by grind, show x * -b + y * -a = -(x * b + y * a) by grind] at this
        exact this
    · simp only [Int.mul_zero, Int.add_zero, S_zero]
  · rcases S_cases a b with ⟨r, o⟩ | ⟨r, o⟩ | ⟨r, rfl, rfl⟩
    · rw [q, r, S_of_neg]
      · rfl
      · have := p.mul o
        rw [show -x * a + 2 * -y * b = -(x * a + 2 * y * b) by grind, show -x * b + -y * a = -(x * b + y * a) by grind] at this
        exact this
    · rw [q, r, S_of_pos]
      · rfl
      · have := p.mul o
        rw [show -x * -a + 2 * -y * -b = x * a + 2 * y * b by grind, show -x * -b + -y * -a = x * b + y * a by grind] at this
        exact this
    · simp only [Int.mul_zero, Int.add_zero, S_zero]
  · simp only [Int.zero_mul, Int.mul_zero, Int.add_zero, S_zero]
theorem S_add {x y a b : Int} (h : 0 ≤ S x y) (g : 0 ≤ S a b) : 0 ≤ S (x + a) (y + b) ∧ (0 < S x y → S (x + a) (y + b) = 1) ∧ (0 < S a b → S (x + a) (y + b) = 1) := by
  rcases S_cases x y with ⟨q, p⟩ | ⟨q, p⟩ | ⟨q, rfl, rfl⟩
  · rcases S_cases a b with ⟨r, o⟩ | ⟨r, o⟩ | ⟨r, rfl, rfl⟩
    · have := S_of_pos (p.add o)
      exact ⟨by omega, fun _ => this, fun _ => this⟩
    · omega
    · rw [Int.add_zero, Int.add_zero]
      exact ⟨h, fun _ => q, fun z => by omega⟩
  · omega
  · rw [Int.zero_add, Int.zero_add]
    exact ⟨g, fun z => by omega, fun z => by
      rcases S_cases a b with ⟨r, o⟩ | ⟨r, o⟩ | ⟨r, _⟩ <;> omega⟩
theorem S_root (x y : Int) : S (2 * y) x = S x y := by
  have h := S_mul x y 0 1
  rw [Int.mul_zero, Int.zero_add, Int.mul_one, Int.mul_one, Int.mul_zero, Int.add_zero, show S 0 1 = 1 by decide, Int.mul_one] at h
  exact h
end RS
set_option Elab.async false
set_option linter.all false
/-! Rr: real RAYS, plainly: signs of products, of sums, of differences at one common root. -/
namespace RM
open Zw
structure Rl (x : Zw) : Prop where
  c : x.c = 0
  d : x.d = -x.b
def sv (x : Zw) : Int := RS.S x.a x.b
theorem Rl.zero : Rl Zw.zero := ⟨rfl, rfl⟩
theorem Rl.ms {x : Zw} (h : Rl x) : Rl (ms x) := ⟨by show x.b + x.d = 0; have := h.d; omega, by show x.c - x.a = -(x.a + x.c); have := h.c; omega⟩
theorem sv_ms {x : Zw} (h : Rl x) : sv (ms x) = sv x := by
  show RS.S (x.b - x.d) (x.a + x.c) = RS.S x.a x.b
  rw [h.c, h.d, show x.b - -x.b = 2 * x.b by omega, Int.add_zero]
  exact RS.S_root x.a x.b
theorem Rl.hs {x : Zw} (h : Rl x) (e : ev x = true) : Rl (hs x) := by
  have e1 := (ev_iff.mp e).1
  have h1 := h.c
  have h2 := h.d
  refine ⟨?_, ?_⟩
  · show (x.b + x.d) / 2 = 0
    omega
  · show (x.c - x.a) / 2 = -((x.a + x.c) / 2)
    omega
theorem sv_hs {x : Zw} (h : Rl x) (e : ev x = true) : sv (hs x) = sv x := by
  rw [← sv_ms (h.hs e), ms_hs e]
theorem real_shortGo : ∀ (k : Nat) {x : Zw}, Rl x → Rl (shortGo k x).x ∧ sv (shortGo k x).x = sv x
  | 0, x, h => ⟨h, rfl⟩
  | k + 1, x, h => by
    rw [shortGo_succ]
    split
    · rename_i e
      obtain ⟨h1, h2⟩ := real_shortGo k (h.hs e)
      exact ⟨h1, h2.trans (sv_hs h e)⟩
    · exact ⟨h, rfl⟩
theorem Rl.short {x : Zw} (h : Rl x) (k : Nat) : Rl (short x k).x := by
  unfold RM.short
  split
  · exact Rl.zero
  · exact (real_shortGo k h).1
theorem sv_short {x : Zw} (h : Rl x) (k : Nat) : sv (short x k).x = sv x := by
  unfold RM.short
  split
  · rename_i e
    rw [e]
  · exact (real_shortGo k h).2
theorem Rl.ps : ∀ (n : Nat) {x : Zw}, Rl x → Rl (ps n x)
  | 0, _, h => h
  | n + 1, _, h => Rl.ps n h.ms
theorem sv_ps : ∀ (n : Nat) {x : Zw}, Rl x → sv (ps n x) = sv x
  | 0, _, _ => rfl
  | n + 1, _, h => (sv_ps n h.ms).trans (sv_ms h)
theorem Rl.mul {x y : Zw} (h : Rl x) (g : Rl y) : Rl (x * y) := by
  obtain ⟨h1, h2⟩ := h
  obtain ⟨g1, g2⟩ := g
  rw [mul_def]
  refine ⟨?_, ?_⟩ <;> simp only [h1, h2, g1, g2] <;> grind
theorem sv_mul {x y : Zw} (h : Rl x) (g : Rl y) : sv (x * y) = sv x * sv y := by
  obtain ⟨h1, h2⟩ := h
  obtain ⟨g1, g2⟩ := g
  show RS.S (x * y).a (x * y).b = RS.S x.a x.b * RS.S y.a y.b
  rw [← RS.S_mul, mul_def]
  simp only [h1, h2, g1, g2]
  congr 1 <;> grind
theorem Rl.add {x y : Zw} (h : Rl x) (g : Rl y) : Rl (x + y) := ⟨by show x.c + y.c = 0; have := h.c; have := g.c; omega, by show x.d + y.d = -(x.b + y.b); have := h.d; have := g.d; omega⟩
theorem Rl.neg {x : Zw} (h : Rl x) : Rl (-x) := ⟨by show -x.c = 0; have := h.c; omega, by show -x.d = - -x.b; have := h.d; omega⟩
theorem sv_neg (x : Zw) : sv (-x) = -sv x := RS.S_neg x.a x.b
theorem sv_add {x y : Zw} (h : 0 ≤ sv x) (g : 0 ≤ sv y) : 0 ≤ sv (x + y) ∧ (0 < sv x → sv (x + y) = 1) ∧ (0 < sv y → sv (x + y) = 1) := RS.S_add h g
theorem sv_cases (x : Zw) : sv x = 1 ∨ sv x = -1 ∨ sv x = 0 := by
  rcases RS.S_cases x.a x.b with h | h | h
  · exact .inl h.1
  · exact .inr (.inl h.1)
  · exact .inr (.inr h.1)
theorem Rl.conj {x : Zw} (h : Rl x) : conj x = x := by
  obtain ⟨h1, h2⟩ := h
  ext
  · rfl
  · show -x.d = x.b
    omega
  · show -x.c = x.c
    omega
  · show -x.b = x.d
    omega
theorem Rl.mir {r : Ray} (h : Rl r.x) : rmir r = r := by
  show (⟨Zw.conj r.x, r.k⟩ : Ray) = r
  rw [h.conj]
theorem Rl.sg {x : Zw} (h : Rl x) (n : Nat) : Rl (sg n x) := by
  unfold Zw.sg
  split
  · exact h.neg
  · exact h
theorem Rl.tau {x : Zw} (h : Rl x) : Rl (tau x) := ⟨h.c, by show -x.d = - -x.b; have := h.d; omega⟩
/-! rays -/
def neg (r : Ray) : Ray := ⟨-r.x, r.k⟩
theorem real_prod {r s : Ray} (h : Rl r.x) (g : Rl s.x) : Rl (rprod r s).x ∧ sv (rprod r s).x = sv r.x * sv s.x := ⟨(h.mul g).short _, (sv_short (h.mul g) _).trans (sv_mul h g)⟩
theorem real_sum {r s : Ray} (h : Rl r.x) (g : Rl s.x) : Rl (rsum r s).x ∧ sv (rsum r s).x = sv (ps (max r.k s.k - r.k) r.x + ps (max r.k s.k - s.k) s.x) := ⟨((h.ps _).add (g.ps _)).short _, sv_short ((h.ps _).add (g.ps _)) _⟩
theorem sum_pos {r s : Ray} (h : Rl r.x) (g : Rl s.x) (h1 : 0 < sv r.x) (g1 : 0 < sv s.x) : sv (rsum r s).x = 1 := by
  rw [(real_sum h g).2]
  refine (sv_add ?_ ?_).2.1 ?_
  · rw [sv_ps _ h]; omega
  · rw [sv_ps _ g]; omega
  · rw [sv_ps _ h]; exact h1
def lvl (N : Nat) (r : Ray) : Zw := ps (N - r.k) r.x
theorem lvl_real {N : Nat} {r : Ray} (h : Rl r.x) : Rl (lvl N r) := h.ps _
theorem diff_lvl {N : Nat} {r s : Ray} (h : Rl r.x) (g : Rl s.x) (hr : r.k ≤ N) (hs : s.k ≤ N) : sv (rsum r (neg s)).x = sv (lvl N r + -lvl N s) := by
  rw [(real_sum h (s := neg s) g.neg).2]
  have hm : max r.k s.k ≤ N := Nat.max_le.mpr ⟨hr, hs⟩
  have e1 : lvl N r = ps (N - max r.k s.k) (ps (max r.k s.k - r.k) r.x) := by
    rw [← ps_add]
    exact congrArg (fun n => ps n r.x) (by omega)
  have e2 : -lvl N s = ps (N - max r.k s.k) (ps (max r.k s.k - s.k) (-s.x)) := by
    rw [← ps_add, ps_neg]
    exact congrArg (fun n => -ps n s.x) (by omega)
  rw [e1, e2, ← ps_sum, sv_ps _ ((h.ps _).add (g.neg.ps _))]
  rfl
/-- one order: above, or alike -/
theorem diff_trans {a b c : Zw} (h : 0 ≤ sv (a + -b)) (g : 0 ≤ sv (b + -c)) : 0 ≤ sv (a + -c) ∧ (0 < sv (a + -b) → sv (a + -c) = 1) ∧ (0 < sv (b + -c) → sv (a + -c) = 1) := by
  have e : (a + -b) + (b + -c) = a + -c := by
    ext <;> simp only [add_def, neg_def] <;> omega
  rw [← e]
  exact sv_add h g
theorem diff_neg (a b : Zw) : sv (b + -a) = -sv (a + -b) := by
  rw [← sv_neg]
  congr 1
  ext <;> simp only [add_def, neg_def] <;> omega
theorem S_int (n : Int) : RS.S n 0 = RS.sg n := by
  unfold RS.S RS.vl RS.ab RS.sg
  rw [Int.mul_zero, Int.zero_mul, Int.add_zero]
  by_cases h : n = 0
  · subst h
    rfl
  · by_cases g : n < 0
    · rw [if_pos g, Int.mul_neg]
      have := Int.mul_pos_of_neg_of_neg g g
      rw [if_neg (by omega), if_neg (by omega), if_neg h, if_neg (by omega)]
    · rw [if_neg g]
      have := Int.mul_pos (show 0 < n by omega) (show 0 < n by omega)
      rw [if_neg (by omega), if_pos this, if_neg h, if_pos (by omega)]
theorem norm_sign {r : Ray} (h : Rl r.x) : sv (rprod r (rtwin r)).x = RS.sg (r.x.a * r.x.a - 2 * r.x.b * r.x.b) * (if r.k % 2 = 1 then -1 else 1) := by
  have ht : Rl (rtwin r).x := h.tau.sg _
  have hm : Rl (r.x * tau r.x) := h.mul h.tau
  have e0 : r.x * tau r.x = ⟨r.x.a * r.x.a - 2 * r.x.b * r.x.b, 0, 0, 0⟩ := by
    have h1 := h.c
    have h2 := h.d
    rw [mul_def]
    ext <;> simp only [tau, h1, h2] <;> grind
  have e : sv (rprod r (rtwin r)).x = sv (sg r.k (r.x * tau r.x)) := by
    rw [← mul_sg]
    exact sv_short (h.mul ht) _
  rw [e]
  unfold Zw.sg
  split
  · rw [sv_neg, e0]
    show -RS.S _ 0 = _
    rw [S_int, Int.mul_neg, Int.mul_one]
  · rw [e0]
    show RS.S _ 0 = _
    rw [S_int, Int.mul_one]
end RM
set_option Elab.async false
set_option linter.all false
/-! Ro: numbers put in order one by one, plainly. -/
namespace RM
def cnt (d : Nat → Nat → Int) (k : Nat) (o : List Nat) : Nat := (o.filter fun n => decide (0 < d k n)).length
def ins (d : Nat → Nat → Int) (k : Nat) (o : List Nat) : List Nat := o.take (cnt d k o) ++ [k] ++ o.drop (cnt d k o)
theorem ins_mem {d : Nat → Nat → Int} {k : Nat} {o : List Nat} {x : Nat} (h : x ∈ ins d k o) : x = k ∨ x ∈ o := by
  unfold ins at h
  rw [List.append_assoc, List.mem_append, List.mem_append] at h
  rcases h with h | h | h
  · exact .inr (List.mem_of_mem_take h)
  · exact .inl (by simpa using h)
  · exact .inr (List.mem_of_mem_drop h)
theorem ins_length (d : Nat → Nat → Int) (k : Nat) (o : List Nat) : (ins d k o).length = o.length + 1 := by
  have : cnt d k o ≤ o.length := List.length_filter_le _ _
  unfold ins
  simp
  omega
theorem ins_cons_t {d : Nat → Nat → Int} {k a : Nat} {o : List Nat} (h : 0 < d k a) : ins d k (a :: o) = a :: ins d k o := by
  unfold ins cnt
  rw [List.filter_cons_of_pos (by simpa using h)]
  rfl
theorem ins_nil {d : Nat → Nat → Int} {k : Nat} {o : List Nat} (h : ∀ a ∈ o, ¬ 0 < d k a) : ins d k o = k :: o := by
  unfold ins cnt
  rw [List.filter_eq_nil_iff.mpr fun a ha => by simpa using h a ha]
  rfl
theorem ins_sorted {d : Nat → Nat → Int} (hn : ∀ a b, d b a = -d a b) (ht : ∀ a b c, 0 ≤ d a b → 0 ≤ d b c → 0 ≤ d a c ∧ (0 < d a b → 0 < d a c) ∧ (0 < d b c → 0 < d a c)) {k : Nat} :
    ∀ {o : List Nat}, o.Pairwise (fun a b => 0 ≤ d b a) → (ins d k o).Pairwise (fun a b => 0 ≤ d b a)
  | [], _ => by
    rw [ins_nil (by simp)]
    simp
  | a :: o, h => by
    obtain ⟨h1, h2⟩ := List.pairwise_cons.mp h
    by_cases g : 0 < d k a
    · rw [ins_cons_t g]
      refine List.pairwise_cons.mpr ⟨fun x hx => ?_, ins_sorted hn ht h2⟩
      rcases ins_mem hx with rfl | hx
      · omega
      · exact h1 x hx
    · have all : ∀ b ∈ a :: o, ¬ 0 < d k b := fun b hb => by
        rcases List.mem_cons.mp hb with rfl | hb
        · exact g
        · intro z
          exact g ((ht k b a (by omega) (h1 b hb)).2.1 z)
      rw [ins_nil all]
      refine List.pairwise_cons.mpr ⟨fun x hx => ?_, h⟩
      have := all x hx
      have := hn k x
      omega
end RM
set_option Elab.async false
set_option linter.all false
set_option maxRecDepth 100000
set_option maxHeartbeats 8000000
namespace K01
open PySem PySem.Spec PyProof.Rows L2 DL
def topS (i : Nat) : Stmt := PySem.Challenge.pw_eighthturns_k01_main_whole_real_rays_sta.main.body.getD i (.Pass ⟨0, 0, 0, 0⟩)
abbrev s_shortened : Stmt := topS 3
abbrev s_times_root : Stmt := topS 4
abbrev s_ray_sum : Stmt := topS 5
abbrev s_ray_product : Stmt := topS 6
abbrev s_turned_ray : Stmt := topS 7
abbrev s_mirrored : Stmt := topS 8
abbrev s_twin_of : Stmt := topS 9
abbrev s_size_of : Stmt := topS 10
abbrev s_is_real : Stmt := topS 11
abbrev s_sign_of : Stmt := topS 12
abbrev s_over_root : Stmt := topS 13
abbrev s_law_same : Stmt := topS 15
abbrev s_law_take : Stmt := topS 17
abbrev s_law_of : Stmt := topS 19
abbrev s_law_ray : Stmt := topS 20
abbrev s_law_at : Stmt := topS 21
abbrev s_law_ray_sum : Stmt := topS 22
abbrev s_law_ray_minus : Stmt := topS 23
abbrev s_law_ray_prod : Stmt := topS 24
abbrev s_law_sign : Stmt := topS 25
abbrev s_law_small : Stmt := topS 26
abbrev s_law_drawn : Stmt := topS 27
abbrev s_law_pair_right : Stmt := topS 28
abbrev s_law_box : Stmt := topS 16
abbrev s_law_cells : Stmt := topS 18
abbrev s_law : Stmt := topS 29
/-- what the top has laid -/
structure Txt (K : PySem.W.Frag) (mg : Str → Option Value) : Type where
  shortened : DefF K mg "shortened" s_shortened ["numbers", "k"]
  times_root : DefF K mg "times_root" s_times_root ["numbers", "many"]
  ray_sum : DefF K mg "ray_sum" s_ray_sum ["one", "other"]
  ray_product : DefF K mg "ray_product" s_ray_product ["one", "other"]
  turned_ray : DefF K mg "turned_ray" s_turned_ray ["ray", "many"]
  mirrored : DefF K mg "mirrored" s_mirrored ["ray"]
  twin_of : DefF K mg "twin_of" s_twin_of ["ray"]
  size_of : DefF K mg "size_of" s_size_of ["ray"]
  is_real : DefF K mg "is_real" s_is_real ["ray"]
  sign_of : DefF K mg "sign_of" s_sign_of ["ray"]
  over_root : DefF K mg "over_root" s_over_root ["ray", "many"]
  law_same : DefF K mg "_law_same" s_law_same ["got", "due"]
  law_take : DefF K mg "_law_take" s_law_take ["tin", "below_so"]
  law_of : DefF K mg "_law_of" s_law_of ["tin", "goods_so"]
  law_ray : DefF K mg "_law_ray" s_law_ray ["a_so", "b_so", "c_so", "d_so", "k_so"]
  law_at : DefF K mg "_law_at" s_law_at ["ray_so", "k_so"]
  law_ray_sum : DefF K mg "_law_ray_sum" s_law_ray_sum ["one_so", "other_so"]
  law_ray_minus : DefF K mg "_law_ray_minus" s_law_ray_minus ["one_so"]
  law_ray_prod : DefF K mg "_law_ray_prod" s_law_ray_prod ["one_so", "other_so"]
  law_sign : DefF K mg "_law_sign" s_law_sign ["one"]
  law_small : DefF K mg "_law_small" s_law_small ["one"]
  law_drawn : DefF K mg "_law_drawn" s_law_drawn ["tin"]
  law_pair_right : DefF K mg "_law_pair_right" s_law_pair_right ["one", "other"]
  law_box : DefF K mg "_law_box" s_law_box ["script", "k"]
  law_cells : DefF K mg "_law_cells" s_law_cells ["script", "most_so"]
  law : DefF K mg "law" s_law ["script"]
  b_abs : mg "abs" = none
  b_all : mg "all" = none
  b_bool : mg "bool" = none
  b_enumerate : mg "enumerate" = none
  b_int : mg "int" = none
  b_isinstance : mg "isinstance" = none
  b_len : mg "len" = none
  b_list : mg "list" = none
  b_max : mg "max" = none
  b_range : mg "range" = none
  b_str : mg "str" = none
  b_tuple : mg "tuple" = none
  b_zip : mg "zip" = none
  e_Unfit : ExcV K mg "Unfit"
section
variable {P : Program} {w : World} {K : PySem.W.Frag} {mg : Str → Option Value} {base : Heap}
/-! shortened: numbers 0 k 1 a 2 b 3 c 4 d 5 -/
theorem sc_shortened : FnScope ["numbers", "k", "a", "b", "c", "d"] ["numbers", "k"] (defScope s_shortened) := ⟨rfl, rfl, rfl, by decide +kernel, rfl, by decide +kernel, by decide +kernel⟩
def g_shortened : SG := (sSeq (sAsg (dVar 0) (tgT (tgCons (tgN 2) (tgCons (tgN 3) (tgCons (tgN 4) (tgCons (tgN 5) tgNil)))) 4))
    (sSeq (sIf (dUn asBool (dBin opEq (dTup (dCons (dVar 2) (dCons (dVar 3) (dCons (dVar 4) (dCons (dVar 5) dNil))))) (dTup (dCons (dC (.int 0)) (dCons (dC (.int 0)) (dCons (dC (.int 0)) (dCons (dC (.int 0)) dNil))))))) (sRet (dTup (dCons (dC (.int 0)) (dCons (dC (.int 0)) (dCons (dC (.int 0)) (dCons (dC (.int 0)) (dCons (dC (.int 0)) dNil))))))) sNil)
    (sSeq (sWh (fuelI 1) (dAnd (dUn asBool (dBin opGt (dVar 1) (dC (.int 0)))) (dAnd (dUn asBool (dBin opEq (dBin opMod (dBin opAdd (dVar 2) (dVar 4)) (dC (.int 2))) (dC (.int 0)))) (dUn asBool (dBin opEq (dBin opMod (dBin opAdd (dVar 3) (dVar 5)) (dC (.int 2))) (dC (.int 0)))))) (sSeq (sAsg (dTup (dCons (dBin opFdiv (dBin opSub (dVar 3) (dVar 5)) (dC (.int 2))) (dCons (dBin opFdiv (dBin opAdd (dVar 2) (dVar 4)) (dC (.int 2))) (dCons (dBin opFdiv (dBin opAdd (dVar 3) (dVar 5)) (dC (.int 2))) (dCons (dBin opFdiv (dBin opSub (dVar 4) (dVar 2)) (dC (.int 2))) dNil))))) (tgT (tgCons (tgN 2) (tgCons (tgN 3) (tgCons (tgN 4) (tgCons (tgN 5) tgNil)))) 4))
    (sAug 1 opSub (dC (.int 1)))))
    (sRet (dTup (dCons (dVar 2) (dCons (dVar 3) (dCons (dVar 4) (dCons (dVar 5) (dCons (dVar 1) dNil))))))))))
def F_shortened : List D → List D → Option (D × List D) := bodyF 6 2 g_shortened
theorem ok_shortened (T : Txt K mg) : FnOk P w K mg base CX0 1 T.shortened.f T.shortened.fd ["numbers", "k"] (spD K 2 F_shortened) := by
  unfold F_shortened
  refine ok_defn 0 g_shortened T.shortened.fn sc_shortened rfl rfl fun cdv A outer s H E hr => ?_
  have hu := hr.units
  have hu65 := room65 hr
  have nd := sc_shortened.nd
  exact (dss_cons (ds_asg (de_var (i := 0) rfl (by first | exact Or.inl rfl | exact Or.inr (Or.inl rfl) | exact Or.inr (Or.inr rfl))) (dg_tup (n := 4) rfl (dgs_cons (dg_name (i := 2) nd rfl (by first | exact Or.inl rfl | exact Or.inr rfl)) (dgs_cons (dg_name (i := 3) nd rfl (by first | exact Or.inl rfl | exact Or.inr rfl)) (dgs_cons (dg_name (i := 4) nd rfl (by first | exact Or.inl rfl | exact Or.inr rfl)) (dgs_cons (dg_name (i := 5) nd rfl (by first | exact Or.inl rfl | exact Or.inr rfl)) dgs_nil))))))
    (dss_cons (ds_if (dt_eq hu (de_tup (da_cons (de_var (i := 2) rfl (by first | exact Or.inl rfl | exact Or.inr (Or.inl rfl) | exact Or.inr (Or.inr rfl))) (da_cons (de_var (i := 3) rfl (by first | exact Or.inl rfl | exact Or.inr (Or.inl rfl) | exact Or.inr (Or.inr rfl))) (da_cons (de_var (i := 4) rfl (by first | exact Or.inl rfl | exact Or.inr (Or.inl rfl) | exact Or.inr (Or.inr rfl))) (da_cons (de_var (i := 5) rfl (by first | exact Or.inl rfl | exact Or.inr (Or.inl rfl) | exact Or.inr (Or.inr rfl))) da_nil))))) (de_tup (da_cons de_int (da_cons de_int (da_cons de_int (da_cons de_int da_nil)))))) (dss_one (ds_ret (de_tup (da_cons de_int (da_cons de_int (da_cons de_int (da_cons de_int (da_cons de_int da_nil)))))))) dss_nil)
    (dss_cons (ds_while (fuelI 1) PassesOwn.never (DW.dt (dw_and (dt_gt (de_var (i := 1) rfl (by first | exact Or.inl rfl | exact Or.inr (Or.inl rfl) | exact Or.inr (Or.inr rfl))) de_int) (dw_and (dt_eq hu (de_mod (de_add (de_var (i := 2) rfl (by first | exact Or.inl rfl | exact Or.inr (Or.inl rfl) | exact Or.inr (Or.inr rfl))) (de_var (i := 4) rfl (by first | exact Or.inl rfl | exact Or.inr (Or.inl rfl) | exact Or.inr (Or.inr rfl)))) de_int) de_int) (dw_and1 (dt_eq hu (de_mod (de_add (de_var (i := 3) rfl (by first | exact Or.inl rfl | exact Or.inr (Or.inl rfl) | exact Or.inr (Or.inr rfl))) (de_var (i := 5) rfl (by first | exact Or.inl rfl | exact Or.inr (Or.inl rfl) | exact Or.inr (Or.inr rfl)))) de_int) de_int))))) (dss_cons (ds_asg (de_tup (da_cons (de_fdiv (de_sub (de_var (i := 3) rfl (by first | exact Or.inl rfl | exact Or.inr (Or.inl rfl) | exact Or.inr (Or.inr rfl))) (de_var (i := 5) rfl (by first | exact Or.inl rfl | exact Or.inr (Or.inl rfl) | exact Or.inr (Or.inr rfl)))) de_int) (da_cons (de_fdiv (de_add (de_var (i := 2) rfl (by first | exact Or.inl rfl | exact Or.inr (Or.inl rfl) | exact Or.inr (Or.inr rfl))) (de_var (i := 4) rfl (by first | exact Or.inl rfl | exact Or.inr (Or.inl rfl) | exact Or.inr (Or.inr rfl)))) de_int) (da_cons (de_fdiv (de_add (de_var (i := 3) rfl (by first | exact Or.inl rfl | exact Or.inr (Or.inl rfl) | exact Or.inr (Or.inr rfl))) (de_var (i := 5) rfl (by first | exact Or.inl rfl | exact Or.inr (Or.inl rfl) | exact Or.inr (Or.inr rfl)))) de_int) (da_cons (de_fdiv (de_sub (de_var (i := 4) rfl (by first | exact Or.inl rfl | exact Or.inr (Or.inl rfl) | exact Or.inr (Or.inr rfl))) (de_var (i := 2) rfl (by first | exact Or.inl rfl | exact Or.inr (Or.inl rfl) | exact Or.inr (Or.inr rfl)))) de_int) da_nil))))) (dg_tup (n := 4) rfl (dgs_cons (dg_name (i := 2) nd rfl (by first | exact Or.inl rfl | exact Or.inr rfl)) (dgs_cons (dg_name (i := 3) nd rfl (by first | exact Or.inl rfl | exact Or.inr rfl)) (dgs_cons (dg_name (i := 4) nd rfl (by first | exact Or.inl rfl | exact Or.inr rfl)) (dgs_cons (dg_name (i := 5) nd rfl (by first | exact Or.inl rfl | exact Or.inr rfl)) dgs_nil))))))
    (dss_one (ds_aug (i := 1) nd rfl (by first | exact Or.inl rfl | exact Or.inr rfl) de_int pip_sub od_I))))
    (dss_one (ds_ret (de_tup (da_cons (de_var (i := 2) rfl (by first | exact Or.inl rfl | exact Or.inr (Or.inl rfl) | exact Or.inr (Or.inr rfl))) (da_cons (de_var (i := 3) rfl (by first | exact Or.inl rfl | exact Or.inr (Or.inl rfl) | exact Or.inr (Or.inr rfl))) (da_cons (de_var (i := 4) rfl (by first | exact Or.inl rfl | exact Or.inr (Or.inl rfl) | exact Or.inr (Or.inr rfl))) (da_cons (de_var (i := 5) rfl (by first | exact Or.inl rfl | exact Or.inr (Or.inl rfl) | exact Or.inr (Or.inr rfl))) (da_cons (de_var (i := 1) rfl (by first | exact Or.inl rfl | exact Or.inr (Or.inl rfl) | exact Or.inr (Or.inr rfl))) da_nil)))))))))))
/-! times_root: numbers 0 many 1 a 2 b 3 c 4 d 5 twos 6 _ 7 -/
theorem sc_times_root : FnScope ["numbers", "many", "a", "b", "c", "d", "twos", "_"] ["numbers", "many"] (defScope s_times_root) := ⟨rfl, rfl, rfl, by decide +kernel, rfl, by decide +kernel, by decide +kernel⟩
def g_times_root : SG := (sSeq (sAsg (dVar 0) (tgT (tgCons (tgN 2) (tgCons (tgN 3) (tgCons (tgN 4) (tgCons (tgN 5) tgNil)))) 4))
    (sSeq (sIf (dUn asBool (dBin opEq (dBin opMod (dVar 1) (dC (.int 2))) (dC (.int 1)))) (sAsg (dTup (dCons (dBin opSub (dVar 3) (dVar 5)) (dCons (dBin opAdd (dVar 2) (dVar 4)) (dCons (dBin opAdd (dVar 3) (dVar 5)) (dCons (dBin opSub (dVar 4) (dVar 2)) dNil))))) (tgT (tgCons (tgN 2) (tgCons (tgN 3) (tgCons (tgN 4) (tgCons (tgN 5) tgNil)))) 4)) sNil)
    (sSeq (sSet 6 (dC (.int 1)))
    (sSeq (sFor (dUn asRng1 (dCons (dBin opFdiv (dVar 1) (dC (.int 2))) dNil)) (tgN 7) (sSet 6 (dBin opMul (dVar 6) (dC (.int 2)))))
    (sRet (dTup (dCons (dBin opMul (dVar 2) (dVar 6)) (dCons (dBin opMul (dVar 3) (dVar 6)) (dCons (dBin opMul (dVar 4) (dVar 6)) (dCons (dBin opMul (dVar 5) (dVar 6)) dNil))))))))))
def F_times_root : List D → List D → Option (D × List D) := bodyF 8 2 g_times_root
theorem ok_times_root (T : Txt K mg) : FnOk P w K mg base CX0 1 T.times_root.f T.times_root.fd ["numbers", "many"] (spD K 2 F_times_root) := by
  unfold F_times_root
  refine ok_defn 0 g_times_root T.times_root.fn sc_times_root rfl rfl fun cdv A outer s H E hr => ?_
  have hu := hr.units
  have hu65 := room65 hr
  have nd := sc_times_root.nd
  exact (dss_cons (ds_asg (de_var (i := 0) rfl (by first | exact Or.inl rfl | exact Or.inr (Or.inl rfl) | exact Or.inr (Or.inr rfl))) (dg_tup (n := 4) rfl (dgs_cons (dg_name (i := 2) nd rfl (by first | exact Or.inl rfl | exact Or.inr rfl)) (dgs_cons (dg_name (i := 3) nd rfl (by first | exact Or.inl rfl | exact Or.inr rfl)) (dgs_cons (dg_name (i := 4) nd rfl (by first | exact Or.inl rfl | exact Or.inr rfl)) (dgs_cons (dg_name (i := 5) nd rfl (by first | exact Or.inl rfl | exact Or.inr rfl)) dgs_nil))))))
    (dss_cons (ds_if (dt_eq hu (de_mod (de_var (i := 1) rfl (by first | exact Or.inl rfl | exact Or.inr (Or.inl rfl) | exact Or.inr (Or.inr rfl))) de_int) de_int) (dss_one (ds_asg (de_tup (da_cons (de_sub (de_var (i := 3) rfl (by first | exact Or.inl rfl | exact Or.inr (Or.inl rfl) | exact Or.inr (Or.inr rfl))) (de_var (i := 5) rfl (by first | exact Or.inl rfl | exact Or.inr (Or.inl rfl) | exact Or.inr (Or.inr rfl)))) (da_cons (de_add (de_var (i := 2) rfl (by first | exact Or.inl rfl | exact Or.inr (Or.inl rfl) | exact Or.inr (Or.inr rfl))) (de_var (i := 4) rfl (by first | exact Or.inl rfl | exact Or.inr (Or.inl rfl) | exact Or.inr (Or.inr rfl)))) (da_cons (de_add (de_var (i := 3) rfl (by first | exact Or.inl rfl | exact Or.inr (Or.inl rfl) | exact Or.inr (Or.inr rfl))) (de_var (i := 5) rfl (by first | exact Or.inl rfl | exact Or.inr (Or.inl rfl) | exact Or.inr (Or.inr rfl)))) (da_cons (de_sub (de_var (i := 4) rfl (by first | exact Or.inl rfl | exact Or.inr (Or.inl rfl) | exact Or.inr (Or.inr rfl))) (de_var (i := 2) rfl (by first | exact Or.inl rfl | exact Or.inr (Or.inl rfl) | exact Or.inr (Or.inr rfl)))) da_nil))))) (dg_tup (n := 4) rfl (dgs_cons (dg_name (i := 2) nd rfl (by first | exact Or.inl rfl | exact Or.inr rfl)) (dgs_cons (dg_name (i := 3) nd rfl (by first | exact Or.inl rfl | exact Or.inr rfl)) (dgs_cons (dg_name (i := 4) nd rfl (by first | exact Or.inl rfl | exact Or.inr rfl)) (dgs_cons (dg_name (i := 5) nd rfl (by first | exact Or.inl rfl | exact Or.inr rfl)) dgs_nil))))))) dss_nil)
    (dss_cons (ds_set (i := 6) nd rfl (by first | exact Or.inl rfl | exact Or.inr rfl) de_int)
    (dss_cons (ds_for PassesOwn.never rfl (di_rng1 (by rfl) T.b_range (da_cons (de_fdiv (de_var (i := 1) rfl (by first | exact Or.inl rfl | exact Or.inr (Or.inl rfl) | exact Or.inr (Or.inr rfl))) de_int) da_nil)) (dg_name (i := 7) nd rfl (by first | exact Or.inl rfl | exact Or.inr rfl)) (dss_one (ds_set (i := 6) nd rfl (by first | exact Or.inl rfl | exact Or.inr rfl) (de_mul (de_var (i := 6) rfl (by first | exact Or.inl rfl | exact Or.inr (Or.inl rfl) | exact Or.inr (Or.inr rfl))) de_int))))
    (dss_one (ds_ret (de_tup (da_cons (de_mul (de_var (i := 2) rfl (by first | exact Or.inl rfl | exact Or.inr (Or.inl rfl) | exact Or.inr (Or.inr rfl))) (de_var (i := 6) rfl (by first | exact Or.inl rfl | exact Or.inr (Or.inl rfl) | exact Or.inr (Or.inr rfl)))) (da_cons (de_mul (de_var (i := 3) rfl (by first | exact Or.inl rfl | exact Or.inr (Or.inl rfl) | exact Or.inr (Or.inr rfl))) (de_var (i := 6) rfl (by first | exact Or.inl rfl | exact Or.inr (Or.inl rfl) | exact Or.inr (Or.inr rfl)))) (da_cons (de_mul (de_var (i := 4) rfl (by first | exact Or.inl rfl | exact Or.inr (Or.inl rfl) | exact Or.inr (Or.inr rfl))) (de_var (i := 6) rfl (by first | exact Or.inl rfl | exact Or.inr (Or.inl rfl) | exact Or.inr (Or.inr rfl)))) (da_cons (de_mul (de_var (i := 5) rfl (by first | exact Or.inl rfl | exact Or.inr (Or.inl rfl) | exact Or.inr (Or.inr rfl))) (de_var (i := 6) rfl (by first | exact Or.inl rfl | exact Or.inr (Or.inl rfl) | exact Or.inr (Or.inr rfl)))) da_nil)))))))))))
/-! ray_sum: one 0 other 1 k 2 near 3 far 4 -/
theorem sc_ray_sum : FnScope ["one", "other", "k", "near", "far"] ["one", "other"] (defScope s_ray_sum) := ⟨rfl, rfl, rfl, by decide +kernel, rfl, by decide +kernel, by decide +kernel⟩
def g_ray_sum : SG := (sSeq (sSet 2 (dUn bMax2 (dCons (dIx (dVar 0) (dC (.int 4))) (dCons (dIx (dVar 1) (dC (.int 4))) dNil))))
    (sSeq (sPar 3 4 (dCons (dCall F_times_root (dCons (dUn bTuple (dCons (dSl (dVar 0) dNoPart (dUn asInt (dC (.int 4)))) dNil)) (dCons (dBin opSub (dVar 2) (dIx (dVar 0) (dC (.int 4)))) dNil))) (dCons (dCall F_times_root (dCons (dUn bTuple (dCons (dSl (dVar 1) dNoPart (dUn asInt (dC (.int 4)))) dNil)) (dCons (dBin opSub (dVar 2) (dIx (dVar 1) (dC (.int 4)))) dNil))) dNil)))
    (sRet (dCall F_shortened (dCons (dTup (dCons (dBin opAdd (dIx (dVar 3) (dC (.int 0))) (dIx (dVar 4) (dC (.int 0)))) (dCons (dBin opAdd (dIx (dVar 3) (dC (.int 1))) (dIx (dVar 4) (dC (.int 1)))) (dCons (dBin opAdd (dIx (dVar 3) (dC (.int 2))) (dIx (dVar 4) (dC (.int 2)))) (dCons (dBin opAdd (dIx (dVar 3) (dC (.int 3))) (dIx (dVar 4) (dC (.int 3)))) dNil))))) (dCons (dVar 2) dNil))))))
def F_ray_sum : List D → List D → Option (D × List D) := bodyF 5 2 g_ray_sum
theorem ok_ray_sum (T : Txt K mg) : FnOk P w K mg base CX0 2 T.ray_sum.f T.ray_sum.fd ["one", "other"] (spD K 2 F_ray_sum) := by
  unfold F_ray_sum
  refine ok_defn 1 g_ray_sum T.ray_sum.fn sc_ray_sum rfl rfl fun cdv A outer s H E hr => ?_
  have hu := hr.units
  have hu65 := room65 hr
  have nd := sc_ray_sum.nd
  exact (dss_cons (ds_set (i := 2) nd rfl (by first | exact Or.inl rfl | exact Or.inr rfl) (de_callB (call_max2 rfl) cd_max2 (by rfl) T.b_max boot_max (da_cons (de_ix (de_var (i := 0) rfl (by first | exact Or.inl rfl | exact Or.inr (Or.inl rfl) | exact Or.inr (Or.inr rfl))) de_int (plainIx rfl)) (da_cons (de_ix (de_var (i := 1) rfl (by first | exact Or.inl rfl | exact Or.inr (Or.inl rfl) | exact Or.inr (Or.inr rfl))) de_int (plainIx rfl)) da_nil))))
    (dss_cons (ds_par (i := 3) (j := 4) rfl nd rfl rfl (by decide) rfl rfl (da_cons (de_call (ok_times_root T) (hr.mono (by decide)) (by rfl) T.times_root.g T.times_root.fn.kp T.times_root.bd pass0 (da_cons (de_callTy call_tuple_of cd_tuple (by rfl) T.b_tuple boot_tuple (da_cons (de_sl (de_var (i := 0) rfl (by first | exact Or.inl rfl | exact Or.inr (Or.inl rfl) | exact Or.inr (Or.inr rfl))) do_none (do_some de_int)) da_nil)) (da_cons (de_sub (de_var (i := 2) rfl (by first | exact Or.inl rfl | exact Or.inr (Or.inl rfl) | exact Or.inr (Or.inr rfl))) (de_ix (de_var (i := 0) rfl (by first | exact Or.inl rfl | exact Or.inr (Or.inl rfl) | exact Or.inr (Or.inr rfl))) de_int (plainIx rfl))) da_nil)) (dCons_len (dCons_len (fun _ _ _ _ h => dNil_len h)))) (da_cons (de_call (ok_times_root T) (hr.mono (by decide)) (by rfl) T.times_root.g T.times_root.fn.kp T.times_root.bd pass0 (da_cons (de_callTy call_tuple_of cd_tuple (by rfl) T.b_tuple boot_tuple (da_cons (de_sl (de_var (i := 1) rfl (by first | exact Or.inl rfl | exact Or.inr (Or.inl rfl) | exact Or.inr (Or.inr rfl))) do_none (do_some de_int)) da_nil)) (da_cons (de_sub (de_var (i := 2) rfl (by first | exact Or.inl rfl | exact Or.inr (Or.inl rfl) | exact Or.inr (Or.inr rfl))) (de_ix (de_var (i := 1) rfl (by first | exact Or.inl rfl | exact Or.inr (Or.inl rfl) | exact Or.inr (Or.inr rfl))) de_int (plainIx rfl))) da_nil)) (dCons_len (dCons_len (fun _ _ _ _ h => dNil_len h)))) da_nil)) (by rfl))
    (dss_one (ds_ret (de_call (ok_shortened T) (hr.mono (by decide)) (by rfl) T.shortened.g T.shortened.fn.kp T.shortened.bd pass0 (da_cons (de_tup (da_cons (de_add (de_ix (de_var (i := 3) rfl (by first | exact Or.inl rfl | exact Or.inr (Or.inl rfl) | exact Or.inr (Or.inr rfl))) de_int (plainIx rfl)) (de_ix (de_var (i := 4) rfl (by first | exact Or.inl rfl | exact Or.inr (Or.inl rfl) | exact Or.inr (Or.inr rfl))) de_int (plainIx rfl))) (da_cons (de_add (de_ix (de_var (i := 3) rfl (by first | exact Or.inl rfl | exact Or.inr (Or.inl rfl) | exact Or.inr (Or.inr rfl))) de_int (plainIx rfl)) (de_ix (de_var (i := 4) rfl (by first | exact Or.inl rfl | exact Or.inr (Or.inl rfl) | exact Or.inr (Or.inr rfl))) de_int (plainIx rfl))) (da_cons (de_add (de_ix (de_var (i := 3) rfl (by first | exact Or.inl rfl | exact Or.inr (Or.inl rfl) | exact Or.inr (Or.inr rfl))) de_int (plainIx rfl)) (de_ix (de_var (i := 4) rfl (by first | exact Or.inl rfl | exact Or.inr (Or.inl rfl) | exact Or.inr (Or.inr rfl))) de_int (plainIx rfl))) (da_cons (de_add (de_ix (de_var (i := 3) rfl (by first | exact Or.inl rfl | exact Or.inr (Or.inl rfl) | exact Or.inr (Or.inr rfl))) de_int (plainIx rfl)) (de_ix (de_var (i := 4) rfl (by first | exact Or.inl rfl | exact Or.inr (Or.inl rfl) | exact Or.inr (Or.inr rfl))) de_int (plainIx rfl))) da_nil))))) (da_cons (de_var (i := 2) rfl (by first | exact Or.inl rfl | exact Or.inr (Or.inl rfl) | exact Or.inr (Or.inr rfl))) da_nil)) (dCons_len (dCons_len (fun _ _ _ _ h => dNil_len h))))))))
/-! ray_product: one 0 other 1 a 2 b 3 c 4 d 5 near 6 e 7 f 8 g 9 h 10 far 11 first 12 second 13 third 14 last 15 -/
theorem sc_ray_product : FnScope ["one", "other", "a", "b", "c", "d", "near", "e", "f", "g", "h", "far", "first", "second", "third", "last"] ["one", "other"] (defScope s_ray_product) := ⟨rfl, rfl, rfl, by decide +kernel, rfl, by decide +kernel, by decide +kernel⟩
def g_ray_product : SG := (sSeq (sAsg (dVar 0) (tgT (tgCons (tgN 2) (tgCons (tgN 3) (tgCons (tgN 4) (tgCons (tgN 5) (tgCons (tgN 6) tgNil))))) 5))
    (sSeq (sAsg (dVar 1) (tgT (tgCons (tgN 7) (tgCons (tgN 8) (tgCons (tgN 9) (tgCons (tgN 10) (tgCons (tgN 11) tgNil))))) 5))
    (sSeq (sPar 12 13 (dCons (dBin opSub (dBin opSub (dBin opSub (dBin opMul (dVar 2) (dVar 7)) (dBin opMul (dVar 3) (dVar 10))) (dBin opMul (dVar 4) (dVar 9))) (dBin opMul (dVar 5) (dVar 8))) (dCons (dBin opSub (dBin opSub (dBin opAdd (dBin opMul (dVar 2) (dVar 8)) (dBin opMul (dVar 3) (dVar 7))) (dBin opMul (dVar 4) (dVar 10))) (dBin opMul (dVar 5) (dVar 9))) dNil)))
    (sSeq (sPar 14 15 (dCons (dBin opSub (dBin opAdd (dBin opAdd (dBin opMul (dVar 2) (dVar 9)) (dBin opMul (dVar 3) (dVar 8))) (dBin opMul (dVar 4) (dVar 7))) (dBin opMul (dVar 5) (dVar 10))) (dCons (dBin opAdd (dBin opAdd (dBin opAdd (dBin opMul (dVar 2) (dVar 10)) (dBin opMul (dVar 3) (dVar 9))) (dBin opMul (dVar 4) (dVar 8))) (dBin opMul (dVar 5) (dVar 7))) dNil)))
    (sRet (dCall F_shortened (dCons (dTup (dCons (dVar 12) (dCons (dVar 13) (dCons (dVar 14) (dCons (dVar 15) dNil))))) (dCons (dBin opAdd (dVar 6) (dVar 11)) dNil))))))))
def F_ray_product : List D → List D → Option (D × List D) := bodyF 16 2 g_ray_product
theorem ok_ray_product (T : Txt K mg) : FnOk P w K mg base CX0 2 T.ray_product.f T.ray_product.fd ["one", "other"] (spD K 2 F_ray_product) := by
  unfold F_ray_product
  refine ok_defn 1 g_ray_product T.ray_product.fn sc_ray_product rfl rfl fun cdv A outer s H E hr => ?_
  have hu := hr.units
  have hu65 := room65 hr
  have nd := sc_ray_product.nd
  exact (dss_cons (ds_asg (de_var (i := 0) rfl (by first | exact Or.inl rfl | exact Or.inr (Or.inl rfl) | exact Or.inr (Or.inr rfl))) (dg_tup (n := 5) rfl (dgs_cons (dg_name (i := 2) nd rfl (by first | exact Or.inl rfl | exact Or.inr rfl)) (dgs_cons (dg_name (i := 3) nd rfl (by first | exact Or.inl rfl | exact Or.inr rfl)) (dgs_cons (dg_name (i := 4) nd rfl (by first | exact Or.inl rfl | exact Or.inr rfl)) (dgs_cons (dg_name (i := 5) nd rfl (by first | exact Or.inl rfl | exact Or.inr rfl)) (dgs_cons (dg_name (i := 6) nd rfl (by first | exact Or.inl rfl | exact Or.inr rfl)) dgs_nil)))))))
    (dss_cons (ds_asg (de_var (i := 1) rfl (by first | exact Or.inl rfl | exact Or.inr (Or.inl rfl) | exact Or.inr (Or.inr rfl))) (dg_tup (n := 5) rfl (dgs_cons (dg_name (i := 7) nd rfl (by first | exact Or.inl rfl | exact Or.inr rfl)) (dgs_cons (dg_name (i := 8) nd rfl (by first | exact Or.inl rfl | exact Or.inr rfl)) (dgs_cons (dg_name (i := 9) nd rfl (by first | exact Or.inl rfl | exact Or.inr rfl)) (dgs_cons (dg_name (i := 10) nd rfl (by first | exact Or.inl rfl | exact Or.inr rfl)) (dgs_cons (dg_name (i := 11) nd rfl (by first | exact Or.inl rfl | exact Or.inr rfl)) dgs_nil)))))))
    (dss_cons (ds_par (i := 12) (j := 13) rfl nd rfl rfl (by decide) rfl rfl (da_cons (de_sub (de_sub (de_sub (de_mul (de_var (i := 2) rfl (by first | exact Or.inl rfl | exact Or.inr (Or.inl rfl) | exact Or.inr (Or.inr rfl))) (de_var (i := 7) rfl (by first | exact Or.inl rfl | exact Or.inr (Or.inl rfl) | exact Or.inr (Or.inr rfl)))) (de_mul (de_var (i := 3) rfl (by first | exact Or.inl rfl | exact Or.inr (Or.inl rfl) | exact Or.inr (Or.inr rfl))) (de_var (i := 10) rfl (by first | exact Or.inl rfl | exact Or.inr (Or.inl rfl) | exact Or.inr (Or.inr rfl))))) (de_mul (de_var (i := 4) rfl (by first | exact Or.inl rfl | exact Or.inr (Or.inl rfl) | exact Or.inr (Or.inr rfl))) (de_var (i := 9) rfl (by first | exact Or.inl rfl | exact Or.inr (Or.inl rfl) | exact Or.inr (Or.inr rfl))))) (de_mul (de_var (i := 5) rfl (by first | exact Or.inl rfl | exact Or.inr (Or.inl rfl) | exact Or.inr (Or.inr rfl))) (de_var (i := 8) rfl (by first | exact Or.inl rfl | exact Or.inr (Or.inl rfl) | exact Or.inr (Or.inr rfl))))) (da_cons (de_sub (de_sub (de_add (de_mul (de_var (i := 2) rfl (by first | exact Or.inl rfl | exact Or.inr (Or.inl rfl) | exact Or.inr (Or.inr rfl))) (de_var (i := 8) rfl (by first | exact Or.inl rfl | exact Or.inr (Or.inl rfl) | exact Or.inr (Or.inr rfl)))) (de_mul (de_var (i := 3) rfl (by first | exact Or.inl rfl | exact Or.inr (Or.inl rfl) | exact Or.inr (Or.inr rfl))) (de_var (i := 7) rfl (by first | exact Or.inl rfl | exact Or.inr (Or.inl rfl) | exact Or.inr (Or.inr rfl))))) (de_mul (de_var (i := 4) rfl (by first | exact Or.inl rfl | exact Or.inr (Or.inl rfl) | exact Or.inr (Or.inr rfl))) (de_var (i := 10) rfl (by first | exact Or.inl rfl | exact Or.inr (Or.inl rfl) | exact Or.inr (Or.inr rfl))))) (de_mul (de_var (i := 5) rfl (by first | exact Or.inl rfl | exact Or.inr (Or.inl rfl) | exact Or.inr (Or.inr rfl))) (de_var (i := 9) rfl (by first | exact Or.inl rfl | exact Or.inr (Or.inl rfl) | exact Or.inr (Or.inr rfl))))) da_nil)) (by rfl))
    (dss_cons (ds_par (i := 14) (j := 15) rfl nd rfl rfl (by decide) rfl rfl (da_cons (de_sub (de_add (de_add (de_mul (de_var (i := 2) rfl (by first | exact Or.inl rfl | exact Or.inr (Or.inl rfl) | exact Or.inr (Or.inr rfl))) (de_var (i := 9) rfl (by first | exact Or.inl rfl | exact Or.inr (Or.inl rfl) | exact Or.inr (Or.inr rfl)))) (de_mul (de_var (i := 3) rfl (by first | exact Or.inl rfl | exact Or.inr (Or.inl rfl) | exact Or.inr (Or.inr rfl))) (de_var (i := 8) rfl (by first | exact Or.inl rfl | exact Or.inr (Or.inl rfl) | exact Or.inr (Or.inr rfl))))) (de_mul (de_var (i := 4) rfl (by first | exact Or.inl rfl | exact Or.inr (Or.inl rfl) | exact Or.inr (Or.inr rfl))) (de_var (i := 7) rfl (by first | exact Or.inl rfl | exact Or.inr (Or.inl rfl) | exact Or.inr (Or.inr rfl))))) (de_mul (de_var (i := 5) rfl (by first | exact Or.inl rfl | exact Or.inr (Or.inl rfl) | exact Or.inr (Or.inr rfl))) (de_var (i := 10) rfl (by first | exact Or.inl rfl | exact Or.inr (Or.inl rfl) | exact Or.inr (Or.inr rfl))))) (da_cons (de_add (de_add (de_add (de_mul (de_var (i := 2) rfl (by first | exact Or.inl rfl | exact Or.inr (Or.inl rfl) | exact Or.inr (Or.inr rfl))) (de_var (i := 10) rfl (by first | exact Or.inl rfl | exact Or.inr (Or.inl rfl) | exact Or.inr (Or.inr rfl)))) (de_mul (de_var (i := 3) rfl (by first | exact Or.inl rfl | exact Or.inr (Or.inl rfl) | exact Or.inr (Or.inr rfl))) (de_var (i := 9) rfl (by first | exact Or.inl rfl | exact Or.inr (Or.inl rfl) | exact Or.inr (Or.inr rfl))))) (de_mul (de_var (i := 4) rfl (by first | exact Or.inl rfl | exact Or.inr (Or.inl rfl) | exact Or.inr (Or.inr rfl))) (de_var (i := 8) rfl (by first | exact Or.inl rfl | exact Or.inr (Or.inl rfl) | exact Or.inr (Or.inr rfl))))) (de_mul (de_var (i := 5) rfl (by first | exact Or.inl rfl | exact Or.inr (Or.inl rfl) | exact Or.inr (Or.inr rfl))) (de_var (i := 7) rfl (by first | exact Or.inl rfl | exact Or.inr (Or.inl rfl) | exact Or.inr (Or.inr rfl))))) da_nil)) (by rfl))
    (dss_one (ds_ret (de_call (ok_shortened T) (hr.mono (by decide)) (by rfl) T.shortened.g T.shortened.fn.kp T.shortened.bd pass0 (da_cons (de_tup (da_cons (de_var (i := 12) rfl (by first | exact Or.inl rfl | exact Or.inr (Or.inl rfl) | exact Or.inr (Or.inr rfl))) (da_cons (de_var (i := 13) rfl (by first | exact Or.inl rfl | exact Or.inr (Or.inl rfl) | exact Or.inr (Or.inr rfl))) (da_cons (de_var (i := 14) rfl (by first | exact Or.inl rfl | exact Or.inr (Or.inl rfl) | exact Or.inr (Or.inr rfl))) (da_cons (de_var (i := 15) rfl (by first | exact Or.inl rfl | exact Or.inr (Or.inl rfl) | exact Or.inr (Or.inr rfl))) da_nil))))) (da_cons (de_add (de_var (i := 6) rfl (by first | exact Or.inl rfl | exact Or.inr (Or.inl rfl) | exact Or.inr (Or.inr rfl))) (de_var (i := 11) rfl (by first | exact Or.inl rfl | exact Or.inr (Or.inl rfl) | exact Or.inr (Or.inr rfl)))) da_nil)) (dCons_len (dCons_len (fun _ _ _ _ h => dNil_len h))))))))))
/-! turned_ray: ray 0 many 1 numbers 2 _ 3 -/
theorem sc_turned_ray : FnScope ["ray", "many", "numbers", "_"] ["ray", "many"] (defScope s_turned_ray) := ⟨rfl, rfl, rfl, by decide +kernel, rfl, by decide +kernel, by decide +kernel⟩
def g_turned_ray : SG := (sSeq (sSet 2 (dUn bTuple (dCons (dSl (dVar 0) dNoPart (dUn asInt (dC (.int 4)))) dNil)))
    (sSeq (sSet 1 (dBin opMod (dVar 1) (dC (.int 8))))
    (sSeq (sIf (dUn asBool (dBin opGe (dVar 1) (dC (.int 4)))) (sSet 2 (dTup (dCons (dUn opNeg (dIx (dVar 2) (dC (.int 0)))) (dCons (dUn opNeg (dIx (dVar 2) (dC (.int 1)))) (dCons (dUn opNeg (dIx (dVar 2) (dC (.int 2)))) (dCons (dUn opNeg (dIx (dVar 2) (dC (.int 3)))) dNil)))))) sNil)
    (sSeq (sFor (dUn asRng1 (dCons (dBin opMod (dVar 1) (dC (.int 4))) dNil)) (tgN 3) (sSet 2 (dBin opAdd (dTup (dCons (dUn opNeg (dIx (dVar 2) (dC (.int 3)))) dNil)) (dSl (dVar 2) dNoPart (dUn asInt (dC (.int 3)))))))
    (sRet (dBin opAdd (dVar 2) (dTup (dCons (dIx (dVar 0) (dC (.int 4))) dNil))))))))
def F_turned_ray : List D → List D → Option (D × List D) := bodyF 4 2 g_turned_ray
theorem ok_turned_ray (T : Txt K mg) : FnOk P w K mg base CX0 1 T.turned_ray.f T.turned_ray.fd ["ray", "many"] (spD K 2 F_turned_ray) := by
  unfold F_turned_ray
  refine ok_defn 0 g_turned_ray T.turned_ray.fn sc_turned_ray rfl rfl fun cdv A outer s H E hr => ?_
  have hu := hr.units
  have hu65 := room65 hr
  have nd := sc_turned_ray.nd
  exact (dss_cons (ds_set (i := 2) nd rfl (by first | exact Or.inl rfl | exact Or.inr rfl) (de_callTy call_tuple_of cd_tuple (by rfl) T.b_tuple boot_tuple (da_cons (de_sl (de_var (i := 0) rfl (by first | exact Or.inl rfl | exact Or.inr (Or.inl rfl) | exact Or.inr (Or.inr rfl))) do_none (do_some de_int)) da_nil)))
    (dss_cons (ds_set (i := 1) nd rfl (by first | exact Or.inl rfl | exact Or.inr rfl) (de_mod (de_var (i := 1) rfl (by first | exact Or.inl rfl | exact Or.inr (Or.inl rfl) | exact Or.inr (Or.inr rfl))) de_int))
    (dss_cons (ds_if (dt_ge (de_var (i := 1) rfl (by first | exact Or.inl rfl | exact Or.inr (Or.inl rfl) | exact Or.inr (Or.inr rfl))) de_int) (dss_one (ds_set (i := 2) nd rfl (by first | exact Or.inl rfl | exact Or.inr rfl) (de_tup (da_cons (de_neg (de_ix (de_var (i := 2) rfl (by first | exact Or.inl rfl | exact Or.inr (Or.inl rfl) | exact Or.inr (Or.inr rfl))) de_int (plainIx rfl))) (da_cons (de_neg (de_ix (de_var (i := 2) rfl (by first | exact Or.inl rfl | exact Or.inr (Or.inl rfl) | exact Or.inr (Or.inr rfl))) de_int (plainIx rfl))) (da_cons (de_neg (de_ix (de_var (i := 2) rfl (by first | exact Or.inl rfl | exact Or.inr (Or.inl rfl) | exact Or.inr (Or.inr rfl))) de_int (plainIx rfl))) (da_cons (de_neg (de_ix (de_var (i := 2) rfl (by first | exact Or.inl rfl | exact Or.inr (Or.inl rfl) | exact Or.inr (Or.inr rfl))) de_int (plainIx rfl))) da_nil))))))) dss_nil)
    (dss_cons (ds_for PassesOwn.never rfl (di_rng1 (by rfl) T.b_range (da_cons (de_mod (de_var (i := 1) rfl (by first | exact Or.inl rfl | exact Or.inr (Or.inl rfl) | exact Or.inr (Or.inr rfl))) de_int) da_nil)) (dg_name (i := 3) nd rfl (by first | exact Or.inl rfl | exact Or.inr rfl)) (dss_one (ds_set (i := 2) nd rfl (by first | exact Or.inl rfl | exact Or.inr rfl) (de_add (de_tup (da_cons (de_neg (de_ix (de_var (i := 2) rfl (by first | exact Or.inl rfl | exact Or.inr (Or.inl rfl) | exact Or.inr (Or.inr rfl))) de_int (plainIx rfl))) da_nil)) (de_sl (de_var (i := 2) rfl (by first | exact Or.inl rfl | exact Or.inr (Or.inl rfl) | exact Or.inr (Or.inr rfl))) do_none (do_some de_int))))))
    (dss_one (ds_ret (de_add (de_var (i := 2) rfl (by first | exact Or.inl rfl | exact Or.inr (Or.inl rfl) | exact Or.inr (Or.inr rfl))) (de_tup (da_cons (de_ix (de_var (i := 0) rfl (by first | exact Or.inl rfl | exact Or.inr (Or.inl rfl) | exact Or.inr (Or.inr rfl))) de_int (plainIx rfl)) da_nil)))))))))
/-! mirrored: ray 0 a 1 b 2 c 3 d 4 k 5 -/
theorem sc_mirrored : FnScope ["ray", "a", "b", "c", "d", "k"] ["ray"] (defScope s_mirrored) := ⟨rfl, rfl, rfl, by decide +kernel, rfl, by decide +kernel, by decide +kernel⟩
def g_mirrored : SG := (sSeq (sAsg (dVar 0) (tgT (tgCons (tgN 1) (tgCons (tgN 2) (tgCons (tgN 3) (tgCons (tgN 4) (tgCons (tgN 5) tgNil))))) 5))
    (sRet (dTup (dCons (dVar 1) (dCons (dUn opNeg (dVar 4)) (dCons (dUn opNeg (dVar 3)) (dCons (dUn opNeg (dVar 2)) (dCons (dVar 5) dNil))))))))
def F_mirrored : List D → List D → Option (D × List D) := bodyF 6 1 g_mirrored
theorem ok_mirrored (T : Txt K mg) : FnOk P w K mg base CX0 1 T.mirrored.f T.mirrored.fd ["ray"] (spD K 1 F_mirrored) := by
  unfold F_mirrored
  refine ok_defn 0 g_mirrored T.mirrored.fn sc_mirrored rfl rfl fun cdv A outer s H E hr => ?_
  have hu := hr.units
  have hu65 := room65 hr
  have nd := sc_mirrored.nd
  exact (dss_cons (ds_asg (de_var (i := 0) rfl (by first | exact Or.inl rfl | exact Or.inr (Or.inl rfl) | exact Or.inr (Or.inr rfl))) (dg_tup (n := 5) rfl (dgs_cons (dg_name (i := 1) nd rfl (by first | exact Or.inl rfl | exact Or.inr rfl)) (dgs_cons (dg_name (i := 2) nd rfl (by first | exact Or.inl rfl | exact Or.inr rfl)) (dgs_cons (dg_name (i := 3) nd rfl (by first | exact Or.inl rfl | exact Or.inr rfl)) (dgs_cons (dg_name (i := 4) nd rfl (by first | exact Or.inl rfl | exact Or.inr rfl)) (dgs_cons (dg_name (i := 5) nd rfl (by first | exact Or.inl rfl | exact Or.inr rfl)) dgs_nil)))))))
    (dss_one (ds_ret (de_tup (da_cons (de_var (i := 1) rfl (by first | exact Or.inl rfl | exact Or.inr (Or.inl rfl) | exact Or.inr (Or.inr rfl))) (da_cons (de_neg (de_var (i := 4) rfl (by first | exact Or.inl rfl | exact Or.inr (Or.inl rfl) | exact Or.inr (Or.inr rfl)))) (da_cons (de_neg (de_var (i := 3) rfl (by first | exact Or.inl rfl | exact Or.inr (Or.inl rfl) | exact Or.inr (Or.inr rfl)))) (da_cons (de_neg (de_var (i := 2) rfl (by first | exact Or.inl rfl | exact Or.inr (Or.inl rfl) | exact Or.inr (Or.inr rfl)))) (da_cons (de_var (i := 5) rfl (by first | exact Or.inl rfl | exact Or.inr (Or.inl rfl) | exact Or.inr (Or.inr rfl))) da_nil)))))))))
/-! twin_of: ray 0 a 1 b 2 c 3 d 4 k 5 -/
theorem sc_twin_of : FnScope ["ray", "a", "b", "c", "d", "k"] ["ray"] (defScope s_twin_of) := ⟨rfl, rfl, rfl, by decide +kernel, rfl, by decide +kernel, by decide +kernel⟩
def g_twin_of : SG := (sSeq (sAsg (dVar 0) (tgT (tgCons (tgN 1) (tgCons (tgN 2) (tgCons (tgN 3) (tgCons (tgN 4) (tgCons (tgN 5) tgNil))))) 5))
    (sRet (dIf (dUn asBool (dBin opEq (dBin opMod (dVar 5) (dC (.int 2))) (dC (.int 1)))) (dTup (dCons (dUn opNeg (dVar 1)) (dCons (dVar 2) (dCons (dUn opNeg (dVar 3)) (dCons (dVar 4) (dCons (dVar 5) dNil)))))) (dTup (dCons (dVar 1) (dCons (dUn opNeg (dVar 2)) (dCons (dVar 3) (dCons (dUn opNeg (dVar 4)) (dCons (dVar 5) dNil)))))))))
def F_twin_of : List D → List D → Option (D × List D) := bodyF 6 1 g_twin_of
theorem ok_twin_of (T : Txt K mg) : FnOk P w K mg base CX0 1 T.twin_of.f T.twin_of.fd ["ray"] (spD K 1 F_twin_of) := by
  unfold F_twin_of
  refine ok_defn 0 g_twin_of T.twin_of.fn sc_twin_of rfl rfl fun cdv A outer s H E hr => ?_
  have hu := hr.units
  have hu65 := room65 hr
  have nd := sc_twin_of.nd
  exact (dss_cons (ds_asg (de_var (i := 0) rfl (by first | exact Or.inl rfl | exact Or.inr (Or.inl rfl) | exact Or.inr (Or.inr rfl))) (dg_tup (n := 5) rfl (dgs_cons (dg_name (i := 1) nd rfl (by first | exact Or.inl rfl | exact Or.inr rfl)) (dgs_cons (dg_name (i := 2) nd rfl (by first | exact Or.inl rfl | exact Or.inr rfl)) (dgs_cons (dg_name (i := 3) nd rfl (by first | exact Or.inl rfl | exact Or.inr rfl)) (dgs_cons (dg_name (i := 4) nd rfl (by first | exact Or.inl rfl | exact Or.inr rfl)) (dgs_cons (dg_name (i := 5) nd rfl (by first | exact Or.inl rfl | exact Or.inr rfl)) dgs_nil)))))))
    (dss_one (ds_ret (de_if (dt_eq hu (de_mod (de_var (i := 5) rfl (by first | exact Or.inl rfl | exact Or.inr (Or.inl rfl) | exact Or.inr (Or.inr rfl))) de_int) de_int) (de_tup (da_cons (de_neg (de_var (i := 1) rfl (by first | exact Or.inl rfl | exact Or.inr (Or.inl rfl) | exact Or.inr (Or.inr rfl)))) (da_cons (de_var (i := 2) rfl (by first | exact Or.inl rfl | exact Or.inr (Or.inl rfl) | exact Or.inr (Or.inr rfl))) (da_cons (de_neg (de_var (i := 3) rfl (by first | exact Or.inl rfl | exact Or.inr (Or.inl rfl) | exact Or.inr (Or.inr rfl)))) (da_cons (de_var (i := 4) rfl (by first | exact Or.inl rfl | exact Or.inr (Or.inl rfl) | exact Or.inr (Or.inr rfl))) (da_cons (de_var (i := 5) rfl (by first | exact Or.inl rfl | exact Or.inr (Or.inl rfl) | exact Or.inr (Or.inr rfl))) da_nil)))))) (de_tup (da_cons (de_var (i := 1) rfl (by first | exact Or.inl rfl | exact Or.inr (Or.inl rfl) | exact Or.inr (Or.inr rfl))) (da_cons (de_neg (de_var (i := 2) rfl (by first | exact Or.inl rfl | exact Or.inr (Or.inl rfl) | exact Or.inr (Or.inr rfl)))) (da_cons (de_var (i := 3) rfl (by first | exact Or.inl rfl | exact Or.inr (Or.inl rfl) | exact Or.inr (Or.inr rfl))) (da_cons (de_neg (de_var (i := 4) rfl (by first | exact Or.inl rfl | exact Or.inr (Or.inl rfl) | exact Or.inr (Or.inr rfl)))) (da_cons (de_var (i := 5) rfl (by first | exact Or.inl rfl | exact Or.inr (Or.inl rfl) | exact Or.inr (Or.inr rfl))) da_nil))))))))))
/-! size_of: ray 0 -/
theorem sc_size_of : FnScope ["ray"] ["ray"] (defScope s_size_of) := ⟨rfl, rfl, rfl, by decide +kernel, rfl, by decide +kernel, by decide +kernel⟩
def g_size_of : SG := (sRet (dCall F_ray_product (dCons (dVar 0) (dCons (dCall F_mirrored (dCons (dVar 0) dNil)) dNil))))
def F_size_of : List D → List D → Option (D × List D) := bodyF 1 1 g_size_of
theorem ok_size_of (T : Txt K mg) : FnOk P w K mg base CX0 3 T.size_of.f T.size_of.fd ["ray"] (spD K 1 F_size_of) := by
  unfold F_size_of
  refine ok_defn 2 g_size_of T.size_of.fn sc_size_of rfl rfl fun cdv A outer s H E hr => ?_
  have hu := hr.units
  have hu65 := room65 hr
  have nd := sc_size_of.nd
  exact (dss_one (ds_ret (de_call (ok_ray_product T) (hr.mono (by decide)) (by rfl) T.ray_product.g T.ray_product.fn.kp T.ray_product.bd pass0 (da_cons (de_var (i := 0) rfl (by first | exact Or.inl rfl | exact Or.inr (Or.inl rfl) | exact Or.inr (Or.inr rfl))) (da_cons (de_call (ok_mirrored T) (hr.mono (by decide)) (by rfl) T.mirrored.g T.mirrored.fn.kp T.mirrored.bd pass0 (da_cons (de_var (i := 0) rfl (by first | exact Or.inl rfl | exact Or.inr (Or.inl rfl) | exact Or.inr (Or.inr rfl))) da_nil) (dCons_len (fun _ _ _ _ h => dNil_len h))) da_nil)) (dCons_len (dCons_len (fun _ _ _ _ h => dNil_len h))))))
/-! is_real: ray 0 -/
theorem sc_is_real : FnScope ["ray"] ["ray"] (defScope s_is_real) := ⟨rfl, rfl, rfl, by decide +kernel, rfl, by decide +kernel, by decide +kernel⟩
def g_is_real : SG := (sRet (dBin opEq (dUn bTuple (dCons (dVar 0) dNil)) (dCall F_mirrored (dCons (dVar 0) dNil))))
def F_is_real : List D → List D → Option (D × List D) := bodyF 1 1 g_is_real
theorem ok_is_real (T : Txt K mg) : FnOk P w K mg base CX0 2 T.is_real.f T.is_real.fd ["ray"] (spD K 1 F_is_real) := by
  unfold F_is_real
  refine ok_defn 1 g_is_real T.is_real.fn sc_is_real rfl rfl fun cdv A outer s H E hr => ?_
  have hu := hr.units
  have hu65 := room65 hr
  have nd := sc_is_real.nd
  exact (dss_one (ds_ret (de_eq hu (de_callTy call_tuple_of cd_tuple (by rfl) T.b_tuple boot_tuple (da_cons (de_var (i := 0) rfl (by first | exact Or.inl rfl | exact Or.inr (Or.inl rfl) | exact Or.inr (Or.inr rfl))) da_nil)) (de_call (ok_mirrored T) (hr.mono (by decide)) (by rfl) T.mirrored.g T.mirrored.fn.kp T.mirrored.bd pass0 (da_cons (de_var (i := 0) rfl (by first | exact Or.inl rfl | exact Or.inr (Or.inl rfl) | exact Or.inr (Or.inr rfl))) da_nil) (dCons_len (fun _ _ _ _ h => dNil_len h))))))
/-! sign_of: ray 0 plain 1 roots 2 -/
theorem sc_sign_of : FnScope ["ray", "plain", "roots"] ["ray"] (defScope s_sign_of) := ⟨rfl, rfl, rfl, by decide +kernel, rfl, by decide +kernel, by decide +kernel⟩
def g_sign_of : SG := (sSeq (sIf (dNot (dUn asBool (dCall F_is_real (dCons (dVar 0) dNil)))) sNev sNil)
    (sSeq (sPar 1 2 (dCons (dIx (dVar 0) (dC (.int 0))) (dCons (dIx (dVar 0) (dC (.int 1))) dNil)))
    (sSeq (sIf (dUn asBool (dBin opEq (dBin opAdd (dBin opMul (dVar 1) (dUn bAbs (dCons (dVar 1) dNil))) (dBin opMul (dBin opMul (dC (.int 2)) (dVar 2)) (dUn bAbs (dCons (dVar 2) dNil)))) (dC (.int 0)))) (sRet (dC (.int 0))) sNil)
    (sRet (dIf (dUn asBool (dBin opGt (dBin opAdd (dBin opMul (dVar 1) (dUn bAbs (dCons (dVar 1) dNil))) (dBin opMul (dBin opMul (dC (.int 2)) (dVar 2)) (dUn bAbs (dCons (dVar 2) dNil)))) (dC (.int 0)))) (dC (.int 1)) (dUn opNeg (dC (.int 1))))))))
def F_sign_of : List D → List D → Option (D × List D) := bodyF 3 1 g_sign_of
theorem ok_sign_of (T : Txt K mg) : FnOk P w K mg base CX0 3 T.sign_of.f T.sign_of.fd ["ray"] (spD K 1 F_sign_of) := by
  unfold F_sign_of
  refine ok_defn 2 g_sign_of T.sign_of.fn sc_sign_of rfl rfl fun cdv A outer s H E hr => ?_
  have hu := hr.units
  have hu65 := room65 hr
  have nd := sc_sign_of.nd
  exact (dss_cons (ds_if (dt_not (dt_val (de_call (ok_is_real T) (hr.mono (by decide)) (by rfl) T.is_real.g T.is_real.fn.kp T.is_real.bd pass0 (da_cons (de_var (i := 0) rfl (by first | exact Or.inl rfl | exact Or.inr (Or.inl rfl) | exact Or.inr (Or.inr rfl))) da_nil) (dCons_len (fun _ _ _ _ h => dNil_len h))))) (dss_one ds_never) dss_nil)
    (dss_cons (ds_par (i := 1) (j := 2) rfl nd rfl rfl (by decide) rfl rfl (da_cons (de_ix (de_var (i := 0) rfl (by first | exact Or.inl rfl | exact Or.inr (Or.inl rfl) | exact Or.inr (Or.inr rfl))) de_int (plainIx rfl)) (da_cons (de_ix (de_var (i := 0) rfl (by first | exact Or.inl rfl | exact Or.inr (Or.inl rfl) | exact Or.inr (Or.inr rfl))) de_int (plainIx rfl)) da_nil)) (by rfl))
    (dss_cons (ds_if (dt_eq hu (de_add (de_mul (de_var (i := 1) rfl (by first | exact Or.inl rfl | exact Or.inr (Or.inl rfl) | exact Or.inr (Or.inr rfl))) (de_callB call_abs cd_abs (by rfl) T.b_abs boot_abs (da_cons (de_var (i := 1) rfl (by first | exact Or.inl rfl | exact Or.inr (Or.inl rfl) | exact Or.inr (Or.inr rfl))) da_nil))) (de_mul (de_mul de_int (de_var (i := 2) rfl (by first | exact Or.inl rfl | exact Or.inr (Or.inl rfl) | exact Or.inr (Or.inr rfl)))) (de_callB call_abs cd_abs (by rfl) T.b_abs boot_abs (da_cons (de_var (i := 2) rfl (by first | exact Or.inl rfl | exact Or.inr (Or.inl rfl) | exact Or.inr (Or.inr rfl))) da_nil)))) de_int) (dss_one (ds_ret de_int)) dss_nil)
    (dss_one (ds_ret (de_if (dt_gt (de_add (de_mul (de_var (i := 1) rfl (by first | exact Or.inl rfl | exact Or.inr (Or.inl rfl) | exact Or.inr (Or.inr rfl))) (de_callB call_abs cd_abs (by rfl) T.b_abs boot_abs (da_cons (de_var (i := 1) rfl (by first | exact Or.inl rfl | exact Or.inr (Or.inl rfl) | exact Or.inr (Or.inr rfl))) da_nil))) (de_mul (de_mul de_int (de_var (i := 2) rfl (by first | exact Or.inl rfl | exact Or.inr (Or.inl rfl) | exact Or.inr (Or.inr rfl)))) (de_callB call_abs cd_abs (by rfl) T.b_abs boot_abs (da_cons (de_var (i := 2) rfl (by first | exact Or.inl rfl | exact Or.inr (Or.inl rfl) | exact Or.inr (Or.inr rfl))) da_nil)))) de_int) de_int (de_neg de_int)))))))
/-! over_root: ray 0 many 1 k 2 -/
theorem sc_over_root : FnScope ["ray", "many", "k"] ["ray", "many"] (defScope s_over_root) := ⟨rfl, rfl, rfl, by decide +kernel, rfl, by decide +kernel, by decide +kernel⟩
def g_over_root : SG := (sSeq (sSet 2 (dBin opAdd (dIx (dVar 0) (dC (.int 4))) (dVar 1)))
    (sSeq (sIf (dUn asBool (dBin opGe (dVar 2) (dC (.int 0)))) (sRet (dCall F_shortened (dCons (dUn bTuple (dCons (dSl (dVar 0) dNoPart (dUn asInt (dC (.int 4)))) dNil)) (dCons (dVar 2) dNil)))) sNil)
    (sRet (dBin opAdd (dCall F_times_root (dCons (dUn bTuple (dCons (dSl (dVar 0) dNoPart (dUn asInt (dC (.int 4)))) dNil)) (dCons (dUn opNeg (dVar 2)) dNil))) (dTup (dCons (dC (.int 0)) dNil))))))
def F_over_root : List D → List D → Option (D × List D) := bodyF 3 2 g_over_root
theorem ok_over_root (T : Txt K mg) : FnOk P w K mg base CX0 2 T.over_root.f T.over_root.fd ["ray", "many"] (spD K 2 F_over_root) := by
  unfold F_over_root
  refine ok_defn 1 g_over_root T.over_root.fn sc_over_root rfl rfl fun cdv A outer s H E hr => ?_
  have hu := hr.units
  have hu65 := room65 hr
  have nd := sc_over_root.nd
  exact (dss_cons (ds_set (i := 2) nd rfl (by first | exact Or.inl rfl | exact Or.inr rfl) (de_add (de_ix (de_var (i := 0) rfl (by first | exact Or.inl rfl | exact Or.inr (Or.inl rfl) | exact Or.inr (Or.inr rfl))) de_int (plainIx rfl)) (de_var (i := 1) rfl (by first | exact Or.inl rfl | exact Or.inr (Or.inl rfl) | exact Or.inr (Or.inr rfl)))))
    (dss_cons (ds_if (dt_ge (de_var (i := 2) rfl (by first | exact Or.inl rfl | exact Or.inr (Or.inl rfl) | exact Or.inr (Or.inr rfl))) de_int) (dss_one (ds_ret (de_call (ok_shortened T) (hr.mono (by decide)) (by rfl) T.shortened.g T.shortened.fn.kp T.shortened.bd pass0 (da_cons (de_callTy call_tuple_of cd_tuple (by rfl) T.b_tuple boot_tuple (da_cons (de_sl (de_var (i := 0) rfl (by first | exact Or.inl rfl | exact Or.inr (Or.inl rfl) | exact Or.inr (Or.inr rfl))) do_none (do_some de_int)) da_nil)) (da_cons (de_var (i := 2) rfl (by first | exact Or.inl rfl | exact Or.inr (Or.inl rfl) | exact Or.inr (Or.inr rfl))) da_nil)) (dCons_len (dCons_len (fun _ _ _ _ h => dNil_len h)))))) dss_nil)
    (dss_one (ds_ret (de_add (de_call (ok_times_root T) (hr.mono (by decide)) (by rfl) T.times_root.g T.times_root.fn.kp T.times_root.bd pass0 (da_cons (de_callTy call_tuple_of cd_tuple (by rfl) T.b_tuple boot_tuple (da_cons (de_sl (de_var (i := 0) rfl (by first | exact Or.inl rfl | exact Or.inr (Or.inl rfl) | exact Or.inr (Or.inr rfl))) do_none (do_some de_int)) da_nil)) (da_cons (de_neg (de_var (i := 2) rfl (by first | exact Or.inl rfl | exact Or.inr (Or.inl rfl) | exact Or.inr (Or.inr rfl)))) da_nil)) (dCons_len (dCons_len (fun _ _ _ _ h => dNil_len h)))) (de_tup (da_cons de_int da_nil)))))))
/-! _law_same: got 0 due 1 mine 2 its 3 -/
theorem sc_law_same : FnScope ["got", "due", "mine", "its"] ["got", "due"] (defScope s_law_same) := ⟨rfl, rfl, rfl, by decide +kernel, rfl, by decide +kernel, by decide +kernel⟩
def g_law_same (R_law_same : List D → List D → Option (D × List D)) : SG := (sSeq (sIf (dUn asBool (dIsi ["list", "tuple"] (dVar 1))) (sSeq (sIf (dOr (dUn asBool (dBin opNe (dIsi ["list"] (dVar 0)) (dIsi ["list"] (dVar 1)))) (dUn asBool (dBin opNe (dIsi ["tuple"] (dVar 0)) (dIsi ["tuple"] (dVar 1))))) (sRet (dC (.bool false))) sNil)
    (sRet (dAndV (dBin opEq (dUn bLen (dCons (dVar 0) dNil)) (dUn bLen (dCons (dVar 1) dNil))) (dUn bAll (dCons (dOfF (dLc (dUn asZip (dCons (dVar 0) (dCons (dVar 1) dNil))) [2, 3] (tgT (tgCons (tgN 2) (tgCons (tgN 3) tgNil)) 2) dYes (dCall R_law_same (dCons (dVar 2) (dCons (dVar 3) dNil))))) dNil))))) sNil)
    (sSeq (sIf (dOr (dUn asBool (dBin opIsN (dVar 1) (dC .none))) (dUn asBool (dIsi ["bool", "str"] (dVar 1)))) (sRet (dAndV (dBin opEq (dVar 0) (dVar 1)) (dAndV (dBin opEq (dIsi ["bool"] (dVar 0)) (dIsi ["bool"] (dVar 1))) (dBin opEq (dBin opIsN (dVar 0) (dC .none)) (dBin opIsN (dVar 1) (dC .none)))))) sNil)
    (sRet (dAndV (dIsi ["int"] (dVar 0)) (dAndV (dUn (fun x => (asBool x).map fun b => .bool (!b)) (dIsi ["bool"] (dVar 0))) (dBin opEq (dVar 0) (dVar 1)))))))
def F_law_same_ : Nat → List D → List D → Option (D × List D)
  | 0 => fun _ _ => none
  | k + 1 => bodyF 4 2 (g_law_same (F_law_same_ k))
abbrev F_law_same := F_law_same_ 8
theorem ok_law_same (T : Txt K mg) : ∀ k, FnOk P w K mg base CX0 (0 + k) T.law_same.f T.law_same.fd ["got", "due"] (spD K 2 (F_law_same_ k))
  | 0 => fnOk_none (by rfl)
  | k + 1 => by
    have hR_law_same := ok_law_same T k
    show FnOk P w K mg base CX0 (0 + k + 1) _ _ _ (spD K _ (bodyF 4 2 (g_law_same (F_law_same_ k))))
    refine ok_defn (0 + k) (g_law_same (F_law_same_ k)) T.law_same.fn sc_law_same rfl rfl fun cdv A outer s H E hr => ?_
    have hu := hr.units
    have hu65 := room65 hr
    have nd := sc_law_same.nd
    exact (dss_cons (ds_if (dt_val (de_isiT (by rfl) T.b_isinstance boot_isinstance (de_var (i := 1) rfl (by first | exact Or.inl rfl | exact Or.inr (Or.inl rfl) | exact Or.inr (Or.inr rfl))) (tys_cons (ty_name (n := "list") (by rfl) T.b_list boot_list) (tys_cons (ty_name (n := "tuple") (by rfl) T.b_tuple boot_tuple) tys_nil)) (by decide) (by decide))) (dss_cons (ds_if (DW.dt (dw_or (dt_ne hu (de_isi (by rfl) T.b_isinstance boot_isinstance (de_var (i := 0) rfl (by first | exact Or.inl rfl | exact Or.inr (Or.inl rfl) | exact Or.inr (Or.inr rfl))) (ty_name (n := "list") (by rfl) T.b_list boot_list) (by decide)) (de_isi (by rfl) T.b_isinstance boot_isinstance (de_var (i := 1) rfl (by first | exact Or.inl rfl | exact Or.inr (Or.inl rfl) | exact Or.inr (Or.inr rfl))) (ty_name (n := "list") (by rfl) T.b_list boot_list) (by decide))) (dw_or1 (dt_ne hu (de_isi (by rfl) T.b_isinstance boot_isinstance (de_var (i := 0) rfl (by first | exact Or.inl rfl | exact Or.inr (Or.inl rfl) | exact Or.inr (Or.inr rfl))) (ty_name (n := "tuple") (by rfl) T.b_tuple boot_tuple) (by decide)) (de_isi (by rfl) T.b_isinstance boot_isinstance (de_var (i := 1) rfl (by first | exact Or.inl rfl | exact Or.inr (Or.inl rfl) | exact Or.inr (Or.inr rfl))) (ty_name (n := "tuple") (by rfl) T.b_tuple boot_tuple) (by decide)))))) (dss_one (ds_ret de_bl)) dss_nil)
    (dss_one (ds_ret (de_and (de_eq hu (de_callB cr_len cd_len (by rfl) T.b_len boot_len (da_cons (de_var (i := 0) rfl (by first | exact Or.inl rfl | exact Or.inr (Or.inl rfl) | exact Or.inr (Or.inr rfl))) da_nil)) (de_callB cr_len cd_len (by rfl) T.b_len boot_len (da_cons (de_var (i := 1) rfl (by first | exact Or.inl rfl | exact Or.inr (Or.inl rfl) | exact Or.inr (Or.inr rfl))) da_nil))) (de_one (de_callB (cr_all rfl) cd_all (by rfl) T.b_all (by decide +kernel) (da_cons (DF.de (df_lc rfl nd (own := [("mine", 2), ("its", 3)]) (di_zip (by rfl) T.b_zip (da_cons (de_var (i := 0) rfl (by first | exact Or.inl rfl | exact Or.inr (Or.inl rfl) | exact Or.inr (Or.inr rfl))) (da_cons (de_var (i := 1) rfl (by first | exact Or.inl rfl | exact Or.inr (Or.inl rfl) | exact Or.inr (Or.inr rfl))) da_nil))) (blkOk_by (N := ["got", "due", "mine", "its"]) (sc := defScope s_law_same) (by decide +kernel)) (fun _ _ _ _ _ => (dg_tup (n := 2) rfl (dgs_cons (dg_name (i := 2) nd rfl (by first | exact Or.inl rfl | exact Or.inr rfl)) (dgs_cons (dg_name (i := 3) nd rfl (by first | exact Or.inl rfl | exact Or.inr rfl)) dgs_nil)))) (fun _ _ _ _ _ => dp_nil) (fun _ _ _ _ _ => (de_call hR_law_same (hr.mono (by omega)) (by rfl) T.law_same.g T.law_same.fn.kp T.law_same.bd pass0 (da_cons (de_var (i := 2) rfl (by first | exact Or.inl rfl | exact Or.inr (Or.inl rfl) | exact Or.inr (Or.inr rfl))) (da_cons (de_var (i := 3) rfl (by first | exact Or.inl rfl | exact Or.inr (Or.inl rfl) | exact Or.inr (Or.inr rfl))) da_nil)) (dCons_len (dCons_len (fun _ _ _ _ h => dNil_len h))))) (by decide))) da_nil))))))) dss_nil)
    (dss_cons (ds_if (DW.dt (dw_or (dt_isN (de_var (i := 1) rfl (by first | exact Or.inl rfl | exact Or.inr (Or.inl rfl) | exact Or.inr (Or.inr rfl))) de_non) (dw_or1 (dt_val (de_isiT (by rfl) T.b_isinstance boot_isinstance (de_var (i := 1) rfl (by first | exact Or.inl rfl | exact Or.inr (Or.inl rfl) | exact Or.inr (Or.inr rfl))) (tys_cons (ty_name (n := "bool") (by rfl) T.b_bool boot_bool) (tys_cons (ty_name (n := "str") (by rfl) T.b_str boot_str) tys_nil)) (by decide) (by decide)))))) (dss_one (ds_ret (de_and (de_eq hu (de_var (i := 0) rfl (by first | exact Or.inl rfl | exact Or.inr (Or.inl rfl) | exact Or.inr (Or.inr rfl))) (de_var (i := 1) rfl (by first | exact Or.inl rfl | exact Or.inr (Or.inl rfl) | exact Or.inr (Or.inr rfl)))) (de_and (de_eq hu (de_isi (by rfl) T.b_isinstance boot_isinstance (de_var (i := 0) rfl (by first | exact Or.inl rfl | exact Or.inr (Or.inl rfl) | exact Or.inr (Or.inr rfl))) (ty_name (n := "bool") (by rfl) T.b_bool boot_bool) (by decide)) (de_isi (by rfl) T.b_isinstance boot_isinstance (de_var (i := 1) rfl (by first | exact Or.inl rfl | exact Or.inr (Or.inl rfl) | exact Or.inr (Or.inr rfl))) (ty_name (n := "bool") (by rfl) T.b_bool boot_bool) (by decide))) (de_one (de_eq hu (de_isN (de_var (i := 0) rfl (by first | exact Or.inl rfl | exact Or.inr (Or.inl rfl) | exact Or.inr (Or.inr rfl))) de_non) (de_isN (de_var (i := 1) rfl (by first | exact Or.inl rfl | exact Or.inr (Or.inl rfl) | exact Or.inr (Or.inr rfl))) de_non))))))) dss_nil)
    (dss_one (ds_ret (de_and (de_isi (by rfl) T.b_isinstance boot_isinstance (de_var (i := 0) rfl (by first | exact Or.inl rfl | exact Or.inr (Or.inl rfl) | exact Or.inr (Or.inr rfl))) (ty_name (n := "int") (by rfl) T.b_int boot_int) (by decide)) (de_and (de_not (de_isi (by rfl) T.b_isinstance boot_isinstance (de_var (i := 0) rfl (by first | exact Or.inl rfl | exact Or.inr (Or.inl rfl) | exact Or.inr (Or.inr rfl))) (ty_name (n := "bool") (by rfl) T.b_bool boot_bool) (by decide))) (de_one (de_eq hu (de_var (i := 0) rfl (by first | exact Or.inl rfl | exact Or.inr (Or.inl rfl) | exact Or.inr (Or.inr rfl))) (de_var (i := 1) rfl (by first | exact Or.inl rfl | exact Or.inr (Or.inl rfl) | exact Or.inr (Or.inr rfl)))))))))))
/-! _law_take: tin 0 below_so 1 drawn 2 once_so 3 wide_so 4 twice_so 5 -/
theorem sc_law_take : FnScope ["tin", "below_so", "drawn", "once_so", "wide_so", "twice_so"] ["tin", "below_so"] (defScope s_law_take) := ⟨rfl, rfl, rfl, by decide +kernel, rfl, by decide +kernel, by decide +kernel⟩
def g_law_take : SG := (sSeq (sIf (dUn asBool (dBin opGt (dIx (dVar 0) (dC (.int 0))) (dC (.int 0)))) (sSeq (sSet 2 (dBin opMod (dUn bInt1 (dCons (dIx (dVar 0) (dC (.int 0))) dNil)) (dVar 1)))
    (sSeq (sTin 0 (dBin opFdiv (dIx (dVar 0) (dC (.int 0))) (dVar 1)) (dC (.int 0)))
    (sRet (dVar 2)))) sNil)
    (sSeq (sTin 0 (dBin opAdd (dIx (dVar 0) (dC (.int 2))) (dC (.int 1))) (dC (.int 2)))
    (sSeq (sSet 3 (dBin opMod (dUn bInt1 (dCons (dBin opMul (dBin opAdd (dIx (dVar 0) (dC (.int 1))) (dBin opMul (dC (.int 48271)) (dIx (dVar 0) (dC (.int 2))))) (dBin opAdd (dC (.int 39373)) (dIx (dVar 0) (dC (.int 2))))) dNil)) (dC (.int 2147483647))))
    (sSeq (sSet 4 (dBin opAdd (dBin opMod (dUn bInt1 (dCons (dVar 3) dNil)) (dC (.int 40009))) (dC (.int 7))))
    (sSeq (sSet 5 (dBin opMod (dUn bInt1 (dCons (dBin opMul (dBin opAdd (dBin opAdd (dVar 3) (dIx (dVar 0) (dC (.int 2)))) (dBin opFdiv (dIx (dVar 0) (dC (.int 1))) (dC (.int 1000003)))) (dVar 4)) dNil)) (dC (.int 2147483629))))
    (sRet (dBin opMod (dUn bInt1 (dCons (dBin opFdiv (dBin opMod (dUn bInt1 (dCons (dBin opAdd (dBin opMul (dVar 5) (dC (.int 48271))) (dVar 3)) dNil)) (dC (.int 2147483587))) (dC (.int 64))) dNil)) (dVar 1))))))))
def F_law_take : List D → List D → Option (D × List D) := bodyF 6 2 g_law_take
theorem ok_law_take (T : Txt K mg) : FnOk P w K mg base CX0 1 T.law_take.f T.law_take.fd ["tin", "below_so"] (spD K 2 F_law_take) := by
  unfold F_law_take
  refine ok_defn 0 g_law_take T.law_take.fn sc_law_take rfl rfl fun cdv A outer s H E hr => ?_
  have hu := hr.units
  have hu65 := room65 hr
  have nd := sc_law_take.nd
  exact (dss_cons (ds_if (dt_gt (de_ix (de_var (i := 0) rfl (by first | exact Or.inl rfl | exact Or.inr (Or.inl rfl) | exact Or.inr (Or.inr rfl))) de_int (plainIx rfl)) de_int) (dss_cons (ds_set (i := 2) nd rfl (by first | exact Or.inl rfl | exact Or.inr rfl) (de_mod (de_callTy call_int1 cd_int1 (by rfl) T.b_int boot_int (da_cons (de_ix (de_var (i := 0) rfl (by first | exact Or.inl rfl | exact Or.inr (Or.inl rfl) | exact Or.inr (Or.inr rfl))) de_int (plainIx rfl)) da_nil)) (de_var (i := 1) rfl (by first | exact Or.inl rfl | exact Or.inr (Or.inl rfl) | exact Or.inr (Or.inr rfl)))))
    (dss_cons (ds_tin (i := 0) rfl (by first | exact Or.inl rfl | exact Or.inr (Or.inl rfl)) (de_fdiv (de_ix (de_var (i := 0) rfl (by first | exact Or.inl rfl | exact Or.inr (Or.inl rfl) | exact Or.inr (Or.inr rfl))) de_int (plainIx rfl)) (de_var (i := 1) rfl (by first | exact Or.inl rfl | exact Or.inr (Or.inl rfl) | exact Or.inr (Or.inr rfl)))) de_int (p := fun hx hi he => ps_asg he (pg_sub hx hi set_list)))
    (dss_one (ds_ret (de_var (i := 2) rfl (by first | exact Or.inl rfl | exact Or.inr (Or.inl rfl) | exact Or.inr (Or.inr rfl))))))) dss_nil)
    (dss_cons (ds_tin (i := 0) rfl (by first | exact Or.inl rfl | exact Or.inr (Or.inl rfl)) (de_add (de_ix (de_var (i := 0) rfl (by first | exact Or.inl rfl | exact Or.inr (Or.inl rfl) | exact Or.inr (Or.inr rfl))) de_int (plainIx rfl)) de_int) de_int (p := fun hx hi he => ps_asg he (pg_sub hx hi set_list)))
    (dss_cons (ds_set (i := 3) nd rfl (by first | exact Or.inl rfl | exact Or.inr rfl) (de_mod (de_callTy call_int1 cd_int1 (by rfl) T.b_int boot_int (da_cons (de_mul (de_add (de_ix (de_var (i := 0) rfl (by first | exact Or.inl rfl | exact Or.inr (Or.inl rfl) | exact Or.inr (Or.inr rfl))) de_int (plainIx rfl)) (de_mul de_int (de_ix (de_var (i := 0) rfl (by first | exact Or.inl rfl | exact Or.inr (Or.inl rfl) | exact Or.inr (Or.inr rfl))) de_int (plainIx rfl)))) (de_add de_int (de_ix (de_var (i := 0) rfl (by first | exact Or.inl rfl | exact Or.inr (Or.inl rfl) | exact Or.inr (Or.inr rfl))) de_int (plainIx rfl)))) da_nil)) de_int))
    (dss_cons (ds_set (i := 4) nd rfl (by first | exact Or.inl rfl | exact Or.inr rfl) (de_add (de_mod (de_callTy call_int1 cd_int1 (by rfl) T.b_int boot_int (da_cons (de_var (i := 3) rfl (by first | exact Or.inl rfl | exact Or.inr (Or.inl rfl) | exact Or.inr (Or.inr rfl))) da_nil)) de_int) de_int))
    (dss_cons (ds_set (i := 5) nd rfl (by first | exact Or.inl rfl | exact Or.inr rfl) (de_mod (de_callTy call_int1 cd_int1 (by rfl) T.b_int boot_int (da_cons (de_mul (de_add (de_add (de_var (i := 3) rfl (by first | exact Or.inl rfl | exact Or.inr (Or.inl rfl) | exact Or.inr (Or.inr rfl))) (de_ix (de_var (i := 0) rfl (by first | exact Or.inl rfl | exact Or.inr (Or.inl rfl) | exact Or.inr (Or.inr rfl))) de_int (plainIx rfl))) (de_fdiv (de_ix (de_var (i := 0) rfl (by first | exact Or.inl rfl | exact Or.inr (Or.inl rfl) | exact Or.inr (Or.inr rfl))) de_int (plainIx rfl)) de_int)) (de_var (i := 4) rfl (by first | exact Or.inl rfl | exact Or.inr (Or.inl rfl) | exact Or.inr (Or.inr rfl)))) da_nil)) de_int))
    (dss_one (ds_ret (de_mod (de_callTy call_int1 cd_int1 (by rfl) T.b_int boot_int (da_cons (de_fdiv (de_mod (de_callTy call_int1 cd_int1 (by rfl) T.b_int boot_int (da_cons (de_add (de_mul (de_var (i := 5) rfl (by first | exact Or.inl rfl | exact Or.inr (Or.inl rfl) | exact Or.inr (Or.inr rfl))) de_int) (de_var (i := 3) rfl (by first | exact Or.inl rfl | exact Or.inr (Or.inl rfl) | exact Or.inr (Or.inr rfl)))) da_nil)) de_int) de_int) da_nil)) (de_var (i := 1) rfl (by first | exact Or.inl rfl | exact Or.inr (Or.inl rfl) | exact Or.inr (Or.inr rfl)))))))))))
/-! _law_of: tin 0 goods_so 1 -/
theorem sc_law_of : FnScope ["tin", "goods_so"] ["tin", "goods_so"] (defScope s_law_of) := ⟨rfl, rfl, rfl, by decide +kernel, rfl, by decide +kernel, by decide +kernel⟩
def g_law_of : SG := (sRet (dIx (dVar 1) (dCall F_law_take (dCons (dVar 0) (dCons (dUn bLen (dCons (dVar 1) dNil)) dNil)))))
def F_law_of : List D → List D → Option (D × List D) := bodyF 2 2 g_law_of
theorem ok_law_of (T : Txt K mg) : FnOk P w K mg base CX0 2 T.law_of.f T.law_of.fd ["tin", "goods_so"] (spD K 2 F_law_of) := by
  unfold F_law_of
  refine ok_defn 1 g_law_of T.law_of.fn sc_law_of rfl rfl fun cdv A outer s H E hr => ?_
  have hu := hr.units
  have hu65 := room65 hr
  have nd := sc_law_of.nd
  exact (dss_one (ds_ret (de_ix (de_var (i := 1) rfl (by first | exact Or.inl rfl | exact Or.inr (Or.inl rfl) | exact Or.inr (Or.inr rfl))) (de_call (ok_law_take T) (hr.mono (by decide)) (by rfl) T.law_take.g T.law_take.fn.kp T.law_take.bd pass0 (da_cons (de_var (i := 0) rfl (by first | exact Or.inl rfl | exact Or.inr (Or.inl rfl) | exact Or.inr (Or.inr rfl))) (da_cons (de_callB cr_len cd_len (by rfl) T.b_len boot_len (da_cons (de_var (i := 1) rfl (by first | exact Or.inl rfl | exact Or.inr (Or.inl rfl) | exact Or.inr (Or.inr rfl))) da_nil)) da_nil)) (dCons_len (dCons_len (fun _ _ _ _ h => dNil_len h)))) (plainIx rfl))))
/-! _law_ray: a_so 0 b_so 1 c_so 2 d_so 3 k_so 4 near_so 5 next_so 6 then_so 7 last_so 8 -/
theorem sc_law_ray : FnScope ["a_so", "b_so", "c_so", "d_so", "k_so", "near_so", "next_so", "then_so", "last_so"] ["a_so", "b_so", "c_so", "d_so", "k_so"] (defScope s_law_ray) := ⟨rfl, rfl, rfl, by decide +kernel, rfl, by decide +kernel, by decide +kernel⟩
def g_law_ray : SG := (sSeq (sWh (fuelI 4) (dAnd (dUn asBool (dBin opGt (dVar 4) (dC (.int 0)))) (dAnd (dUn asBool (dBin opEq (dBin opMod (dBin opAdd (dVar 0) (dVar 2)) (dC (.int 2))) (dC (.int 0)))) (dUn asBool (dBin opEq (dBin opMod (dBin opAdd (dVar 1) (dVar 3)) (dC (.int 2))) (dC (.int 0)))))) (sSeq (sPar 5 6 (dCons (dBin opSub (dVar 1) (dVar 3)) (dCons (dBin opAdd (dVar 0) (dVar 2)) dNil)))
    (sSeq (sPar 7 8 (dCons (dBin opAdd (dVar 1) (dVar 3)) (dCons (dBin opSub (dVar 2) (dVar 0)) dNil)))
    (sSeq (sPar3 0 1 4 (dCons (dBin opFdiv (dVar 5) (dC (.int 2))) (dCons (dBin opFdiv (dVar 6) (dC (.int 2))) (dCons (dBin opSub (dVar 4) (dC (.int 1))) dNil))))
    (sPar 2 3 (dCons (dBin opFdiv (dVar 7) (dC (.int 2))) (dCons (dBin opFdiv (dVar 8) (dC (.int 2))) dNil)))))))
    (sRet (dIf (dUn asBool (dBin opNe (dTup (dCons (dVar 0) (dCons (dVar 1) (dCons (dVar 2) (dCons (dVar 3) dNil))))) (dTup (dCons (dC (.int 0)) (dCons (dC (.int 0)) (dCons (dC (.int 0)) (dCons (dC (.int 0)) dNil))))))) (dTup (dCons (dVar 0) (dCons (dVar 1) (dCons (dVar 2) (dCons (dVar 3) (dCons (dVar 4) dNil)))))) (dTup (dCons (dC (.int 0)) (dCons (dC (.int 0)) (dCons (dC (.int 0)) (dCons (dC (.int 0)) (dCons (dC (.int 0)) dNil)))))))))
def F_law_ray : List D → List D → Option (D × List D) := bodyF 9 5 g_law_ray
theorem ok_law_ray (T : Txt K mg) : FnOk P w K mg base CX0 1 T.law_ray.f T.law_ray.fd ["a_so", "b_so", "c_so", "d_so", "k_so"] (spD K 5 F_law_ray) := by
  unfold F_law_ray
  refine ok_defn 0 g_law_ray T.law_ray.fn sc_law_ray rfl rfl fun cdv A outer s H E hr => ?_
  have hu := hr.units
  have hu65 := room65 hr
  have nd := sc_law_ray.nd
  exact (dss_cons (ds_while (fuelI 4) PassesOwn.never (DW.dt (dw_and (dt_gt (de_var (i := 4) rfl (by first | exact Or.inl rfl | exact Or.inr (Or.inl rfl) | exact Or.inr (Or.inr rfl))) de_int) (dw_and (dt_eq hu (de_mod (de_add (de_var (i := 0) rfl (by first | exact Or.inl rfl | exact Or.inr (Or.inl rfl) | exact Or.inr (Or.inr rfl))) (de_var (i := 2) rfl (by first | exact Or.inl rfl | exact Or.inr (Or.inl rfl) | exact Or.inr (Or.inr rfl)))) de_int) de_int) (dw_and1 (dt_eq hu (de_mod (de_add (de_var (i := 1) rfl (by first | exact Or.inl rfl | exact Or.inr (Or.inl rfl) | exact Or.inr (Or.inr rfl))) (de_var (i := 3) rfl (by first | exact Or.inl rfl | exact Or.inr (Or.inl rfl) | exact Or.inr (Or.inr rfl)))) de_int) de_int))))) (dss_cons (ds_par (i := 5) (j := 6) rfl nd rfl rfl (by decide) rfl rfl (da_cons (de_sub (de_var (i := 1) rfl (by first | exact Or.inl rfl | exact Or.inr (Or.inl rfl) | exact Or.inr (Or.inr rfl))) (de_var (i := 3) rfl (by first | exact Or.inl rfl | exact Or.inr (Or.inl rfl) | exact Or.inr (Or.inr rfl)))) (da_cons (de_add (de_var (i := 0) rfl (by first | exact Or.inl rfl | exact Or.inr (Or.inl rfl) | exact Or.inr (Or.inr rfl))) (de_var (i := 2) rfl (by first | exact Or.inl rfl | exact Or.inr (Or.inl rfl) | exact Or.inr (Or.inr rfl)))) da_nil)) (by rfl))
    (dss_cons (ds_par (i := 7) (j := 8) rfl nd rfl rfl (by decide) rfl rfl (da_cons (de_add (de_var (i := 1) rfl (by first | exact Or.inl rfl | exact Or.inr (Or.inl rfl) | exact Or.inr (Or.inr rfl))) (de_var (i := 3) rfl (by first | exact Or.inl rfl | exact Or.inr (Or.inl rfl) | exact Or.inr (Or.inr rfl)))) (da_cons (de_sub (de_var (i := 2) rfl (by first | exact Or.inl rfl | exact Or.inr (Or.inl rfl) | exact Or.inr (Or.inr rfl))) (de_var (i := 0) rfl (by first | exact Or.inl rfl | exact Or.inr (Or.inl rfl) | exact Or.inr (Or.inr rfl)))) da_nil)) (by rfl))
    (dss_cons (ds_par3 (i := 0) (j := 1) (l := 4) rfl nd rfl rfl rfl (by decide) (by decide) (by decide) rfl rfl rfl (da_cons (de_fdiv (de_var (i := 5) rfl (by first | exact Or.inl rfl | exact Or.inr (Or.inl rfl) | exact Or.inr (Or.inr rfl))) de_int) (da_cons (de_fdiv (de_var (i := 6) rfl (by first | exact Or.inl rfl | exact Or.inr (Or.inl rfl) | exact Or.inr (Or.inr rfl))) de_int) (da_cons (de_sub (de_var (i := 4) rfl (by first | exact Or.inl rfl | exact Or.inr (Or.inl rfl) | exact Or.inr (Or.inr rfl))) de_int) da_nil))) (by rfl))
    (dss_one (ds_par (i := 2) (j := 3) rfl nd rfl rfl (by decide) rfl rfl (da_cons (de_fdiv (de_var (i := 7) rfl (by first | exact Or.inl rfl | exact Or.inr (Or.inl rfl) | exact Or.inr (Or.inr rfl))) de_int) (da_cons (de_fdiv (de_var (i := 8) rfl (by first | exact Or.inl rfl | exact Or.inr (Or.inl rfl) | exact Or.inr (Or.inr rfl))) de_int) da_nil)) (by rfl)))))))
    (dss_one (ds_ret (de_if (dt_ne hu (de_tup (da_cons (de_var (i := 0) rfl (by first | exact Or.inl rfl | exact Or.inr (Or.inl rfl) | exact Or.inr (Or.inr rfl))) (da_cons (de_var (i := 1) rfl (by first | exact Or.inl rfl | exact Or.inr (Or.inl rfl) | exact Or.inr (Or.inr rfl))) (da_cons (de_var (i := 2) rfl (by first | exact Or.inl rfl | exact Or.inr (Or.inl rfl) | exact Or.inr (Or.inr rfl))) (da_cons (de_var (i := 3) rfl (by first | exact Or.inl rfl | exact Or.inr (Or.inl rfl) | exact Or.inr (Or.inr rfl))) da_nil))))) (de_tup (da_cons de_int (da_cons de_int (da_cons de_int (da_cons de_int da_nil)))))) (de_tup (da_cons (de_var (i := 0) rfl (by first | exact Or.inl rfl | exact Or.inr (Or.inl rfl) | exact Or.inr (Or.inr rfl))) (da_cons (de_var (i := 1) rfl (by first | exact Or.inl rfl | exact Or.inr (Or.inl rfl) | exact Or.inr (Or.inr rfl))) (da_cons (de_var (i := 2) rfl (by first | exact Or.inl rfl | exact Or.inr (Or.inl rfl) | exact Or.inr (Or.inr rfl))) (da_cons (de_var (i := 3) rfl (by first | exact Or.inl rfl | exact Or.inr (Or.inl rfl) | exact Or.inr (Or.inr rfl))) (da_cons (de_var (i := 4) rfl (by first | exact Or.inl rfl | exact Or.inr (Or.inl rfl) | exact Or.inr (Or.inr rfl))) da_nil)))))) (de_tup (da_cons de_int (da_cons de_int (da_cons de_int (da_cons de_int (da_cons de_int da_nil))))))))))
/-! _law_at: ray_so 0 k_so 1 a_so 2 b_so 3 c_so 4 d_so 5 lap 6 near_so 7 next_so 8 -/
theorem sc_law_at : FnScope ["ray_so", "k_so", "a_so", "b_so", "c_so", "d_so", "lap", "near_so", "next_so"] ["ray_so", "k_so"] (defScope s_law_at) := ⟨rfl, rfl, rfl, by decide +kernel, rfl, by decide +kernel, by decide +kernel⟩
def g_law_at : SG := (sSeq (sAsg (dSl (dVar 0) dNoPart (dUn asInt (dC (.int 4)))) (tgT (tgCons (tgN 2) (tgCons (tgN 3) (tgCons (tgN 4) (tgCons (tgN 5) tgNil)))) 4))
    (sSeq (sFor (dUn asRng1 (dCons (dBin opSub (dVar 1) (dIx (dVar 0) (dC (.int 4)))) dNil)) (tgN 6) (sSeq (sPar 7 8 (dCons (dBin opSub (dVar 3) (dVar 5)) (dCons (dBin opAdd (dVar 2) (dVar 4)) dNil)))
    (sSeq (sPar 4 5 (dCons (dBin opAdd (dVar 3) (dVar 5)) (dCons (dBin opSub (dVar 4) (dVar 2)) dNil)))
    (sPar 2 3 (dCons (dVar 7) (dCons (dVar 8) dNil))))))
    (sRet (dTup (dCons (dVar 2) (dCons (dVar 3) (dCons (dVar 4) (dCons (dVar 5) dNil))))))))
def F_law_at : List D → List D → Option (D × List D) := bodyF 9 2 g_law_at
theorem ok_law_at (T : Txt K mg) : FnOk P w K mg base CX0 1 T.law_at.f T.law_at.fd ["ray_so", "k_so"] (spD K 2 F_law_at) := by
  unfold F_law_at
  refine ok_defn 0 g_law_at T.law_at.fn sc_law_at rfl rfl fun cdv A outer s H E hr => ?_
  have hu := hr.units
  have hu65 := room65 hr
  have nd := sc_law_at.nd
  exact (dss_cons (ds_asg (de_sl (de_var (i := 0) rfl (by first | exact Or.inl rfl | exact Or.inr (Or.inl rfl) | exact Or.inr (Or.inr rfl))) do_none (do_some de_int)) (dg_tup (n := 4) rfl (dgs_cons (dg_name (i := 2) nd rfl (by first | exact Or.inl rfl | exact Or.inr rfl)) (dgs_cons (dg_name (i := 3) nd rfl (by first | exact Or.inl rfl | exact Or.inr rfl)) (dgs_cons (dg_name (i := 4) nd rfl (by first | exact Or.inl rfl | exact Or.inr rfl)) (dgs_cons (dg_name (i := 5) nd rfl (by first | exact Or.inl rfl | exact Or.inr rfl)) dgs_nil))))))
    (dss_cons (ds_for PassesOwn.never rfl (di_rng1 (by rfl) T.b_range (da_cons (de_sub (de_var (i := 1) rfl (by first | exact Or.inl rfl | exact Or.inr (Or.inl rfl) | exact Or.inr (Or.inr rfl))) (de_ix (de_var (i := 0) rfl (by first | exact Or.inl rfl | exact Or.inr (Or.inl rfl) | exact Or.inr (Or.inr rfl))) de_int (plainIx rfl))) da_nil)) (dg_name (i := 6) nd rfl (by first | exact Or.inl rfl | exact Or.inr rfl)) (dss_cons (ds_par (i := 7) (j := 8) rfl nd rfl rfl (by decide) rfl rfl (da_cons (de_sub (de_var (i := 3) rfl (by first | exact Or.inl rfl | exact Or.inr (Or.inl rfl) | exact Or.inr (Or.inr rfl))) (de_var (i := 5) rfl (by first | exact Or.inl rfl | exact Or.inr (Or.inl rfl) | exact Or.inr (Or.inr rfl)))) (da_cons (de_add (de_var (i := 2) rfl (by first | exact Or.inl rfl | exact Or.inr (Or.inl rfl) | exact Or.inr (Or.inr rfl))) (de_var (i := 4) rfl (by first | exact Or.inl rfl | exact Or.inr (Or.inl rfl) | exact Or.inr (Or.inr rfl)))) da_nil)) (by rfl))
    (dss_cons (ds_par (i := 4) (j := 5) rfl nd rfl rfl (by decide) rfl rfl (da_cons (de_add (de_var (i := 3) rfl (by first | exact Or.inl rfl | exact Or.inr (Or.inl rfl) | exact Or.inr (Or.inr rfl))) (de_var (i := 5) rfl (by first | exact Or.inl rfl | exact Or.inr (Or.inl rfl) | exact Or.inr (Or.inr rfl)))) (da_cons (de_sub (de_var (i := 4) rfl (by first | exact Or.inl rfl | exact Or.inr (Or.inl rfl) | exact Or.inr (Or.inr rfl))) (de_var (i := 2) rfl (by first | exact Or.inl rfl | exact Or.inr (Or.inl rfl) | exact Or.inr (Or.inr rfl)))) da_nil)) (by rfl))
    (dss_one (ds_par (i := 2) (j := 3) rfl nd rfl rfl (by decide) rfl rfl (da_cons (de_var (i := 7) rfl (by first | exact Or.inl rfl | exact Or.inr (Or.inl rfl) | exact Or.inr (Or.inr rfl))) (da_cons (de_var (i := 8) rfl (by first | exact Or.inl rfl | exact Or.inr (Or.inl rfl) | exact Or.inr (Or.inr rfl))) da_nil)) (by rfl))))))
    (dss_one (ds_ret (de_tup (da_cons (de_var (i := 2) rfl (by first | exact Or.inl rfl | exact Or.inr (Or.inl rfl) | exact Or.inr (Or.inr rfl))) (da_cons (de_var (i := 3) rfl (by first | exact Or.inl rfl | exact Or.inr (Or.inl rfl) | exact Or.inr (Or.inr rfl))) (da_cons (de_var (i := 4) rfl (by first | exact Or.inl rfl | exact Or.inr (Or.inl rfl) | exact Or.inr (Or.inr rfl))) (da_cons (de_var (i := 5) rfl (by first | exact Or.inl rfl | exact Or.inr (Or.inl rfl) | exact Or.inr (Or.inr rfl))) da_nil)))))))))
/-! _law_ray_sum: one_so 0 other_so 1 k_so 2 near_so 3 far_so 4 own 5 j 6 -/
theorem sc_law_ray_sum : FnScope ["one_so", "other_so", "k_so", "near_so", "far_so", "own", "j"] ["one_so", "other_so"] (defScope s_law_ray_sum) := ⟨rfl, rfl, rfl, by decide +kernel, rfl, by decide +kernel, by decide +kernel⟩
def g_law_ray_sum : SG := (sSeq (sSet 2 (dUn bMax2 (dCons (dIx (dVar 0) (dC (.int 4))) (dCons (dIx (dVar 1) (dC (.int 4))) dNil))))
    (sSeq (sAsg (dTup (dCons (dCall F_law_at (dCons (dVar 0) (dCons (dVar 2) dNil))) (dCons (dCall F_law_at (dCons (dVar 1) (dCons (dVar 2) dNil))) dNil))) (tgT (tgCons (tgN 3) (tgCons (tgN 4) tgNil)) 2))
    (sSeq (sSet 5 (dOfF (dLc (dUn asRng1 (dCons (dC (.int 4)) dNil)) [6] (tgN 6) dYes (dBin opAdd (dIx (dVar 3) (dVar 6)) (dIx (dVar 4) (dVar 6))))))
    (sRet (dCall F_law_ray (dCons (dIx (dVar 5) (dC (.int 0))) (dCons (dIx (dVar 5) (dC (.int 1))) (dCons (dIx (dVar 5) (dC (.int 2))) (dCons (dIx (dVar 5) (dC (.int 3))) (dCons (dVar 2) dNil))))))))))
def F_law_ray_sum : List D → List D → Option (D × List D) := bodyF 7 2 g_law_ray_sum
theorem ok_law_ray_sum (T : Txt K mg) : FnOk P w K mg base CX0 2 T.law_ray_sum.f T.law_ray_sum.fd ["one_so", "other_so"] (spD K 2 F_law_ray_sum) := by
  unfold F_law_ray_sum
  refine ok_defn 1 g_law_ray_sum T.law_ray_sum.fn sc_law_ray_sum rfl rfl fun cdv A outer s H E hr => ?_
  have hu := hr.units
  have hu65 := room65 hr
  have nd := sc_law_ray_sum.nd
  exact (dss_cons (ds_set (i := 2) nd rfl (by first | exact Or.inl rfl | exact Or.inr rfl) (de_callB (call_max2 rfl) cd_max2 (by rfl) T.b_max boot_max (da_cons (de_ix (de_var (i := 0) rfl (by first | exact Or.inl rfl | exact Or.inr (Or.inl rfl) | exact Or.inr (Or.inr rfl))) de_int (plainIx rfl)) (da_cons (de_ix (de_var (i := 1) rfl (by first | exact Or.inl rfl | exact Or.inr (Or.inl rfl) | exact Or.inr (Or.inr rfl))) de_int (plainIx rfl)) da_nil))))
    (dss_cons (ds_asg (de_tup (da_cons (de_call (ok_law_at T) (hr.mono (by decide)) (by rfl) T.law_at.g T.law_at.fn.kp T.law_at.bd pass0 (da_cons (de_var (i := 0) rfl (by first | exact Or.inl rfl | exact Or.inr (Or.inl rfl) | exact Or.inr (Or.inr rfl))) (da_cons (de_var (i := 2) rfl (by first | exact Or.inl rfl | exact Or.inr (Or.inl rfl) | exact Or.inr (Or.inr rfl))) da_nil)) (dCons_len (dCons_len (fun _ _ _ _ h => dNil_len h)))) (da_cons (de_call (ok_law_at T) (hr.mono (by decide)) (by rfl) T.law_at.g T.law_at.fn.kp T.law_at.bd pass0 (da_cons (de_var (i := 1) rfl (by first | exact Or.inl rfl | exact Or.inr (Or.inl rfl) | exact Or.inr (Or.inr rfl))) (da_cons (de_var (i := 2) rfl (by first | exact Or.inl rfl | exact Or.inr (Or.inl rfl) | exact Or.inr (Or.inr rfl))) da_nil)) (dCons_len (dCons_len (fun _ _ _ _ h => dNil_len h)))) da_nil))) (dg_tup (n := 2) rfl (dgs_cons (dg_name (i := 3) nd rfl (by first | exact Or.inl rfl | exact Or.inr rfl)) (dgs_cons (dg_name (i := 4) nd rfl (by first | exact Or.inl rfl | exact Or.inr rfl)) dgs_nil))))
    (dss_cons (ds_setLc (i := 5) (setLc_any rfl nd rfl rfl (sw_true rfl rfl rfl (by decide +kernel)) (own := [("j", 6)]) (di_rng1 (by rfl) T.b_range (da_cons de_int da_nil)) (blkOk_by (N := ["one_so", "other_so", "k_so", "near_so", "far_so", "own", "j"]) (sc := defScope s_law_ray_sum) (by decide +kernel)) (fun _ _ _ _ _ => (dg_name (i := 6) nd rfl (by first | exact Or.inl rfl | exact Or.inr rfl))) (fun _ _ _ _ _ => dp_nil) (fun _ _ _ _ _ => (de_add (de_ix (de_var (i := 3) rfl (by first | exact Or.inl rfl | exact Or.inr (Or.inl rfl) | exact Or.inr (Or.inr rfl))) (de_var (i := 6) rfl (by first | exact Or.inl rfl | exact Or.inr (Or.inl rfl) | exact Or.inr (Or.inr rfl))) (plainIx rfl)) (de_ix (de_var (i := 4) rfl (by first | exact Or.inl rfl | exact Or.inr (Or.inl rfl) | exact Or.inr (Or.inr rfl))) (de_var (i := 6) rfl (by first | exact Or.inl rfl | exact Or.inr (Or.inl rfl) | exact Or.inr (Or.inr rfl))) (plainIx rfl)))) (by decide)))
    (dss_one (ds_ret (de_call (ok_law_ray T) (hr.mono (by decide)) (by rfl) T.law_ray.g T.law_ray.fn.kp T.law_ray.bd pass0 (da_cons (de_ix (de_var (i := 5) rfl (by first | exact Or.inl rfl | exact Or.inr (Or.inl rfl) | exact Or.inr (Or.inr rfl))) de_int (plainIx rfl)) (da_cons (de_ix (de_var (i := 5) rfl (by first | exact Or.inl rfl | exact Or.inr (Or.inl rfl) | exact Or.inr (Or.inr rfl))) de_int (plainIx rfl)) (da_cons (de_ix (de_var (i := 5) rfl (by first | exact Or.inl rfl | exact Or.inr (Or.inl rfl) | exact Or.inr (Or.inr rfl))) de_int (plainIx rfl)) (da_cons (de_ix (de_var (i := 5) rfl (by first | exact Or.inl rfl | exact Or.inr (Or.inl rfl) | exact Or.inr (Or.inr rfl))) de_int (plainIx rfl)) (da_cons (de_var (i := 2) rfl (by first | exact Or.inl rfl | exact Or.inr (Or.inl rfl) | exact Or.inr (Or.inr rfl))) da_nil))))) (dCons_len (dCons_len (dCons_len (dCons_len (dCons_len (fun _ _ _ _ h => dNil_len h))))))))))))
/-! _law_ray_minus: one_so 0 -/
theorem sc_law_ray_minus : FnScope ["one_so"] ["one_so"] (defScope s_law_ray_minus) := ⟨rfl, rfl, rfl, by decide +kernel, rfl, by decide +kernel, by decide +kernel⟩
def g_law_ray_minus : SG := (sRet (dTup (dCons (dUn opNeg (dIx (dVar 0) (dC (.int 0)))) (dCons (dUn opNeg (dIx (dVar 0) (dC (.int 1)))) (dCons (dUn opNeg (dIx (dVar 0) (dC (.int 2)))) (dCons (dUn opNeg (dIx (dVar 0) (dC (.int 3)))) (dCons (dIx (dVar 0) (dC (.int 4))) dNil)))))))
def F_law_ray_minus : List D → List D → Option (D × List D) := bodyF 1 1 g_law_ray_minus
theorem ok_law_ray_minus (T : Txt K mg) : FnOk P w K mg base CX0 1 T.law_ray_minus.f T.law_ray_minus.fd ["one_so"] (spD K 1 F_law_ray_minus) := by
  unfold F_law_ray_minus
  refine ok_defn 0 g_law_ray_minus T.law_ray_minus.fn sc_law_ray_minus rfl rfl fun cdv A outer s H E hr => ?_
  have hu := hr.units
  have hu65 := room65 hr
  have nd := sc_law_ray_minus.nd
  exact (dss_one (ds_ret (de_tup (da_cons (de_neg (de_ix (de_var (i := 0) rfl (by first | exact Or.inl rfl | exact Or.inr (Or.inl rfl) | exact Or.inr (Or.inr rfl))) de_int (plainIx rfl))) (da_cons (de_neg (de_ix (de_var (i := 0) rfl (by first | exact Or.inl rfl | exact Or.inr (Or.inl rfl) | exact Or.inr (Or.inr rfl))) de_int (plainIx rfl))) (da_cons (de_neg (de_ix (de_var (i := 0) rfl (by first | exact Or.inl rfl | exact Or.inr (Or.inl rfl) | exact Or.inr (Or.inr rfl))) de_int (plainIx rfl))) (da_cons (de_neg (de_ix (de_var (i := 0) rfl (by first | exact Or.inl rfl | exact Or.inr (Or.inl rfl) | exact Or.inr (Or.inr rfl))) de_int (plainIx rfl))) (da_cons (de_ix (de_var (i := 0) rfl (by first | exact Or.inl rfl | exact Or.inr (Or.inl rfl) | exact Or.inr (Or.inr rfl))) de_int (plainIx rfl)) da_nil))))))))
/-! _law_ray_prod: one_so 0 other_so 1 a_so 2 b_so 3 c_so 4 d_so 5 e_so 6 f_so 7 g_so 8 h_so 9 near_so 10 next_so 11 then_so 12 last_so 13 -/
theorem sc_law_ray_prod : FnScope ["one_so", "other_so", "a_so", "b_so", "c_so", "d_so", "e_so", "f_so", "g_so", "h_so", "near_so", "next_so", "then_so", "last_so"] ["one_so", "other_so"] (defScope s_law_ray_prod) := ⟨rfl, rfl, rfl, by decide +kernel, rfl, by decide +kernel, by decide +kernel⟩
def g_law_ray_prod : SG := (sSeq (sAsg (dSl (dVar 0) dNoPart (dUn asInt (dC (.int 4)))) (tgT (tgCons (tgN 2) (tgCons (tgN 3) (tgCons (tgN 4) (tgCons (tgN 5) tgNil)))) 4))
    (sSeq (sAsg (dSl (dVar 1) dNoPart (dUn asInt (dC (.int 4)))) (tgT (tgCons (tgN 6) (tgCons (tgN 7) (tgCons (tgN 8) (tgCons (tgN 9) tgNil)))) 4))
    (sSeq (sSet 10 (dBin opSub (dBin opSub (dBin opSub (dBin opMul (dVar 2) (dVar 6)) (dBin opMul (dVar 3) (dVar 9))) (dBin opMul (dVar 4) (dVar 8))) (dBin opMul (dVar 5) (dVar 7))))
    (sSeq (sSet 11 (dBin opSub (dBin opSub (dBin opAdd (dBin opMul (dVar 2) (dVar 7)) (dBin opMul (dVar 3) (dVar 6))) (dBin opMul (dVar 4) (dVar 9))) (dBin opMul (dVar 5) (dVar 8))))
    (sSeq (sSet 12 (dBin opSub (dBin opAdd (dBin opAdd (dBin opMul (dVar 2) (dVar 8)) (dBin opMul (dVar 3) (dVar 7))) (dBin opMul (dVar 4) (dVar 6))) (dBin opMul (dVar 5) (dVar 9))))
    (sSeq (sSet 13 (dBin opAdd (dBin opAdd (dBin opAdd (dBin opMul (dVar 2) (dVar 9)) (dBin opMul (dVar 3) (dVar 8))) (dBin opMul (dVar 4) (dVar 7))) (dBin opMul (dVar 5) (dVar 6))))
    (sRet (dCall F_law_ray (dCons (dVar 10) (dCons (dVar 11) (dCons (dVar 12) (dCons (dVar 13) (dCons (dBin opAdd (dIx (dVar 0) (dC (.int 4))) (dIx (dVar 1) (dC (.int 4)))) dNil)))))))))))))
def F_law_ray_prod : List D → List D → Option (D × List D) := bodyF 14 2 g_law_ray_prod
theorem ok_law_ray_prod (T : Txt K mg) : FnOk P w K mg base CX0 2 T.law_ray_prod.f T.law_ray_prod.fd ["one_so", "other_so"] (spD K 2 F_law_ray_prod) := by
  unfold F_law_ray_prod
  refine ok_defn 1 g_law_ray_prod T.law_ray_prod.fn sc_law_ray_prod rfl rfl fun cdv A outer s H E hr => ?_
  have hu := hr.units
  have hu65 := room65 hr
  have nd := sc_law_ray_prod.nd
  exact (dss_cons (ds_asg (de_sl (de_var (i := 0) rfl (by first | exact Or.inl rfl | exact Or.inr (Or.inl rfl) | exact Or.inr (Or.inr rfl))) do_none (do_some de_int)) (dg_tup (n := 4) rfl (dgs_cons (dg_name (i := 2) nd rfl (by first | exact Or.inl rfl | exact Or.inr rfl)) (dgs_cons (dg_name (i := 3) nd rfl (by first | exact Or.inl rfl | exact Or.inr rfl)) (dgs_cons (dg_name (i := 4) nd rfl (by first | exact Or.inl rfl | exact Or.inr rfl)) (dgs_cons (dg_name (i := 5) nd rfl (by first | exact Or.inl rfl | exact Or.inr rfl)) dgs_nil))))))
    (dss_cons (ds_asg (de_sl (de_var (i := 1) rfl (by first | exact Or.inl rfl | exact Or.inr (Or.inl rfl) | exact Or.inr (Or.inr rfl))) do_none (do_some de_int)) (dg_tup (n := 4) rfl (dgs_cons (dg_name (i := 6) nd rfl (by first | exact Or.inl rfl | exact Or.inr rfl)) (dgs_cons (dg_name (i := 7) nd rfl (by first | exact Or.inl rfl | exact Or.inr rfl)) (dgs_cons (dg_name (i := 8) nd rfl (by first | exact Or.inl rfl | exact Or.inr rfl)) (dgs_cons (dg_name (i := 9) nd rfl (by first | exact Or.inl rfl | exact Or.inr rfl)) dgs_nil))))))
    (dss_cons (ds_set (i := 10) nd rfl (by first | exact Or.inl rfl | exact Or.inr rfl) (de_sub (de_sub (de_sub (de_mul (de_var (i := 2) rfl (by first | exact Or.inl rfl | exact Or.inr (Or.inl rfl) | exact Or.inr (Or.inr rfl))) (de_var (i := 6) rfl (by first | exact Or.inl rfl | exact Or.inr (Or.inl rfl) | exact Or.inr (Or.inr rfl)))) (de_mul (de_var (i := 3) rfl (by first | exact Or.inl rfl | exact Or.inr (Or.inl rfl) | exact Or.inr (Or.inr rfl))) (de_var (i := 9) rfl (by first | exact Or.inl rfl | exact Or.inr (Or.inl rfl) | exact Or.inr (Or.inr rfl))))) (de_mul (de_var (i := 4) rfl (by first | exact Or.inl rfl | exact Or.inr (Or.inl rfl) | exact Or.inr (Or.inr rfl))) (de_var (i := 8) rfl (by first | exact Or.inl rfl | exact Or.inr (Or.inl rfl) | exact Or.inr (Or.inr rfl))))) (de_mul (de_var (i := 5) rfl (by first | exact Or.inl rfl | exact Or.inr (Or.inl rfl) | exact Or.inr (Or.inr rfl))) (de_var (i := 7) rfl (by first | exact Or.inl rfl | exact Or.inr (Or.inl rfl) | exact Or.inr (Or.inr rfl))))))
    (dss_cons (ds_set (i := 11) nd rfl (by first | exact Or.inl rfl | exact Or.inr rfl) (de_sub (de_sub (de_add (de_mul (de_var (i := 2) rfl (by first | exact Or.inl rfl | exact Or.inr (Or.inl rfl) | exact Or.inr (Or.inr rfl))) (de_var (i := 7) rfl (by first | exact Or.inl rfl | exact Or.inr (Or.inl rfl) | exact Or.inr (Or.inr rfl)))) (de_mul (de_var (i := 3) rfl (by first | exact Or.inl rfl | exact Or.inr (Or.inl rfl) | exact Or.inr (Or.inr rfl))) (de_var (i := 6) rfl (by first | exact Or.inl rfl | exact Or.inr (Or.inl rfl) | exact Or.inr (Or.inr rfl))))) (de_mul (de_var (i := 4) rfl (by first | exact Or.inl rfl | exact Or.inr (Or.inl rfl) | exact Or.inr (Or.inr rfl))) (de_var (i := 9) rfl (by first | exact Or.inl rfl | exact Or.inr (Or.inl rfl) | exact Or.inr (Or.inr rfl))))) (de_mul (de_var (i := 5) rfl (by first | exact Or.inl rfl | exact Or.inr (Or.inl rfl) | exact Or.inr (Or.inr rfl))) (de_var (i := 8) rfl (by first | exact Or.inl rfl | exact Or.inr (Or.inl rfl) | exact Or.inr (Or.inr rfl))))))
    (dss_cons (ds_set (i := 12) nd rfl (by first | exact Or.inl rfl | exact Or.inr rfl) (de_sub (de_add (de_add (de_mul (de_var (i := 2) rfl (by first | exact Or.inl rfl | exact Or.inr (Or.inl rfl) | exact Or.inr (Or.inr rfl))) (de_var (i := 8) rfl (by first | exact Or.inl rfl | exact Or.inr (Or.inl rfl) | exact Or.inr (Or.inr rfl)))) (de_mul (de_var (i := 3) rfl (by first | exact Or.inl rfl | exact Or.inr (Or.inl rfl) | exact Or.inr (Or.inr rfl))) (de_var (i := 7) rfl (by first | exact Or.inl rfl | exact Or.inr (Or.inl rfl) | exact Or.inr (Or.inr rfl))))) (de_mul (de_var (i := 4) rfl (by first | exact Or.inl rfl | exact Or.inr (Or.inl rfl) | exact Or.inr (Or.inr rfl))) (de_var (i := 6) rfl (by first | exact Or.inl rfl | exact Or.inr (Or.inl rfl) | exact Or.inr (Or.inr rfl))))) (de_mul (de_var (i := 5) rfl (by first | exact Or.inl rfl | exact Or.inr (Or.inl rfl) | exact Or.inr (Or.inr rfl))) (de_var (i := 9) rfl (by first | exact Or.inl rfl | exact Or.inr (Or.inl rfl) | exact Or.inr (Or.inr rfl))))))
    (dss_cons (ds_set (i := 13) nd rfl (by first | exact Or.inl rfl | exact Or.inr rfl) (de_add (de_add (de_add (de_mul (de_var (i := 2) rfl (by first | exact Or.inl rfl | exact Or.inr (Or.inl rfl) | exact Or.inr (Or.inr rfl))) (de_var (i := 9) rfl (by first | exact Or.inl rfl | exact Or.inr (Or.inl rfl) | exact Or.inr (Or.inr rfl)))) (de_mul (de_var (i := 3) rfl (by first | exact Or.inl rfl | exact Or.inr (Or.inl rfl) | exact Or.inr (Or.inr rfl))) (de_var (i := 8) rfl (by first | exact Or.inl rfl | exact Or.inr (Or.inl rfl) | exact Or.inr (Or.inr rfl))))) (de_mul (de_var (i := 4) rfl (by first | exact Or.inl rfl | exact Or.inr (Or.inl rfl) | exact Or.inr (Or.inr rfl))) (de_var (i := 7) rfl (by first | exact Or.inl rfl | exact Or.inr (Or.inl rfl) | exact Or.inr (Or.inr rfl))))) (de_mul (de_var (i := 5) rfl (by first | exact Or.inl rfl | exact Or.inr (Or.inl rfl) | exact Or.inr (Or.inr rfl))) (de_var (i := 6) rfl (by first | exact Or.inl rfl | exact Or.inr (Or.inl rfl) | exact Or.inr (Or.inr rfl))))))
    (dss_one (ds_ret (de_call (ok_law_ray T) (hr.mono (by decide)) (by rfl) T.law_ray.g T.law_ray.fn.kp T.law_ray.bd pass0 (da_cons (de_var (i := 10) rfl (by first | exact Or.inl rfl | exact Or.inr (Or.inl rfl) | exact Or.inr (Or.inr rfl))) (da_cons (de_var (i := 11) rfl (by first | exact Or.inl rfl | exact Or.inr (Or.inl rfl) | exact Or.inr (Or.inr rfl))) (da_cons (de_var (i := 12) rfl (by first | exact Or.inl rfl | exact Or.inr (Or.inl rfl) | exact Or.inr (Or.inr rfl))) (da_cons (de_var (i := 13) rfl (by first | exact Or.inl rfl | exact Or.inr (Or.inl rfl) | exact Or.inr (Or.inr rfl))) (da_cons (de_add (de_ix (de_var (i := 0) rfl (by first | exact Or.inl rfl | exact Or.inr (Or.inl rfl) | exact Or.inr (Or.inr rfl))) de_int (plainIx rfl)) (de_ix (de_var (i := 1) rfl (by first | exact Or.inl rfl | exact Or.inr (Or.inl rfl) | exact Or.inr (Or.inr rfl))) de_int (plainIx rfl))) da_nil))))) (dCons_len (dCons_len (dCons_len (dCons_len (dCons_len (fun _ _ _ _ h => dNil_len h)))))))))))))))
/-! _law_sign: one 0 x 1 y 2 far 3 -/
theorem sc_law_sign : FnScope ["one", "x", "y", "far"] ["one"] (defScope s_law_sign) := ⟨rfl, rfl, rfl, by decide +kernel, rfl, by decide +kernel, by decide +kernel⟩
def g_law_sign : SG := (sSeq (sPar 1 2 (dCons (dIx (dVar 0) (dC (.int 0))) (dCons (dIx (dVar 0) (dC (.int 1))) dNil)))
    (sSeq (sIf (dOr (dAnd (dUn asBool (dBin opGe (dVar 1) (dC (.int 0)))) (dUn asBool (dBin opGe (dVar 2) (dC (.int 0))))) (dAnd (dUn asBool (dBin opLe (dVar 1) (dC (.int 0)))) (dUn asBool (dBin opLe (dVar 2) (dC (.int 0)))))) (sRet (dBin opSub (dUn bInt1 (dCons (dOrV (dBin opGt (dVar 1) (dC (.int 0))) (dBin opGt (dVar 2) (dC (.int 0)))) dNil)) (dUn bInt1 (dCons (dOrV (dBin opLt (dVar 1) (dC (.int 0))) (dBin opLt (dVar 2) (dC (.int 0)))) dNil)))) sNil)
    (sSeq (sSet 3 (dBin opSub (dBin opMul (dVar 1) (dVar 1)) (dBin opMul (dBin opMul (dC (.int 2)) (dVar 2)) (dVar 2))))
    (sRet (dBin opMul (dBin opSub (dUn bInt1 (dCons (dBin opGt (dVar 3) (dC (.int 0))) dNil)) (dUn bInt1 (dCons (dBin opLt (dVar 3) (dC (.int 0))) dNil))) (dIf (dUn asBool (dBin opGt (dVar 1) (dC (.int 0)))) (dC (.int 1)) (dUn opNeg (dC (.int 1)))))))))
def F_law_sign : List D → List D → Option (D × List D) := bodyF 4 1 g_law_sign
theorem ok_law_sign (T : Txt K mg) : FnOk P w K mg base CX0 1 T.law_sign.f T.law_sign.fd ["one"] (spD K 1 F_law_sign) := by
  unfold F_law_sign
  refine ok_defn 0 g_law_sign T.law_sign.fn sc_law_sign rfl rfl fun cdv A outer s H E hr => ?_
  have hu := hr.units
  have hu65 := room65 hr
  have nd := sc_law_sign.nd
  exact (dss_cons (ds_par (i := 1) (j := 2) rfl nd rfl rfl (by decide) rfl rfl (da_cons (de_ix (de_var (i := 0) rfl (by first | exact Or.inl rfl | exact Or.inr (Or.inl rfl) | exact Or.inr (Or.inr rfl))) de_int (plainIx rfl)) (da_cons (de_ix (de_var (i := 0) rfl (by first | exact Or.inl rfl | exact Or.inr (Or.inl rfl) | exact Or.inr (Or.inr rfl))) de_int (plainIx rfl)) da_nil)) (by rfl))
    (dss_cons (ds_if (DW.dt (dw_or (DW.dt (dw_and (dt_ge (de_var (i := 1) rfl (by first | exact Or.inl rfl | exact Or.inr (Or.inl rfl) | exact Or.inr (Or.inr rfl))) de_int) (dw_and1 (dt_ge (de_var (i := 2) rfl (by first | exact Or.inl rfl | exact Or.inr (Or.inl rfl) | exact Or.inr (Or.inr rfl))) de_int)))) (dw_or1 (DW.dt (dw_and (dt_le (de_var (i := 1) rfl (by first | exact Or.inl rfl | exact Or.inr (Or.inl rfl) | exact Or.inr (Or.inr rfl))) de_int) (dw_and1 (dt_le (de_var (i := 2) rfl (by first | exact Or.inl rfl | exact Or.inr (Or.inl rfl) | exact Or.inr (Or.inr rfl))) de_int))))))) (dss_one (ds_ret (de_sub (de_callTy call_int1 cd_int1 (by rfl) T.b_int boot_int (da_cons (de_or (de_gt (de_var (i := 1) rfl (by first | exact Or.inl rfl | exact Or.inr (Or.inl rfl) | exact Or.inr (Or.inr rfl))) de_int) (de_one (de_gt (de_var (i := 2) rfl (by first | exact Or.inl rfl | exact Or.inr (Or.inl rfl) | exact Or.inr (Or.inr rfl))) de_int))) da_nil)) (de_callTy call_int1 cd_int1 (by rfl) T.b_int boot_int (da_cons (de_or (de_lt (de_var (i := 1) rfl (by first | exact Or.inl rfl | exact Or.inr (Or.inl rfl) | exact Or.inr (Or.inr rfl))) de_int) (de_one (de_lt (de_var (i := 2) rfl (by first | exact Or.inl rfl | exact Or.inr (Or.inl rfl) | exact Or.inr (Or.inr rfl))) de_int))) da_nil))))) dss_nil)
    (dss_cons (ds_set (i := 3) nd rfl (by first | exact Or.inl rfl | exact Or.inr rfl) (de_sub (de_mul (de_var (i := 1) rfl (by first | exact Or.inl rfl | exact Or.inr (Or.inl rfl) | exact Or.inr (Or.inr rfl))) (de_var (i := 1) rfl (by first | exact Or.inl rfl | exact Or.inr (Or.inl rfl) | exact Or.inr (Or.inr rfl)))) (de_mul (de_mul de_int (de_var (i := 2) rfl (by first | exact Or.inl rfl | exact Or.inr (Or.inl rfl) | exact Or.inr (Or.inr rfl)))) (de_var (i := 2) rfl (by first | exact Or.inl rfl | exact Or.inr (Or.inl rfl) | exact Or.inr (Or.inr rfl))))))
    (dss_one (ds_ret (de_mul (de_sub (de_callTy call_int1 cd_int1 (by rfl) T.b_int boot_int (da_cons (de_gt (de_var (i := 3) rfl (by first | exact Or.inl rfl | exact Or.inr (Or.inl rfl) | exact Or.inr (Or.inr rfl))) de_int) da_nil)) (de_callTy call_int1 cd_int1 (by rfl) T.b_int boot_int (da_cons (de_lt (de_var (i := 3) rfl (by first | exact Or.inl rfl | exact Or.inr (Or.inl rfl) | exact Or.inr (Or.inr rfl))) de_int) da_nil))) (de_if (dt_gt (de_var (i := 1) rfl (by first | exact Or.inl rfl | exact Or.inr (Or.inl rfl) | exact Or.inr (Or.inr rfl))) de_int) de_int (de_neg de_int))))))))
/-! _law_small: one 0 own 1 -/
theorem sc_law_small : FnScope ["one", "own"] ["one"] (defScope s_law_small) := ⟨rfl, rfl, rfl, by decide +kernel, rfl, by decide +kernel, by decide +kernel⟩
def g_law_small : SG := (sRet (dAndV (dBin opLe (dUn bMax (dCons (dOfF (dLc (dUn asItems (dSl (dVar 0) dNoPart (dUn asInt (dC (.int 4))))) [1] (tgN 1) dYes (dUn bAbs (dCons (dVar 1) dNil)))) dNil)) (dBin opPow (dC (.int 10)) (dC (.int 12)))) (dBin opLe (dIx (dVar 0) (dC (.int 4))) (dC (.int 40)))))
def F_law_small : List D → List D → Option (D × List D) := bodyF 2 1 g_law_small
theorem ok_law_small (T : Txt K mg) : FnOk P w K mg base CX0 1 T.law_small.f T.law_small.fd ["one"] (spD K 1 F_law_small) := by
  unfold F_law_small
  refine ok_defn 0 g_law_small T.law_small.fn sc_law_small rfl rfl fun cdv A outer s H E hr => ?_
  have hu := hr.units
  have hu65 := room65 hr
  have nd := sc_law_small.nd
  exact (dss_one (ds_ret (de_and (de_le (de_callB (cr_max rfl) cd_max (by rfl) T.b_max boot_max (da_cons (DF.de (df_lc rfl nd (own := [("own", 1)]) (di_seq (de_sl (de_var (i := 0) rfl (by first | exact Or.inl rfl | exact Or.inr (Or.inl rfl) | exact Or.inr (Or.inr rfl))) do_none (do_some de_int))) (blkOk_by (N := ["one", "own"]) (sc := defScope s_law_small) (by decide +kernel)) (fun _ _ _ _ _ => (dg_name (i := 1) nd rfl (by first | exact Or.inl rfl | exact Or.inr rfl))) (fun _ _ _ _ _ => dp_nil) (fun _ _ _ _ _ => (de_callB call_abs cd_abs (by rfl) T.b_abs boot_abs (da_cons (de_var (i := 1) rfl (by first | exact Or.inl rfl | exact Or.inr (Or.inl rfl) | exact Or.inr (Or.inr rfl))) da_nil))) (by decide))) da_nil)) (de_pow de_int de_int)) (de_one (de_le (de_ix (de_var (i := 0) rfl (by first | exact Or.inl rfl | exact Or.inr (Or.inl rfl) | exact Or.inr (Or.inr rfl))) de_int (plainIx rfl)) de_int)))))
/-! _law_drawn: tin 0 door 1 x 2 y 3 lap 4 -/
theorem sc_law_drawn : FnScope ["tin", "door", "x", "y", "lap"] ["tin"] (defScope s_law_drawn) := ⟨rfl, rfl, rfl, by decide +kernel, rfl, by decide +kernel, by decide +kernel⟩
def g_law_drawn : SG := (sSeq (sSet 1 (dCall F_law_take (dCons (dVar 0) (dCons (dC (.int 4)) dNil))))
    (sSeq (sIf (dUn asBool (dBin opEq (dVar 1) (dC (.int 0)))) (sSeq (sAsg (dTup (dCons (dC (.int 1)) (dCons (dC (.int 1)) dNil))) (tgT (tgCons (tgN 2) (tgCons (tgN 3) tgNil)) 2))
    (sSeq (sFor (dUn asRng1 (dCons (dCall F_law_take (dCons (dVar 0) (dCons (dC (.int 30)) dNil))) dNil)) (tgN 4) (sPar 2 3 (dCons (dBin opAdd (dVar 2) (dBin opMul (dC (.int 2)) (dVar 3))) (dCons (dBin opAdd (dVar 2) (dVar 3)) dNil))))
    (sAsg (dIf (dUn asBool (dBin opEq (dCall F_law_take (dCons (dVar 0) (dCons (dC (.int 2)) dNil))) (dC (.int 0)))) (dTup (dCons (dVar 2) (dCons (dUn opNeg (dVar 3)) dNil))) (dTup (dCons (dUn opNeg (dVar 2)) (dCons (dVar 3) dNil)))) (tgT (tgCons (tgN 2) (tgCons (tgN 3) tgNil)) 2)))) (sIf (dUn asBool (dBin opEq (dVar 1) (dC (.int 1)))) (sPar 2 3 (dCons (dBin opSub (dCall F_law_take (dCons (dVar 0) (dCons (dC (.int 5)) dNil))) (dC (.int 2))) (dCons (dBin opSub (dCall F_law_take (dCons (dVar 0) (dCons (dC (.int 5)) dNil))) (dC (.int 2))) dNil))) (sPar 2 3 (dCons (dBin opSub (dCall F_law_take (dCons (dVar 0) (dCons (dC (.int 2000001)) dNil))) (dC (.int 1000000))) (dCons (dBin opSub (dCall F_law_take (dCons (dVar 0) (dCons (dC (.int 2000001)) dNil))) (dC (.int 1000000))) dNil)))))
    (sRet (dCall F_law_ray (dCons (dVar 2) (dCons (dVar 3) (dCons (dC (.int 0)) (dCons (dUn opNeg (dVar 3)) (dCons (dCall F_law_of (dCons (dVar 0) (dCons (dOfF (dLst (dCons (dC (.int 0)) (dCons (dC (.int 0)) (dCons (dC (.int 1)) (dCons (dC (.int 2)) (dCons (dC (.int 7)) (dCons (dC (.int 30)) dNil)))))))) dNil))) dNil)))))))))
def F_law_drawn : List D → List D → Option (D × List D) := bodyF 5 1 g_law_drawn
theorem ok_law_drawn (T : Txt K mg) : FnOk P w K mg base CX0 3 T.law_drawn.f T.law_drawn.fd ["tin"] (spD K 1 F_law_drawn) := by
  unfold F_law_drawn
  refine ok_defn 2 g_law_drawn T.law_drawn.fn sc_law_drawn rfl rfl fun cdv A outer s H E hr => ?_
  have hu := hr.units
  have hu65 := room65 hr
  have nd := sc_law_drawn.nd
  exact (dss_cons (ds_set (i := 1) nd rfl (by first | exact Or.inl rfl | exact Or.inr rfl) (de_call (ok_law_take T) (hr.mono (by decide)) (by rfl) T.law_take.g T.law_take.fn.kp T.law_take.bd pass0 (da_cons (de_var (i := 0) rfl (by first | exact Or.inl rfl | exact Or.inr (Or.inl rfl) | exact Or.inr (Or.inr rfl))) (da_cons de_int da_nil)) (dCons_len (dCons_len (fun _ _ _ _ h => dNil_len h)))))
    (dss_cons (ds_if (dt_eq hu (de_var (i := 1) rfl (by first | exact Or.inl rfl | exact Or.inr (Or.inl rfl) | exact Or.inr (Or.inr rfl))) de_int) (dss_cons (ds_asg (de_tup (da_cons de_int (da_cons de_int da_nil))) (dg_tup (n := 2) rfl (dgs_cons (dg_name (i := 2) nd rfl (by first | exact Or.inl rfl | exact Or.inr rfl)) (dgs_cons (dg_name (i := 3) nd rfl (by first | exact Or.inl rfl | exact Or.inr rfl)) dgs_nil))))
    (dss_cons (ds_for PassesOwn.never rfl (di_rng1 (by rfl) T.b_range (da_cons (de_call (ok_law_take T) (hr.mono (by decide)) (by rfl) T.law_take.g T.law_take.fn.kp T.law_take.bd pass0 (da_cons (de_var (i := 0) rfl (by first | exact Or.inl rfl | exact Or.inr (Or.inl rfl) | exact Or.inr (Or.inr rfl))) (da_cons de_int da_nil)) (dCons_len (dCons_len (fun _ _ _ _ h => dNil_len h)))) da_nil)) (dg_name (i := 4) nd rfl (by first | exact Or.inl rfl | exact Or.inr rfl)) (dss_one (ds_par (i := 2) (j := 3) rfl nd rfl rfl (by decide) rfl rfl (da_cons (de_add (de_var (i := 2) rfl (by first | exact Or.inl rfl | exact Or.inr (Or.inl rfl) | exact Or.inr (Or.inr rfl))) (de_mul de_int (de_var (i := 3) rfl (by first | exact Or.inl rfl | exact Or.inr (Or.inl rfl) | exact Or.inr (Or.inr rfl))))) (da_cons (de_add (de_var (i := 2) rfl (by first | exact Or.inl rfl | exact Or.inr (Or.inl rfl) | exact Or.inr (Or.inr rfl))) (de_var (i := 3) rfl (by first | exact Or.inl rfl | exact Or.inr (Or.inl rfl) | exact Or.inr (Or.inr rfl)))) da_nil)) (by rfl))))
    (dss_one (ds_asg (de_if (dt_eq hu (de_call (ok_law_take T) (hr.mono (by decide)) (by rfl) T.law_take.g T.law_take.fn.kp T.law_take.bd pass0 (da_cons (de_var (i := 0) rfl (by first | exact Or.inl rfl | exact Or.inr (Or.inl rfl) | exact Or.inr (Or.inr rfl))) (da_cons de_int da_nil)) (dCons_len (dCons_len (fun _ _ _ _ h => dNil_len h)))) de_int) (de_tup (da_cons (de_var (i := 2) rfl (by first | exact Or.inl rfl | exact Or.inr (Or.inl rfl) | exact Or.inr (Or.inr rfl))) (da_cons (de_neg (de_var (i := 3) rfl (by first | exact Or.inl rfl | exact Or.inr (Or.inl rfl) | exact Or.inr (Or.inr rfl)))) da_nil))) (de_tup (da_cons (de_neg (de_var (i := 2) rfl (by first | exact Or.inl rfl | exact Or.inr (Or.inl rfl) | exact Or.inr (Or.inr rfl)))) (da_cons (de_var (i := 3) rfl (by first | exact Or.inl rfl | exact Or.inr (Or.inl rfl) | exact Or.inr (Or.inr rfl))) da_nil)))) (dg_tup (n := 2) rfl (dgs_cons (dg_name (i := 2) nd rfl (by first | exact Or.inl rfl | exact Or.inr rfl)) (dgs_cons (dg_name (i := 3) nd rfl (by first | exact Or.inl rfl | exact Or.inr rfl)) dgs_nil))))))) (dss_one (ds_if (dt_eq hu (de_var (i := 1) rfl (by first | exact Or.inl rfl | exact Or.inr (Or.inl rfl) | exact Or.inr (Or.inr rfl))) de_int) (dss_one (ds_par (i := 2) (j := 3) rfl nd rfl rfl (by decide) rfl rfl (da_cons (de_sub (de_call (ok_law_take T) (hr.mono (by decide)) (by rfl) T.law_take.g T.law_take.fn.kp T.law_take.bd pass0 (da_cons (de_var (i := 0) rfl (by first | exact Or.inl rfl | exact Or.inr (Or.inl rfl) | exact Or.inr (Or.inr rfl))) (da_cons de_int da_nil)) (dCons_len (dCons_len (fun _ _ _ _ h => dNil_len h)))) de_int) (da_cons (de_sub (de_call (ok_law_take T) (hr.mono (by decide)) (by rfl) T.law_take.g T.law_take.fn.kp T.law_take.bd pass0 (da_cons (de_var (i := 0) rfl (by first | exact Or.inl rfl | exact Or.inr (Or.inl rfl) | exact Or.inr (Or.inr rfl))) (da_cons de_int da_nil)) (dCons_len (dCons_len (fun _ _ _ _ h => dNil_len h)))) de_int) da_nil)) (by rfl))) (dss_one (ds_par (i := 2) (j := 3) rfl nd rfl rfl (by decide) rfl rfl (da_cons (de_sub (de_call (ok_law_take T) (hr.mono (by decide)) (by rfl) T.law_take.g T.law_take.fn.kp T.law_take.bd pass0 (da_cons (de_var (i := 0) rfl (by first | exact Or.inl rfl | exact Or.inr (Or.inl rfl) | exact Or.inr (Or.inr rfl))) (da_cons de_int da_nil)) (dCons_len (dCons_len (fun _ _ _ _ h => dNil_len h)))) de_int) (da_cons (de_sub (de_call (ok_law_take T) (hr.mono (by decide)) (by rfl) T.law_take.g T.law_take.fn.kp T.law_take.bd pass0 (da_cons (de_var (i := 0) rfl (by first | exact Or.inl rfl | exact Or.inr (Or.inl rfl) | exact Or.inr (Or.inr rfl))) (da_cons de_int da_nil)) (dCons_len (dCons_len (fun _ _ _ _ h => dNil_len h)))) de_int) da_nil)) (by rfl))))))
    (dss_one (ds_ret (de_call (ok_law_ray T) (hr.mono (by decide)) (by rfl) T.law_ray.g T.law_ray.fn.kp T.law_ray.bd pass0 (da_cons (de_var (i := 2) rfl (by first | exact Or.inl rfl | exact Or.inr (Or.inl rfl) | exact Or.inr (Or.inr rfl))) (da_cons (de_var (i := 3) rfl (by first | exact Or.inl rfl | exact Or.inr (Or.inl rfl) | exact Or.inr (Or.inr rfl))) (da_cons de_int (da_cons (de_neg (de_var (i := 3) rfl (by first | exact Or.inl rfl | exact Or.inr (Or.inl rfl) | exact Or.inr (Or.inr rfl)))) (da_cons (de_call (ok_law_of T) (hr.mono (by decide)) (by rfl) T.law_of.g T.law_of.fn.kp T.law_of.bd pass0 (da_cons (de_var (i := 0) rfl (by first | exact Or.inl rfl | exact Or.inr (Or.inl rfl) | exact Or.inr (Or.inr rfl))) (da_cons (DF.de (df_lst (da_cons de_int (da_cons de_int (da_cons de_int (da_cons de_int (da_cons de_int (da_cons de_int da_nil)))))))) da_nil)) (dCons_len (dCons_len (fun _ _ _ _ h => dNil_len h)))) da_nil))))) (dCons_len (dCons_len (dCons_len (dCons_len (dCons_len (fun _ _ _ _ h => dNil_len h)))))))))))
/-! _law_pair_right: one 0 other 1 less 2 total 3 both 4 own 5 -/
theorem sc_law_pair_right : FnScope ["one", "other", "less", "total", "both", "own"] ["one", "other"] (defScope s_law_pair_right) := ⟨rfl, rfl, rfl, by decide +kernel, rfl, by decide +kernel, by decide +kernel⟩
def g_law_pair_right : SG := (sSeq (sPar3 2 3 4 (dCons (dCall F_law_ray_sum (dCons (dVar 0) (dCons (dCall F_law_ray_minus (dCons (dVar 1) dNil)) dNil))) (dCons (dCall F_law_ray_sum (dCons (dVar 0) (dCons (dVar 1) dNil))) (dCons (dCall F_law_ray_prod (dCons (dVar 0) (dCons (dVar 1) dNil))) dNil))))
    (sSeq (sFor (dUn asItems (dTup (dCons (dVar 2) (dCons (dVar 3) (dCons (dVar 4) dNil))))) (tgN 5) (sIf (dAnd (dUn asBool (dCall F_law_small (dCons (dVar 5) dNil))) (dUn asBool (dBin opNe (dCall F_sign_of (dCons (dVar 5) dNil)) (dCall F_law_sign (dCons (dVar 5) dNil))))) (sRet (dC (.bool false))) sNil))
    (sSeq (sIf (dAnd (dUn asBool (dCall F_law_small (dCons (dVar 2) dNil))) (dNot (dUn asBool (dCall F_law_same (dCons (dCall F_sign_of (dCons (dCall F_ray_sum (dCons (dVar 0) (dCons (dCall F_turned_ray (dCons (dVar 1) (dCons (dC (.int 4)) dNil))) dNil))) dNil)) (dCons (dCall F_law_sign (dCons (dVar 2) dNil)) dNil)))))) (sRet (dC (.bool false))) sNil)
    (sSeq (sIf (dAnd (dUn asBool (dCall F_law_small (dCons (dVar 4) dNil))) (dNot (dUn asBool (dCall F_law_same (dCons (dCall F_sign_of (dCons (dCall F_ray_product (dCons (dVar 0) (dCons (dVar 1) dNil))) dNil)) (dCons (dBin opMul (dCall F_law_sign (dCons (dVar 0) dNil)) (dCall F_law_sign (dCons (dVar 1) dNil))) dNil)))))) (sRet (dC (.bool false))) sNil)
    (sRet (dOrV (dUn (fun x => (asBool x).map fun b => .bool (!b)) (dAndV (dBin opGt (dCall F_law_sign (dCons (dVar 0) dNil)) (dC (.int 0))) (dBin opGt (dCall F_law_sign (dCons (dVar 1) dNil)) (dC (.int 0))))) (dOrV (dUn (fun x => (asBool x).map fun b => .bool (!b)) (dCall F_law_small (dCons (dVar 3) dNil))) (dBin opEq (dCall F_sign_of (dCons (dCall F_ray_sum (dCons (dVar 0) (dCons (dVar 1) dNil))) dNil)) (dC (.int 1))))))))))
def F_law_pair_right : List D → List D → Option (D × List D) := bodyF 6 2 g_law_pair_right
theorem ok_law_pair_right (T : Txt K mg) : FnOk P w K mg base CX0 10 T.law_pair_right.f T.law_pair_right.fd ["one", "other"] (spD K 2 F_law_pair_right) := by
  unfold F_law_pair_right
  refine ok_defn 9 g_law_pair_right T.law_pair_right.fn sc_law_pair_right rfl rfl fun cdv A outer s H E hr => ?_
  have hu := hr.units
  have hu65 := room65 hr
  have nd := sc_law_pair_right.nd
  exact (dss_cons (ds_par3 (i := 2) (j := 3) (l := 4) rfl nd rfl rfl rfl (by decide) (by decide) (by decide) rfl rfl rfl (da_cons (de_call (ok_law_ray_sum T) (hr.mono (by decide)) (by rfl) T.law_ray_sum.g T.law_ray_sum.fn.kp T.law_ray_sum.bd pass0 (da_cons (de_var (i := 0) rfl (by first | exact Or.inl rfl | exact Or.inr (Or.inl rfl) | exact Or.inr (Or.inr rfl))) (da_cons (de_call (ok_law_ray_minus T) (hr.mono (by decide)) (by rfl) T.law_ray_minus.g T.law_ray_minus.fn.kp T.law_ray_minus.bd pass0 (da_cons (de_var (i := 1) rfl (by first | exact Or.inl rfl | exact Or.inr (Or.inl rfl) | exact Or.inr (Or.inr rfl))) da_nil) (dCons_len (fun _ _ _ _ h => dNil_len h))) da_nil)) (dCons_len (dCons_len (fun _ _ _ _ h => dNil_len h)))) (da_cons (de_call (ok_law_ray_sum T) (hr.mono (by decide)) (by rfl) T.law_ray_sum.g T.law_ray_sum.fn.kp T.law_ray_sum.bd pass0 (da_cons (de_var (i := 0) rfl (by first | exact Or.inl rfl | exact Or.inr (Or.inl rfl) | exact Or.inr (Or.inr rfl))) (da_cons (de_var (i := 1) rfl (by first | exact Or.inl rfl | exact Or.inr (Or.inl rfl) | exact Or.inr (Or.inr rfl))) da_nil)) (dCons_len (dCons_len (fun _ _ _ _ h => dNil_len h)))) (da_cons (de_call (ok_law_ray_prod T) (hr.mono (by decide)) (by rfl) T.law_ray_prod.g T.law_ray_prod.fn.kp T.law_ray_prod.bd pass0 (da_cons (de_var (i := 0) rfl (by first | exact Or.inl rfl | exact Or.inr (Or.inl rfl) | exact Or.inr (Or.inr rfl))) (da_cons (de_var (i := 1) rfl (by first | exact Or.inl rfl | exact Or.inr (Or.inl rfl) | exact Or.inr (Or.inr rfl))) da_nil)) (dCons_len (dCons_len (fun _ _ _ _ h => dNil_len h)))) da_nil))) (by rfl))
    (dss_cons (ds_for PassesOwn.never rfl (di_seq (de_tup (da_cons (de_var (i := 2) rfl (by first | exact Or.inl rfl | exact Or.inr (Or.inl rfl) | exact Or.inr (Or.inr rfl))) (da_cons (de_var (i := 3) rfl (by first | exact Or.inl rfl | exact Or.inr (Or.inl rfl) | exact Or.inr (Or.inr rfl))) (da_cons (de_var (i := 4) rfl (by first | exact Or.inl rfl | exact Or.inr (Or.inl rfl) | exact Or.inr (Or.inr rfl))) da_nil))))) (dg_name (i := 5) nd rfl (by first | exact Or.inl rfl | exact Or.inr rfl)) (dss_one (ds_if (DW.dt (dw_and (dt_val (de_call (ok_law_small T) (hr.mono (by decide)) (by rfl) T.law_small.g T.law_small.fn.kp T.law_small.bd pass0 (da_cons (de_var (i := 5) rfl (by first | exact Or.inl rfl | exact Or.inr (Or.inl rfl) | exact Or.inr (Or.inr rfl))) da_nil) (dCons_len (fun _ _ _ _ h => dNil_len h)))) (dw_and1 (dt_ne hu (de_call (ok_sign_of T) (hr.mono (by decide)) (by rfl) T.sign_of.g T.sign_of.fn.kp T.sign_of.bd pass0 (da_cons (de_var (i := 5) rfl (by first | exact Or.inl rfl | exact Or.inr (Or.inl rfl) | exact Or.inr (Or.inr rfl))) da_nil) (dCons_len (fun _ _ _ _ h => dNil_len h))) (de_call (ok_law_sign T) (hr.mono (by decide)) (by rfl) T.law_sign.g T.law_sign.fn.kp T.law_sign.bd pass0 (da_cons (de_var (i := 5) rfl (by first | exact Or.inl rfl | exact Or.inr (Or.inl rfl) | exact Or.inr (Or.inr rfl))) da_nil) (dCons_len (fun _ _ _ _ h => dNil_len h))))))) (dss_one (ds_ret de_bl)) dss_nil)))
    (dss_cons (ds_if (DW.dt (dw_and (dt_val (de_call (ok_law_small T) (hr.mono (by decide)) (by rfl) T.law_small.g T.law_small.fn.kp T.law_small.bd pass0 (da_cons (de_var (i := 2) rfl (by first | exact Or.inl rfl | exact Or.inr (Or.inl rfl) | exact Or.inr (Or.inr rfl))) da_nil) (dCons_len (fun _ _ _ _ h => dNil_len h)))) (dw_and1 (dt_not (dt_val (de_call (ok_law_same T 8) (hr.mono (by decide)) (by rfl) T.law_same.g T.law_same.fn.kp T.law_same.bd pass0 (da_cons (de_call (ok_sign_of T) (hr.mono (by decide)) (by rfl) T.sign_of.g T.sign_of.fn.kp T.sign_of.bd pass0 (da_cons (de_call (ok_ray_sum T) (hr.mono (by decide)) (by rfl) T.ray_sum.g T.ray_sum.fn.kp T.ray_sum.bd pass0 (da_cons (de_var (i := 0) rfl (by first | exact Or.inl rfl | exact Or.inr (Or.inl rfl) | exact Or.inr (Or.inr rfl))) (da_cons (de_call (ok_turned_ray T) (hr.mono (by decide)) (by rfl) T.turned_ray.g T.turned_ray.fn.kp T.turned_ray.bd pass0 (da_cons (de_var (i := 1) rfl (by first | exact Or.inl rfl | exact Or.inr (Or.inl rfl) | exact Or.inr (Or.inr rfl))) (da_cons de_int da_nil)) (dCons_len (dCons_len (fun _ _ _ _ h => dNil_len h)))) da_nil)) (dCons_len (dCons_len (fun _ _ _ _ h => dNil_len h)))) da_nil) (dCons_len (fun _ _ _ _ h => dNil_len h))) (da_cons (de_call (ok_law_sign T) (hr.mono (by decide)) (by rfl) T.law_sign.g T.law_sign.fn.kp T.law_sign.bd pass0 (da_cons (de_var (i := 2) rfl (by first | exact Or.inl rfl | exact Or.inr (Or.inl rfl) | exact Or.inr (Or.inr rfl))) da_nil) (dCons_len (fun _ _ _ _ h => dNil_len h))) da_nil)) (dCons_len (dCons_len (fun _ _ _ _ h => dNil_len h))))))))) (dss_one (ds_ret de_bl)) dss_nil)
    (dss_cons (ds_if (DW.dt (dw_and (dt_val (de_call (ok_law_small T) (hr.mono (by decide)) (by rfl) T.law_small.g T.law_small.fn.kp T.law_small.bd pass0 (da_cons (de_var (i := 4) rfl (by first | exact Or.inl rfl | exact Or.inr (Or.inl rfl) | exact Or.inr (Or.inr rfl))) da_nil) (dCons_len (fun _ _ _ _ h => dNil_len h)))) (dw_and1 (dt_not (dt_val (de_call (ok_law_same T 8) (hr.mono (by decide)) (by rfl) T.law_same.g T.law_same.fn.kp T.law_same.bd pass0 (da_cons (de_call (ok_sign_of T) (hr.mono (by decide)) (by rfl) T.sign_of.g T.sign_of.fn.kp T.sign_of.bd pass0 (da_cons (de_call (ok_ray_product T) (hr.mono (by decide)) (by rfl) T.ray_product.g T.ray_product.fn.kp T.ray_product.bd pass0 (da_cons (de_var (i := 0) rfl (by first | exact Or.inl rfl | exact Or.inr (Or.inl rfl) | exact Or.inr (Or.inr rfl))) (da_cons (de_var (i := 1) rfl (by first | exact Or.inl rfl | exact Or.inr (Or.inl rfl) | exact Or.inr (Or.inr rfl))) da_nil)) (dCons_len (dCons_len (fun _ _ _ _ h => dNil_len h)))) da_nil) (dCons_len (fun _ _ _ _ h => dNil_len h))) (da_cons (de_mul (de_call (ok_law_sign T) (hr.mono (by decide)) (by rfl) T.law_sign.g T.law_sign.fn.kp T.law_sign.bd pass0 (da_cons (de_var (i := 0) rfl (by first | exact Or.inl rfl | exact Or.inr (Or.inl rfl) | exact Or.inr (Or.inr rfl))) da_nil) (dCons_len (fun _ _ _ _ h => dNil_len h))) (de_call (ok_law_sign T) (hr.mono (by decide)) (by rfl) T.law_sign.g T.law_sign.fn.kp T.law_sign.bd pass0 (da_cons (de_var (i := 1) rfl (by first | exact Or.inl rfl | exact Or.inr (Or.inl rfl) | exact Or.inr (Or.inr rfl))) da_nil) (dCons_len (fun _ _ _ _ h => dNil_len h)))) da_nil)) (dCons_len (dCons_len (fun _ _ _ _ h => dNil_len h))))))))) (dss_one (ds_ret de_bl)) dss_nil)
    (dss_one (ds_ret (de_or (de_not (de_and (de_gt (de_call (ok_law_sign T) (hr.mono (by decide)) (by rfl) T.law_sign.g T.law_sign.fn.kp T.law_sign.bd pass0 (da_cons (de_var (i := 0) rfl (by first | exact Or.inl rfl | exact Or.inr (Or.inl rfl) | exact Or.inr (Or.inr rfl))) da_nil) (dCons_len (fun _ _ _ _ h => dNil_len h))) de_int) (de_one (de_gt (de_call (ok_law_sign T) (hr.mono (by decide)) (by rfl) T.law_sign.g T.law_sign.fn.kp T.law_sign.bd pass0 (da_cons (de_var (i := 1) rfl (by first | exact Or.inl rfl | exact Or.inr (Or.inl rfl) | exact Or.inr (Or.inr rfl))) da_nil) (dCons_len (fun _ _ _ _ h => dNil_len h))) de_int)))) (de_or (de_not (de_call (ok_law_small T) (hr.mono (by decide)) (by rfl) T.law_small.g T.law_small.fn.kp T.law_small.bd pass0 (da_cons (de_var (i := 3) rfl (by first | exact Or.inl rfl | exact Or.inr (Or.inl rfl) | exact Or.inr (Or.inr rfl))) da_nil) (dCons_len (fun _ _ _ _ h => dNil_len h)))) (de_one (de_eq hu (de_call (ok_sign_of T) (hr.mono (by decide)) (by rfl) T.sign_of.g T.sign_of.fn.kp T.sign_of.bd pass0 (da_cons (de_call (ok_ray_sum T) (hr.mono (by decide)) (by rfl) T.ray_sum.g T.ray_sum.fn.kp T.ray_sum.bd pass0 (da_cons (de_var (i := 0) rfl (by first | exact Or.inl rfl | exact Or.inr (Or.inl rfl) | exact Or.inr (Or.inr rfl))) (da_cons (de_var (i := 1) rfl (by first | exact Or.inl rfl | exact Or.inr (Or.inl rfl) | exact Or.inr (Or.inr rfl))) da_nil)) (dCons_len (dCons_len (fun _ _ _ _ h => dNil_len h)))) da_nil) (dCons_len (fun _ _ _ _ h => dNil_len h))) de_int))))))))))
def gx_sign_of : XG := (xSeq (xIf (dNot (dUn asBool (dCall F_is_real (dCons (dVar 0) dNil)))) (xRaise "Unfit") (xLift sNil))
    (xLift (sSeq (sPar 1 2 (dCons (dIx (dVar 0) (dC (.int 0))) (dCons (dIx (dVar 0) (dC (.int 1))) dNil)))
    (sSeq (sIf (dUn asBool (dBin opEq (dBin opAdd (dBin opMul (dVar 1) (dUn bAbs (dCons (dVar 1) dNil))) (dBin opMul (dBin opMul (dC (.int 2)) (dVar 2)) (dUn bAbs (dCons (dVar 2) dNil)))) (dC (.int 0)))) (sRet (dC (.int 0))) sNil)
    (sRet (dIf (dUn asBool (dBin opGt (dBin opAdd (dBin opMul (dVar 1) (dUn bAbs (dCons (dVar 1) dNil))) (dBin opMul (dBin opMul (dC (.int 2)) (dVar 2)) (dUn bAbs (dCons (dVar 2) dNil)))) (dC (.int 0)))) (dC (.int 1)) (dUn opNeg (dC (.int 1)))))))))
def FX_sign_of : XF := bodyX 3 1 gx_sign_of
theorem okx_sign_of (T : Txt K mg) : FnOk P w K mg base (L2N.CX P w) 3 T.sign_of.f T.sign_of.fd ["ray"] (spX K mg 1 FX_sign_of) := by
  unfold FX_sign_of
  refine ok_defX 2 gx_sign_of T.sign_of.fn sc_sign_of rfl rfl fun cdv A outer s H E hr tk => ?_
  have hu := hr.units
  have hu65 := room65 hr
  have nd := sc_sign_of.nd
  exact (xss_cons (xs_if (dt_not (dt_val (de_call (ok_is_real T) (hr.mono (by decide)) (by rfl) T.is_real.g T.is_real.fn.kp T.is_real.bd pass0 (da_cons (de_var (i := 0) rfl (by first | exact Or.inl rfl | exact Or.inr (Or.inl rfl) | exact Or.inr (Or.inr rfl))) da_nil) (dCons_len (fun _ _ _ _ h => dNil_len h))))) (xss_one (xs_raise0 T.e_Unfit rfl tk (by rfl))) (xss_lift dss_nil))
    (xss_lift (dss_cons (ds_par (i := 1) (j := 2) rfl nd rfl rfl (by decide) rfl rfl (da_cons (de_ix (de_var (i := 0) rfl (by first | exact Or.inl rfl | exact Or.inr (Or.inl rfl) | exact Or.inr (Or.inr rfl))) de_int (plainIx rfl)) (da_cons (de_ix (de_var (i := 0) rfl (by first | exact Or.inl rfl | exact Or.inr (Or.inl rfl) | exact Or.inr (Or.inr rfl))) de_int (plainIx rfl)) da_nil)) (by rfl))
    (dss_cons (ds_if (dt_eq hu (de_add (de_mul (de_var (i := 1) rfl (by first | exact Or.inl rfl | exact Or.inr (Or.inl rfl) | exact Or.inr (Or.inr rfl))) (de_callB call_abs cd_abs (by rfl) T.b_abs boot_abs (da_cons (de_var (i := 1) rfl (by first | exact Or.inl rfl | exact Or.inr (Or.inl rfl) | exact Or.inr (Or.inr rfl))) da_nil))) (de_mul (de_mul de_int (de_var (i := 2) rfl (by first | exact Or.inl rfl | exact Or.inr (Or.inl rfl) | exact Or.inr (Or.inr rfl)))) (de_callB call_abs cd_abs (by rfl) T.b_abs boot_abs (da_cons (de_var (i := 2) rfl (by first | exact Or.inl rfl | exact Or.inr (Or.inl rfl) | exact Or.inr (Or.inr rfl))) da_nil)))) de_int) (dss_one (ds_ret de_int)) dss_nil)
    (dss_one (ds_ret (de_if (dt_gt (de_add (de_mul (de_var (i := 1) rfl (by first | exact Or.inl rfl | exact Or.inr (Or.inl rfl) | exact Or.inr (Or.inr rfl))) (de_callB call_abs cd_abs (by rfl) T.b_abs boot_abs (da_cons (de_var (i := 1) rfl (by first | exact Or.inl rfl | exact Or.inr (Or.inl rfl) | exact Or.inr (Or.inr rfl))) da_nil))) (de_mul (de_mul de_int (de_var (i := 2) rfl (by first | exact Or.inl rfl | exact Or.inr (Or.inl rfl) | exact Or.inr (Or.inr rfl)))) (de_callB call_abs cd_abs (by rfl) T.b_abs boot_abs (da_cons (de_var (i := 2) rfl (by first | exact Or.inl rfl | exact Or.inr (Or.inl rfl) | exact Or.inr (Or.inr rfl))) da_nil)))) de_int) de_int (de_neg de_int))))))))
def gh_mirrored : SG := (sSeq (sAsg (dVar 0) (tgTt (tgCons (tgN 1) (tgCons (tgN 2) (tgCons (tgN 3) (tgCons (tgN 4) (tgCons (tgN 5) tgNil))))) 5))
    (sRet (dTup (dCons (dVar 1) (dCons (dUn opNeg (dVar 4)) (dCons (dUn opNeg (dVar 3)) (dCons (dUn opNeg (dVar 2)) (dCons (dVar 5) dNil))))))))
def FH_mirrored : List D → List D → Option (D × List D) := bodyF 6 1 gh_mirrored
theorem okh_mirrored (T : Txt K mg) : L2H.FnH P w K mg base CX0 1 T.mirrored.f T.mirrored.fd ["ray"] (spD K 1 FH_mirrored) := by
  unfold FH_mirrored
  refine ok_defH 0 gh_mirrored T.mirrored.fn sc_mirrored rfl rfl fun cdv A outer s H E p hr hot => ?_
  have hu := roomHu hr
  have hu65 := roomH65 hr
  have nd := sc_mirrored.nd
  exact (dss_cons (ds_asg (de_var (i := 0) rfl (by first | exact Or.inl rfl | exact Or.inr (Or.inl rfl) | exact Or.inr (Or.inr rfl))) (dg_tupH (n := 5) hot (dgs_cons (dg_name (i := 1) nd rfl (by first | exact Or.inl rfl | exact Or.inr rfl)) (dgs_cons (dg_name (i := 2) nd rfl (by first | exact Or.inl rfl | exact Or.inr rfl)) (dgs_cons (dg_name (i := 3) nd rfl (by first | exact Or.inl rfl | exact Or.inr rfl)) (dgs_cons (dg_name (i := 4) nd rfl (by first | exact Or.inl rfl | exact Or.inr rfl)) (dgs_cons (dg_name (i := 5) nd rfl (by first | exact Or.inl rfl | exact Or.inr rfl)) dgs_nil)))))))
    (dss_one (ds_ret (de_tup (da_cons (de_var (i := 1) rfl (by first | exact Or.inl rfl | exact Or.inr (Or.inl rfl) | exact Or.inr (Or.inr rfl))) (da_cons (de_neg (de_var (i := 4) rfl (by first | exact Or.inl rfl | exact Or.inr (Or.inl rfl) | exact Or.inr (Or.inr rfl)))) (da_cons (de_neg (de_var (i := 3) rfl (by first | exact Or.inl rfl | exact Or.inr (Or.inl rfl) | exact Or.inr (Or.inr rfl)))) (da_cons (de_neg (de_var (i := 2) rfl (by first | exact Or.inl rfl | exact Or.inr (Or.inl rfl) | exact Or.inr (Or.inr rfl)))) (da_cons (de_var (i := 5) rfl (by first | exact Or.inl rfl | exact Or.inr (Or.inl rfl) | exact Or.inr (Or.inr rfl))) da_nil)))))))))
def gh_is_real : SG := (sRet (dBin opEq (dUn bTuple (dCons (dVar 0) dNil)) (dCall FH_mirrored (dCons (dVar 0) dNil))))
def FH_is_real : List D → List D → Option (D × List D) := bodyF 1 1 gh_is_real
theorem okh_is_real (T : Txt K mg) : L2H.FnH P w K mg base CX0 2 T.is_real.f T.is_real.fd ["ray"] (spD K 1 FH_is_real) := by
  unfold FH_is_real
  refine ok_defH 1 gh_is_real T.is_real.fn sc_is_real rfl rfl fun cdv A outer s H E p hr hot => ?_
  have hu := roomHu hr
  have hu65 := roomH65 hr
  have nd := sc_is_real.nd
  exact (dss_one (ds_ret (de_eq hu (de_callTy call_tuple_of cd_tuple (by rfl) T.b_tuple boot_tuple (da_cons (de_var (i := 0) rfl (by first | exact Or.inl rfl | exact Or.inr (Or.inl rfl) | exact Or.inr (Or.inr rfl))) da_nil)) (de_callH (okh_mirrored T) (hr.mono (by decide)) hot (by rfl) T.mirrored.g T.mirrored.fn.kp T.mirrored.bd passH (da_cons (de_var (i := 0) rfl (by first | exact Or.inl rfl | exact Or.inr (Or.inl rfl) | exact Or.inr (Or.inr rfl))) da_nil) (dCons_len (fun _ _ _ _ h => dNil_len h))))))
/-! the_head: -/
theorem sc_law_cells : FnScope ["script", "most_so", "cells_so", "k", "cell_so", "at_so"] ["script", "most_so"] (defScope s_law_cells) := ⟨rfl, rfl, rfl, by decide +kernel, rfl, by decide +kernel, by decide +kernel⟩
theorem ok_law_cells (T : Txt K mg) : FnOk P w K mg base CX0 1 T.law_cells.f T.law_cells.fd ["script", "most_so"] (spCells K) := by
  refine T.law_cells.fn.ok sc_law_cells (fun vs H Q E h => ?_) (fun cdv A outer s H vs Q E hr h => ?_)
  · obtain ⟨a, ns, rfl, _⟩ := h
    rfl
  have nd := sc_law_cells.nd
  obtain ⟨a, ns, rfl, hS, h63, q⟩ := h
  refine ⟨_, pss_cons (ps_set (i := 2) nd rfl (Or.inl rfl) (pe_orT (pe_callTy call_list_of (by rfl) T.b_list boot_list (pa_cons (pe_slice sl_list (pv 0) po_none (po_some (pv 1))) pa_nil)) (pe_one (pe_lst (pa_cons pe_int pa_nil)))))
    (pss_cons (ps_for PassesOwn.never rfl (pi_enum (by rfl) T.b_enumerate (pa_cons (pe_slice sl_list (pv 0) (po_some (pv 1)) (po_some pe_int)) pa_nil)) (pg_tup rfl (pgs_cons (pg_name (i := 3) nd rfl (Or.inl rfl)) (pgs_cons (pg_name (i := 4) nd rfl (Or.inl rfl)) pgs_nil)))
      (pss_cons (ps_set (i := 5) nd rfl (Or.inl rfl) (pe_op op_mod (pe_callTy call_int1 (by rfl) T.b_int boot_int (pa_cons (pv 3) pa_nil)) (pv 1)))
        (pss_one (ps_asg (pe_op op_add (pe_ix ix_list (pv 2) (pv 5) (plainIx rfl)) (pe_op op_mul (pv 4) (pe_op op_add (pv 3) pe_int))) (pg_sub (pv 2) (pv 5) set_list)))))
    (pss_one (ps_ret (pv 2)))), ?_⟩
  -- list(script[:1]) or [0]
  refine ⟨_, rfl, _, rfl, 1, rfl, a, _, rfl, hS, fun p hp => ?_⟩
  have s1 := same_new (o := .lst (cutV (ns.map V.int) none (some 1))) hp
  refine ⟨p, _, rfl, .inl (SqL.of upd_same), fun l hl => ?_⟩
  have s2 := same_new (o := .lst (cutV (ns.map V.int) none (some 1))) hl
  have s12 := s1.trans s2
  have ecut : cutV (ns.map V.int) none (some 1) = (ns.take 1).map V.int := by
    unfold cutV
    rw [show HT.sIx (ns.map V.int).length (ns.map V.int).length (some 1) = min 1 (ns.map V.int).length from HT.sIx_nat _ _ 1, HT.sIx_none, List.length_map, Nat.sub_zero, List.drop_zero, ← List.map_take]
    by_cases h : 1 ≤ ns.length
    · rw [Nat.min_eq_left h]
    · rw [Nat.min_eq_right (by omega), List.take_of_length_le (Nat.le_refl _), List.take_of_length_le (by omega)]
  -- what follows the first statement
  have rest : ∀ (H1 : Hp) (c : Addr) (m : Int), Same H H1 → H c = none → H1 c = some (.lst [.int m]) → tSeq (tFor (iEnum K (tCons (tSl (rSlL K) (tVar 0) (tPart (tVar 1)) (tPart (tC (.int 63)))) tNil)) (gTup K 2 (gCons (gName 3) (gCons (gName 4) gNil)))
      (tSeq (tAsg (tOp (rI (fun _ j => 0 < j) fun i j => .int (i % j)) (tCB (fun xs H Q => (∃ i, xs = [.int i] ∧ Q (.int i) H) ∨ ∃ k, xs = [.bl k] ∧ Q (.int (if k then 1 else 0)) H) (tCons (tVar 3) tNil)) (tVar 1)) (gName 5))
        (tAsg (tOp (rI0 fun i j => .int (i + j)) (tOp (rIxL K) (tVar 2) (tVar 5)) (tOp (rI CMul fun i j => .int (i * j)) (tVar 4) (tOp (rI0 fun i j => .int (i + j)) (tVar 3) (tC (.int 2))))) (gSub (tVar 2) (tVar 5) rSetL))))
      (tRet (tVar 2)) { nx := fun _ H' => Q .non H', rt := Q } [some (.ref a), some (.int 1), some (.ref c), none, none, none] H1 := by
    intro H1 c m t1 hc e1
    refine ⟨_, rfl, _, rfl, 1, rfl, 63, rfl, a, _, rfl, t1.seq hS, fun d nd1 => ?_⟩
    have ncd : c ≠ d := ne_of_none e1 nd1
    generalize hys : cutV (ns.map V.int) (some 1) (some 63) = ys
    have hint : ∀ (i : Nat) (v : V), ys[i]? = some v → ∃ n : Int, v = .int n := fun i v h => by
      rw [← hys] at h
      unfold cutV at h
      have hm := List.mem_of_mem_drop (List.mem_of_mem_take (List.mem_of_getElem? h))
      obtain ⟨n, _, e⟩ := List.mem_map.mp hm
      exact ⟨n, e.symm⟩
    have hlen : ys.length ≤ 63 := by
      rw [← hys]
      have := cutV_length (ns.map V.int) (some 1) (some 63)
      rw [List.length_map] at this
      omega
    refine ⟨d, ys, rfl, SqL.of upd_same, fun i m σ H3 => ∃ x3 x4 x5 z, σ = [some (.ref a), some (.int 1), some (.ref c), x3, x4, x5] ∧ i + m = ys.length ∧ Same H H3 ∧ H3 d = some (.lst ys) ∧ H3 c = some (.lst [.int z]),
      ⟨ys.length, none, none, none, m, rfl, by omega, t1.trans (same_new nd1), upd_same, by rw [upd_ne ncd]; exact e1⟩, fun i m σ H3 hW => ?_⟩
    obtain ⟨x3, x4, x5, z, rfl, em, t3, ed, ec⟩ := hW
    by_cases hi : i < ys.length
    · have g1 : ys[i]? = some ys[i] := List.getElem?_eq_getElem hi
      refine .inr ⟨⟨ys, ys[i], SqL.of ed, g1⟩, fun σ' H' => ∃ x3 x4 x5 z, σ' = [some (.ref a), some (.int 1), some (.ref c), x3, x4, x5] ∧ Same H H' ∧ H' d = some (.lst ys) ∧ H' c = some (.lst [.int z]), fun σ' H' hN => ?_, fun x H' hy => ?_⟩
      · obtain ⟨y3, y4, y5, z', e, t, e4, e5⟩ := hN
        exact ⟨m - 1, by omega, y3, y4, y5, z', e, by omega, t, e4, e5⟩
      · obtain ⟨u, x1, rfl, nu, rfl, f1⟩ := hy
        have ex : x1 = ys[i] := Option.some.inj ((f1 _ (SqL.of ed)).symm.trans g1)
        subst ex
        obtain ⟨v, hv⟩ := hint i _ g1
        have nuc : c ≠ u := ne_of_none ec nu
        have nud : d ≠ u := ne_of_none ed nu
        have su := same_new (o := .tup [.int (i : Nat), ys[i]]) nu
        refine ⟨u, [.int (i : Nat), ys[i]], rfl, SqT.of upd_same, rfl, _, _, rfl, _, _, rfl, rfl, ?_⟩
        refine ⟨.int (i : Nat), rfl, .inl ⟨_, rfl, .int 1, rfl, _, 1, rfl, rfl, (by show (0 : Int) < 1; decide), ?_⟩⟩
        have e0 : ((i : Nat) : Int) % 1 = 0 := Int.emod_one _
        refine ⟨.ref c, rfl, _, rfl, c, [.int z], ((i : Nat) : Int) % 1, .int z, rfl, rfl, SqL.of (su _ _ ec), (by rw [e0]; rfl), ?_⟩
        refine ⟨ys[i], rfl, .int (i : Nat), rfl, _, 2, rfl, rfl, v, _, hv, rfl, .inr ⟨?_, ?_⟩, z, _, rfl, rfl, ?_⟩
        · omega
        · have : (i : Int) < 63 := by omega
          omega
        refine ⟨.ref c, rfl, _, rfl, c, [.int z], ((i : Nat) : Int) % 1, 0, rfl, rfl, su _ _ ec, (by rw [e0]; rfl), ?_⟩
        refine ⟨_, _, _, _, rfl, fun b o e => ?_, ?_, upd_same⟩
        · have nb : b ≠ c := ne_of_none e hc
          rw [upd_ne nb]
          exact su _ _ (t3 _ _ e)
        · rw [upd_ne ncd.symm]
          exact su _ _ ed
    · refine .inl ⟨⟨ys, SqL.of ed, by omega⟩, ?_⟩
      exact ⟨_, rfl, q H3 c [z] t3 ec (by show 1 ≤ 1000; decide)⟩
  have hlp : l ≠ p := fun z => by rw [z, upd_same] at hl; cases hl
  have hlH : H l = none := by rw [upd_ne hlp] at hl; exact hl
  refine ⟨!(cutV (ns.map V.int) none (some 1)).isEmpty, .inl ⟨_, SqL.of upd_same, rfl⟩, ?_⟩
  rw [ecut]
  rw [ecut] at s12
  cases ns with
  | nil =>
    refine iteF ⟨by show 1 ≤ sizeLine; decide, fun r hr' => ?_⟩
    have s3 := same_new (o := .lst [.int 0]) hr'
    exact rest _ r 0 (s12.trans s3) ((s12.free hr')) upd_same
  | cons x xs => exact iteT (rest _ l x s12 hlH upd_same)
/-! the_box: -/
theorem sc_law_box : FnScope ["script", "k", "cell_so"] ["script", "k"] (defScope s_law_box) := ⟨rfl, rfl, rfl, by decide +kernel, rfl, by decide +kernel, by decide +kernel⟩
theorem ok_law_box (T : Txt K mg) : FnOk P w K mg base CX0 1 T.law_box.f T.law_box.fd ["script", "k"] (spBox K) := by
  refine T.law_box.fn.ok sc_law_box (fun vs H Q E h => ?_) (fun cdv A outer s H vs Q E hr h => ?_)
  · obtain ⟨a, ns, rfl, _⟩ := h
    rfl
  have nd := sc_law_box.nd
  obtain ⟨a, ns, rfl, hS, h63, q⟩ := h
  refine ⟨_, pss_cons (ps_set (i := 2) nd rfl (Or.inl rfl) (pe_ifExp (pt_cmpR op_lt (pv 1) (pe_callB call_len_seq (by rfl) T.b_len PySem.boot_len (pa_cons (pv 0) pa_nil)) (nomark _)) (pe_ix ix_list (pv 0) (pv 1) (plainIx rfl)) pe_int))
    (pss_one (ps_ret (pe_lst (pa_cons (pe_op op_mul (pe_callB call_abs (by rfl) T.b_abs boot_abs (pa_cons (pv 2) pa_nil)) (pe_callTy call_int1 (by rfl) T.b_int boot_int (pa_cons (pe_cmpR op_ge (pe_callB call_abs (by rfl) T.b_abs boot_abs (pa_cons (pv 2) pa_nil)) (pe_op op_pow pe_int pe_int) (nomark _)) pa_nil)))
      (pa_cons (pe_op op_add (pe_op op_add (pe_op op_mod (pe_callTy call_int1 (by rfl) T.b_int boot_int (pa_cons (pv 2) pa_nil)) pe_int) (pe_op op_mul pe_int (pv 1))) pe_int) (pa_cons pe_int pa_nil)))))), ?_⟩
  have rest : ∀ v : Int, (tRet (tLst (tCons (tOp (rI CMul fun i j => .int (i * j)) (tCB (fun xs H Q => ∃ i, xs = [.int i] ∧ Q (.int (if i < 0 then -i else i)) H) (tCons (tVar 2) tNil)) (tCB (fun xs H Q => (∃ i, xs = [.int i] ∧ Q (.int i) H) ∨ ∃ k, xs = [.bl k] ∧ Q (.int (if k then 1 else 0)) H) (tCons (tOp (rI0 fun i j => .bl (decide (j ≤ i))) (tCB (fun xs H Q => ∃ i, xs = [.int i] ∧ Q (.int (if i < 0 then -i else i)) H) (tCons (tVar 2) tNil)) (tOp (rI CPow fun i j => .int (i ^ j.toNat)) (tC (.int 10)) (tC (.int 18)))) tNil)))
      (tCons (tOp (rI0 fun i j => .int (i + j)) (tOp (rI0 fun i j => .int (i + j)) (tOp (rI (fun _ j => 0 < j) fun i j => .int (i % j)) (tCB (fun xs H Q => (∃ i, xs = [.int i] ∧ Q (.int i) H) ∨ ∃ k, xs = [.bl k] ∧ Q (.int (if k then 1 else 0)) H) (tCons (tVar 2) tNil)) (tC (.int 2305843009213693951))) (tOp (rI CMul fun i j => .int (i * j)) (tC (.int 39373)) (tVar 1))) (tC (.int 31184))) (tCons (tC (.int 0)) tNil))))) { nx := fun _ H' => Q .non H', rt := Q } [some (.ref a), some (.int 0), some (.int v)] H := by
    intro v
    refine ⟨_, rfl, v, rfl, _, rfl, v, rfl, 10, 18, rfl, rfl, ⟨by decide, by decide, by decide⟩, _, _, rfl, rfl, ?_⟩
    refine .inr ⟨_, rfl, _, _, rfl, rfl, .inr ?_, ?_⟩
    · exact (show ∀ b : Bool, -(2 ^ 64) < (if b = true then (1 : Int) else 0) ∧ (if b = true then (1 : Int) else 0) < 2 ^ 64 by decide) _
    refine ⟨_, rfl, .inl ⟨v, rfl, _, _, rfl, rfl, (by show (0 : Int) < 2305843009213693951; decide), _, rfl, _, _, rfl, rfl, .inl ⟨by decide, by decide⟩, _, _, rfl, rfl, _, _, rfl, rfl, by show 3 ≤ sizeLine; decide, fun p hp => ?_⟩⟩
    have h1 : 0 ≤ v % 2305843009213693951 := Int.emod_nonneg v (by decide)
    have h2 : v % 2305843009213693951 < 2305843009213693951 := Int.emod_lt_of_pos v (by decide)
    refine q _ p _ _ (same_new hp) upd_same ?_ (by omega) (by omega)
    split <;> split <;> omega
  refine ⟨_, rfl, _, rfl, a, _, rfl, .inl hS, _, _, rfl, rfl, _, rfl, ?_⟩
  refine ite2 (fun c => ?_) (fun c => ?_)
  · cases ns with
    | nil => simp at c
    | cons x xs => exact ⟨_, rfl, _, rfl, a, _, 0, .int x, rfl, rfl, hS, atI_nat (j := 0) rfl, rest x⟩
  · exact rest 0
/-! law: script 0 tin 1 lap 2 rows 3 one 4 due 5 many 6 got 7 size 8 signs 9 order 10 k 11 place 12 a 13 b 14 less 15 both 16 mine 17 bad 18 other 19 own 20 -/
theorem sc_law : FnScope ["script", "tin", "lap", "rows", "one", "due", "many", "got", "size", "signs", "order", "k", "place", "a", "b", "less", "both", "mine", "bad", "other", "own"] ["script"] (defScope s_law) := ⟨rfl, rfl, rfl, by decide +kernel, rfl, by decide +kernel, by decide +kernel⟩
def g_law : SG := (sSeq (sFor (dUn asRng1 (dCons (dC (.int 3)) dNil)) (tgN 2) (sSeq (sSet 3 (dOfF (dLc (dUn asRng1 (dCons (dC (.int 4)) dNil)) [11] (tgN 11) dYes (dCall F_law_drawn (dCons (dVar 1) dNil)))))
    (sSeq (sSet 3 (dBin opAdd (dVar 3) (dOfF (dLst (dCons (dIx (dVar 3) (dC (.int 0))) dNil)))))
    (sSeq (sFor (dUn asItems (dVar 3)) (tgN 4) (sSeq (sPar 5 6 (dCons (dCall F_law_sign (dCons (dVar 4) dNil)) (dCons (dBin opSub (dCall F_law_take (dCons (dVar 1) (dCons (dC (.int 9)) dNil))) (dC (.int 4))) dNil)))
    (sSeq (sSet 7 (dOfF (dLst (dCons (dCall F_is_real (dCons (dVar 4) dNil)) (dCons (dCall F_sign_of (dCons (dVar 4) dNil)) (dCons (dCall F_sign_of (dCons (dOfF (dUn bList (dCons (dVar 4) dNil))) dNil)) (dCons (dCall F_sign_of (dCons (dCall F_turned_ray (dCons (dVar 4) (dCons (dC (.int 4)) dNil))) dNil)) (dCons (dCall F_mirrored (dCons (dVar 4) dNil)) dNil))))))))
    (sSeq (sIf (dNot (dUn asBool (dCall F_law_same (dCons (dVar 7) (dCons (dOfF (dLst (dCons (dC (.bool true)) (dCons (dVar 5) (dCons (dVar 5) (dCons (dUn opNeg (dVar 5)) (dCons (dVar 4) dNil))))))) dNil))))) (sRet (dC (.bool false))) sNil)
    (sSeq (sIf (dAnd (dUn asBool (dCall F_law_small (dCons (dCall F_over_root (dCons (dVar 4) (dCons (dVar 6) dNil))) dNil))) (dUn asBool (dBin opNe (dCall F_sign_of (dCons (dCall F_over_root (dCons (dVar 4) (dCons (dVar 6) dNil))) dNil)) (dVar 5)))) (sRet (dC (.bool false))) sNil)
    (sSeq (sSet 8 (dCall F_size_of (dCons (dVar 4) dNil)))
    (sSeq (sIf (dAnd (dUn asBool (dCall F_law_small (dCons (dVar 8) dNil))) (dUn asBool (dBin opNe (dCall F_sign_of (dCons (dVar 8) dNil)) (dUn bInt1 (dCons (dBin opNe (dVar 5) (dC (.int 0))) dNil))))) (sRet (dC (.bool false))) sNil)
    (sIf (dUn asBool (dBin opNe (dOfF (dLc (dUn asItems (dVar 3)) [19] (tgN 19) (dNot (dUn asBool (dCall F_law_pair_right (dCons (dVar 4) (dCons (dVar 19) dNil))))) (dVar 19))) (dOfF (dLst dNil)))) (sRet (dC (.bool false))) sNil))))))))
    (sSeq (sSet 9 (dOfF (dLc (dUn asItems (dVar 3)) [4] (tgN 4) dYes (dOfF (dLc (dUn asItems (dVar 3)) [19] (tgN 19) dYes (dCall F_law_sign (dCons (dCall F_law_ray_sum (dCons (dVar 4) (dCons (dCall F_law_ray_minus (dCons (dVar 19) dNil)) dNil))) dNil)))))))
    (sSeq (sSetO 10 (dLst dNil))
    (sSeq (sFor (dUn asRng1 (dCons (dC (.int 5)) dNil)) (tgN 11) (sSeq (sSet 12 (dUn bLen (dCons (dOfF (dLc (dOwn 10) [20] (tgN 20) (dUn asBool (dBin opGt (dIx (dIx (dVar 9) (dVar 11)) (dVar 20)) (dC (.int 0)))) (dVar 20))) dNil)))
    (sMeth 10 opInsert (dCons (dVar 12) (dCons (dVar 11) dNil)))))
    (sFrz 10 (sSeq (sFor (dUn asZip (dCons (dVar 10) (dCons (dSl (dVar 10) (dUn asInt (dC (.int 1))) dNoPart) dNil))) (tgT (tgCons (tgN 13) (tgCons (tgN 14) tgNil)) 2) (sSeq (sSet 15 (dCall F_law_ray_sum (dCons (dIx (dVar 3) (dVar 14)) (dCons (dCall F_law_ray_minus (dCons (dIx (dVar 3) (dVar 13)) dNil)) dNil))))
    (sIf (dAnd (dUn asBool (dCall F_law_small (dCons (dVar 15) dNil))) (dUn asBool (dBin opLt (dCall F_sign_of (dCons (dVar 15) dNil)) (dC (.int 0))))) (sRet (dC (.bool false))) sNil)))
    (sSeq (sSet 4 (dIx (dVar 3) (dC (.int 1))))
    (sSeq (sPar 16 17 (dCons (dCall F_ray_product (dCons (dVar 4) (dCons (dCall F_twin_of (dCons (dVar 4) dNil)) dNil))) (dCons (dBin opSub (dBin opMul (dIx (dVar 4) (dC (.int 0))) (dIx (dVar 4) (dC (.int 0)))) (dBin opMul (dBin opMul (dC (.int 2)) (dIx (dVar 4) (dC (.int 1)))) (dIx (dVar 4) (dC (.int 1))))) dNil)))
    (sSeq (sSet 17 (dBin opMul (dBin opSub (dUn bInt1 (dCons (dBin opGt (dVar 17) (dC (.int 0))) dNil)) (dUn bInt1 (dCons (dBin opLt (dVar 17) (dC (.int 0))) dNil))) (dIf (dUn asBool (dBin opEq (dBin opMod (dIx (dVar 4) (dC (.int 4))) (dC (.int 2))) (dC (.int 1)))) (dUn opNeg (dC (.int 1))) (dC (.int 1)))))
    (sSeq (sIf (dAnd (dUn asBool (dCall F_law_small (dCons (dVar 16) dNil))) (dNot (dUn asBool (dCall F_law_same (dCons (dOfF (dLst (dCons (dCall F_sign_of (dCons (dVar 16) dNil)) (dCons (dBin opMul (dCall F_sign_of (dCons (dCall F_twin_of (dCons (dVar 4) dNil)) dNil)) (dCall F_sign_of (dCons (dVar 4) dNil))) dNil)))) (dCons (dOfF (dLst (dCons (dVar 17) (dCons (dVar 17) dNil)))) dNil)))))) (sRet (dC (.bool false))) sNil)
    (sSeq (sSet 18 (dCall F_law_of (dCons (dVar 1) (dCons (dOfF (dLst (dCons (dTup (dCons (dC (.int 0)) (dCons (dC (.int 1)) (dCons (dC (.int 0)) (dCons (dC (.int 0)) (dCons (dC (.int 0)) dNil)))))) (dCons (dTup (dCons (dC (.int 1)) (dCons (dC (.int 0)) (dCons (dC (.int 1)) (dCons (dC (.int 0)) (dCons (dC (.int 0)) dNil)))))) (dCons (dTup (dCons (dC (.int 0)) (dCons (dC (.int 1)) (dCons (dC (.int 0)) (dCons (dC (.int 1)) (dCons (dC (.int 0)) dNil)))))) (dCons (dTup (dCons (dC (.int 0)) (dCons (dC (.int 0)) (dCons (dC (.int 0)) (dCons (dC (.int 1)) (dCons (dC (.int 0)) dNil)))))) (dCons (dTup (dCons (dC (.int 1)) (dCons (dC (.int 1)) (dCons (dC (.int 0)) (dCons (dC (.int 0)) (dCons (dC (.int 2)) dNil)))))) (dCons (dTup (dCons (dC (.int 3)) (dCons (dC (.int 1)) (dCons (dC (.int 0)) (dCons (dC (.int 1)) (dCons (dC (.int 0)) dNil)))))) dNil)))))))) dNil))))
    (sTry "Unfit" (xSeq (xExpr (xCall FX_sign_of (dCons (dVar 18) dNil)))
    (xLift (sRet (dC (.bool false))))) (sIf (dUn asBool (dBin opIsnt (dCall FH_is_real (dCons (dVar 18) dNil)) (dC (.bool false)))) (sRet (dC (.bool false))) sNil))))))))))))))))
    (sRet (dC (.bool true))))
/-- the law's own run over the source of draws -/
def LawHolds : Prop := ∀ n m : Int, 0 ≤ n → 0 ≤ m → m < 2 ^ 62 → ∃ T', g_law ((List.replicate 21 .no).set 1 (.sh (.dict []))) [.int n, .int m, .int 0] = some (.rt (.bool true), T')
theorem ok_law (T : Txt K mg) (hL : LawHolds) : FnOk P w K mg base CX0 11 T.law.f T.law.fd ["script"] (spLaw K) := by
  refine T.law.fn.ok (k := 10) sc_law (fun vs H Q E h => ?_) (fun cdv A outer s H vs Q E hr h => ?_)
  · obtain ⟨a, ns, rfl, _⟩ := h
    rfl
  have hu := hr.units
  have hu65 := room65 hr
  have nd := sc_law.nd
  obtain ⟨a, ns, rfl, hS, h63, q⟩ := h
  have rest : DSs (cxOf CX0 P w K mg base ["script", "tin", "lap", "rows", "one", "due", "many", "got", "size", "signs", "order", "k", "place", "a", "b", "less", "both", "mine", "bad", "other", "own"] "law" (defScope s_law) T.law.f cdv A outer s H E).nox ((defBody s_law).tail) g_law := (dss_cons (ds_for PassesOwn.never rfl (di_rng1 (by rfl) T.b_range (da_cons de_int da_nil)) (dg_name (i := 2) nd rfl (by first | exact Or.inl rfl | exact Or.inr rfl)) (dss_cons (ds_set (i := 3) nd rfl (by first | exact Or.inl rfl | exact Or.inr rfl) (DF.de (df_lc rfl nd (own := [("k", 11)]) (di_rng1 (by rfl) T.b_range (da_cons de_int da_nil)) (blkOk_by (N := ["script", "tin", "lap", "rows", "one", "due", "many", "got", "size", "signs", "order", "k", "place", "a", "b", "less", "both", "mine", "bad", "other", "own"]) (sc := defScope s_law) (by decide +kernel)) (fun _ _ _ _ _ => (dg_name (i := 11) nd rfl (by first | exact Or.inl rfl | exact Or.inr rfl))) (fun _ _ _ _ _ => dp_nil) (fun _ _ _ _ _ => (de_call (ok_law_drawn T) (hr.mono (by decide)) (by rfl) T.law_drawn.g T.law_drawn.fn.kp T.law_drawn.bd pass0 (da_cons (de_var (i := 1) rfl (by first | exact Or.inl rfl | exact Or.inr (Or.inl rfl) | exact Or.inr (Or.inr rfl))) da_nil) (dCons_len (fun _ _ _ _ h => dNil_len h)))) (by decide))))
    (dss_cons (ds_set (i := 3) nd rfl (by first | exact Or.inl rfl | exact Or.inr rfl) (de_add (de_var (i := 3) rfl (by first | exact Or.inl rfl | exact Or.inr (Or.inl rfl) | exact Or.inr (Or.inr rfl))) (DF.de (df_lst (da_cons (de_ix (de_var (i := 3) rfl (by first | exact Or.inl rfl | exact Or.inr (Or.inl rfl) | exact Or.inr (Or.inr rfl))) de_int (plainIx rfl)) da_nil)))))
    (dss_cons (ds_for PassesOwn.never rfl (di_seq (de_var (i := 3) rfl (by first | exact Or.inl rfl | exact Or.inr (Or.inl rfl) | exact Or.inr (Or.inr rfl)))) (dg_name (i := 4) nd rfl (by first | exact Or.inl rfl | exact Or.inr rfl)) (dss_cons (ds_par (i := 5) (j := 6) rfl nd rfl rfl (by decide) rfl rfl (da_cons (de_call (ok_law_sign T) (hr.mono (by decide)) (by rfl) T.law_sign.g T.law_sign.fn.kp T.law_sign.bd pass0 (da_cons (de_var (i := 4) rfl (by first | exact Or.inl rfl | exact Or.inr (Or.inl rfl) | exact Or.inr (Or.inr rfl))) da_nil) (dCons_len (fun _ _ _ _ h => dNil_len h))) (da_cons (de_sub (de_call (ok_law_take T) (hr.mono (by decide)) (by rfl) T.law_take.g T.law_take.fn.kp T.law_take.bd pass0 (da_cons (de_var (i := 1) rfl (by first | exact Or.inl rfl | exact Or.inr (Or.inl rfl) | exact Or.inr (Or.inr rfl))) (da_cons de_int da_nil)) (dCons_len (dCons_len (fun _ _ _ _ h => dNil_len h)))) de_int) da_nil)) (by rfl))
    (dss_cons (ds_set (i := 7) nd rfl (by first | exact Or.inl rfl | exact Or.inr rfl) (DF.de (df_lst (da_cons (de_call (ok_is_real T) (hr.mono (by decide)) (by rfl) T.is_real.g T.is_real.fn.kp T.is_real.bd pass0 (da_cons (de_var (i := 4) rfl (by first | exact Or.inl rfl | exact Or.inr (Or.inl rfl) | exact Or.inr (Or.inr rfl))) da_nil) (dCons_len (fun _ _ _ _ h => dNil_len h))) (da_cons (de_call (ok_sign_of T) (hr.mono (by decide)) (by rfl) T.sign_of.g T.sign_of.fn.kp T.sign_of.bd pass0 (da_cons (de_var (i := 4) rfl (by first | exact Or.inl rfl | exact Or.inr (Or.inl rfl) | exact Or.inr (Or.inr rfl))) da_nil) (dCons_len (fun _ _ _ _ h => dNil_len h))) (da_cons (de_call (ok_sign_of T) (hr.mono (by decide)) (by rfl) T.sign_of.g T.sign_of.fn.kp T.sign_of.bd pass0 (da_cons (DF.de (df_list (by rfl) T.b_list boot_list (da_cons (de_var (i := 4) rfl (by first | exact Or.inl rfl | exact Or.inr (Or.inl rfl) | exact Or.inr (Or.inr rfl))) da_nil))) da_nil) (dCons_len (fun _ _ _ _ h => dNil_len h))) (da_cons (de_call (ok_sign_of T) (hr.mono (by decide)) (by rfl) T.sign_of.g T.sign_of.fn.kp T.sign_of.bd pass0 (da_cons (de_call (ok_turned_ray T) (hr.mono (by decide)) (by rfl) T.turned_ray.g T.turned_ray.fn.kp T.turned_ray.bd pass0 (da_cons (de_var (i := 4) rfl (by first | exact Or.inl rfl | exact Or.inr (Or.inl rfl) | exact Or.inr (Or.inr rfl))) (da_cons de_int da_nil)) (dCons_len (dCons_len (fun _ _ _ _ h => dNil_len h)))) da_nil) (dCons_len (fun _ _ _ _ h => dNil_len h))) (da_cons (de_call (ok_mirrored T) (hr.mono (by decide)) (by rfl) T.mirrored.g T.mirrored.fn.kp T.mirrored.bd pass0 (da_cons (de_var (i := 4) rfl (by first | exact Or.inl rfl | exact Or.inr (Or.inl rfl) | exact Or.inr (Or.inr rfl))) da_nil) (dCons_len (fun _ _ _ _ h => dNil_len h))) da_nil))))))))
    (dss_cons (ds_if (dt_not (dt_val (de_call (ok_law_same T 8) (hr.mono (by decide)) (by rfl) T.law_same.g T.law_same.fn.kp T.law_same.bd pass0 (da_cons (de_var (i := 7) rfl (by first | exact Or.inl rfl | exact Or.inr (Or.inl rfl) | exact Or.inr (Or.inr rfl))) (da_cons (DF.de (df_lst (da_cons de_bl (da_cons (de_var (i := 5) rfl (by first | exact Or.inl rfl | exact Or.inr (Or.inl rfl) | exact Or.inr (Or.inr rfl))) (da_cons (de_var (i := 5) rfl (by first | exact Or.inl rfl | exact Or.inr (Or.inl rfl) | exact Or.inr (Or.inr rfl))) (da_cons (de_neg (de_var (i := 5) rfl (by first | exact Or.inl rfl | exact Or.inr (Or.inl rfl) | exact Or.inr (Or.inr rfl)))) (da_cons (de_var (i := 4) rfl (by first | exact Or.inl rfl | exact Or.inr (Or.inl rfl) | exact Or.inr (Or.inr rfl))) da_nil))))))) da_nil)) (dCons_len (dCons_len (fun _ _ _ _ h => dNil_len h)))))) (dss_one (ds_ret de_bl)) dss_nil)
    (dss_cons (ds_if (DW.dt (dw_and (dt_val (de_call (ok_law_small T) (hr.mono (by decide)) (by rfl) T.law_small.g T.law_small.fn.kp T.law_small.bd pass0 (da_cons (de_call (ok_over_root T) (hr.mono (by decide)) (by rfl) T.over_root.g T.over_root.fn.kp T.over_root.bd pass0 (da_cons (de_var (i := 4) rfl (by first | exact Or.inl rfl | exact Or.inr (Or.inl rfl) | exact Or.inr (Or.inr rfl))) (da_cons (de_var (i := 6) rfl (by first | exact Or.inl rfl | exact Or.inr (Or.inl rfl) | exact Or.inr (Or.inr rfl))) da_nil)) (dCons_len (dCons_len (fun _ _ _ _ h => dNil_len h)))) da_nil) (dCons_len (fun _ _ _ _ h => dNil_len h)))) (dw_and1 (dt_ne hu (de_call (ok_sign_of T) (hr.mono (by decide)) (by rfl) T.sign_of.g T.sign_of.fn.kp T.sign_of.bd pass0 (da_cons (de_call (ok_over_root T) (hr.mono (by decide)) (by rfl) T.over_root.g T.over_root.fn.kp T.over_root.bd pass0 (da_cons (de_var (i := 4) rfl (by first | exact Or.inl rfl | exact Or.inr (Or.inl rfl) | exact Or.inr (Or.inr rfl))) (da_cons (de_var (i := 6) rfl (by first | exact Or.inl rfl | exact Or.inr (Or.inl rfl) | exact Or.inr (Or.inr rfl))) da_nil)) (dCons_len (dCons_len (fun _ _ _ _ h => dNil_len h)))) da_nil) (dCons_len (fun _ _ _ _ h => dNil_len h))) (de_var (i := 5) rfl (by first | exact Or.inl rfl | exact Or.inr (Or.inl rfl) | exact Or.inr (Or.inr rfl))))))) (dss_one (ds_ret de_bl)) dss_nil)
    (dss_cons (ds_set (i := 8) nd rfl (by first | exact Or.inl rfl | exact Or.inr rfl) (de_call (ok_size_of T) (hr.mono (by decide)) (by rfl) T.size_of.g T.size_of.fn.kp T.size_of.bd pass0 (da_cons (de_var (i := 4) rfl (by first | exact Or.inl rfl | exact Or.inr (Or.inl rfl) | exact Or.inr (Or.inr rfl))) da_nil) (dCons_len (fun _ _ _ _ h => dNil_len h))))
    (dss_cons (ds_if (DW.dt (dw_and (dt_val (de_call (ok_law_small T) (hr.mono (by decide)) (by rfl) T.law_small.g T.law_small.fn.kp T.law_small.bd pass0 (da_cons (de_var (i := 8) rfl (by first | exact Or.inl rfl | exact Or.inr (Or.inl rfl) | exact Or.inr (Or.inr rfl))) da_nil) (dCons_len (fun _ _ _ _ h => dNil_len h)))) (dw_and1 (dt_ne hu (de_call (ok_sign_of T) (hr.mono (by decide)) (by rfl) T.sign_of.g T.sign_of.fn.kp T.sign_of.bd pass0 (da_cons (de_var (i := 8) rfl (by first | exact Or.inl rfl | exact Or.inr (Or.inl rfl) | exact Or.inr (Or.inr rfl))) da_nil) (dCons_len (fun _ _ _ _ h => dNil_len h))) (de_callTy call_int1 cd_int1 (by rfl) T.b_int boot_int (da_cons (de_ne hu (de_var (i := 5) rfl (by first | exact Or.inl rfl | exact Or.inr (Or.inl rfl) | exact Or.inr (Or.inr rfl))) de_int) da_nil)))))) (dss_one (ds_ret de_bl)) dss_nil)
    (dss_one (ds_if (dt_ne hu (DF.de (df_lc rfl nd (own := [("other", 19)]) (di_seq (de_var (i := 3) rfl (by first | exact Or.inl rfl | exact Or.inr (Or.inl rfl) | exact Or.inr (Or.inr rfl)))) (blkOk_by (N := ["script", "tin", "lap", "rows", "one", "due", "many", "got", "size", "signs", "order", "k", "place", "a", "b", "less", "both", "mine", "bad", "other", "own"]) (sc := defScope s_law) (by decide +kernel)) (fun _ _ _ _ _ => (dg_name (i := 19) nd rfl (by first | exact Or.inl rfl | exact Or.inr rfl))) (fun _ _ _ _ _ => (dp_one (dt_not (dt_val (de_call (ok_law_pair_right T) (hr.mono (by decide)) (by rfl) T.law_pair_right.g T.law_pair_right.fn.kp T.law_pair_right.bd pass0 (da_cons (de_var (i := 4) rfl (by first | exact Or.inl rfl | exact Or.inr (Or.inl rfl) | exact Or.inr (Or.inr rfl))) (da_cons (de_var (i := 19) rfl (by first | exact Or.inl rfl | exact Or.inr (Or.inl rfl) | exact Or.inr (Or.inr rfl))) da_nil)) (dCons_len (dCons_len (fun _ _ _ _ h => dNil_len h)))))))) (fun _ _ _ _ _ => (de_var (i := 19) rfl (by first | exact Or.inl rfl | exact Or.inr (Or.inl rfl) | exact Or.inr (Or.inr rfl)))) (by decide))) (DF.de (df_lst da_nil))) (dss_one (ds_ret de_bl)) dss_nil)))))))))
    (dss_cons (ds_set (i := 9) nd rfl (by first | exact Or.inl rfl | exact Or.inr rfl) (DF.de (df_lc rfl nd (own := [("one", 4)]) (di_seq (de_var (i := 3) rfl (by first | exact Or.inl rfl | exact Or.inr (Or.inl rfl) | exact Or.inr (Or.inr rfl)))) (blkOk_by (N := ["script", "tin", "lap", "rows", "one", "due", "many", "got", "size", "signs", "order", "k", "place", "a", "b", "less", "both", "mine", "bad", "other", "own"]) (sc := defScope s_law) (by decide +kernel)) (fun _ _ _ _ _ => (dg_name (i := 4) nd rfl (by first | exact Or.inl rfl | exact Or.inr rfl))) (fun _ _ _ _ _ => dp_nil) (fun _ _ _ _ _ => (DF.de (df_lc rfl nd (own := [("other", 19)]) (di_seq (de_var (i := 3) rfl (by first | exact Or.inl rfl | exact Or.inr (Or.inl rfl) | exact Or.inr (Or.inr rfl)))) (blkOk_by (N := ["script", "tin", "lap", "rows", "one", "due", "many", "got", "size", "signs", "order", "k", "place", "a", "b", "less", "both", "mine", "bad", "other", "own"]) (sc := relS _ (defScope s_law)) (by decide +kernel)) (fun _ _ _ _ _ => (dg_name (i := 19) nd rfl (by first | exact Or.inl rfl | exact Or.inr rfl))) (fun _ _ _ _ _ => dp_nil) (fun _ _ _ _ _ => (de_call (ok_law_sign T) (hr.mono (by decide)) (by rfl) T.law_sign.g T.law_sign.fn.kp T.law_sign.bd pass0 (da_cons (de_call (ok_law_ray_sum T) (hr.mono (by decide)) (by rfl) T.law_ray_sum.g T.law_ray_sum.fn.kp T.law_ray_sum.bd pass0 (da_cons (de_var (i := 4) rfl (by first | exact Or.inl rfl | exact Or.inr (Or.inl rfl) | exact Or.inr (Or.inr rfl))) (da_cons (de_call (ok_law_ray_minus T) (hr.mono (by decide)) (by rfl) T.law_ray_minus.g T.law_ray_minus.fn.kp T.law_ray_minus.bd pass0 (da_cons (de_var (i := 19) rfl (by first | exact Or.inl rfl | exact Or.inr (Or.inl rfl) | exact Or.inr (Or.inr rfl))) da_nil) (dCons_len (fun _ _ _ _ h => dNil_len h))) da_nil)) (dCons_len (dCons_len (fun _ _ _ _ h => dNil_len h)))) da_nil) (dCons_len (fun _ _ _ _ h => dNil_len h)))) (by decide)))) (by decide))))
    (dss_cons (ds_setO (i := 10) nd rfl (by first | exact Or.inl rfl | exact Or.inr rfl) (df_lst da_nil))
    (dss_cons (ds_for PassesOwn.never rfl (di_rng1 (by rfl) T.b_range (da_cons de_int da_nil)) (dg_name (i := 11) nd rfl (by first | exact Or.inl rfl | exact Or.inr rfl)) (dss_cons (ds_set (i := 12) nd rfl (by first | exact Or.inl rfl | exact Or.inr rfl) (de_callB cr_len cd_len (by rfl) T.b_len boot_len (da_cons (DF.de (df_lcE rfl nd (own := [("own", 20)]) (di_own (i := 10) rfl (by first | exact Or.inl rfl | exact Or.inr (Or.inl rfl) | exact Or.inr (Or.inr rfl))) (blkOk_by (N := ["script", "tin", "lap", "rows", "one", "due", "many", "got", "size", "signs", "order", "k", "place", "a", "b", "less", "both", "mine", "bad", "other", "own"]) (sc := defScope s_law) (by decide +kernel)) (fun _ _ _ _ _ => (dg_name (i := 20) nd rfl (by first | exact Or.inl rfl | exact Or.inr rfl))) (fun _ _ _ _ _ => (dp_one (dt_gt (de_ix (de_ix (de_var (i := 9) rfl (by first | exact Or.inl rfl | exact Or.inr (Or.inl rfl) | exact Or.inr (Or.inr rfl))) (de_var (i := 11) rfl (by first | exact Or.inl rfl | exact Or.inr (Or.inl rfl) | exact Or.inr (Or.inr rfl))) (plainIx rfl)) (de_var (i := 20) rfl (by first | exact Or.inl rfl | exact Or.inr (Or.inl rfl) | exact Or.inr (Or.inr rfl))) (plainIx rfl)) de_int))) (fun _ _ _ _ _ => (de_var (i := 20) rfl (by first | exact Or.inl rfl | exact Or.inr (Or.inl rfl) | exact Or.inr (Or.inr rfl)))) (by decide))) da_nil)))
    (dss_one (ds_meth (i := 10) rfl (by first | exact Or.inl rfl | exact Or.inr (Or.inl rfl)) (da_cons (de_var (i := 12) rfl (by first | exact Or.inl rfl | exact Or.inr (Or.inl rfl) | exact Or.inr (Or.inr rfl))) (da_cons (de_var (i := 11) rfl (by first | exact Or.inl rfl | exact Or.inr (Or.inl rfl) | exact Or.inr (Or.inr rfl))) da_nil)) md_insert (fun hx ha => ps_expr (pe_bm PySem.F.plainAttrs_list PySem.F.slot_list_insert PySem.F.type_list_insert mt_insert hx ha))))))
    (dss_frz (i := 10) (dss_cons (ds_for PassesOwn.never rfl (di_zip (by rfl) T.b_zip (da_cons (de_var (i := 10) rfl (by first | exact Or.inl rfl | exact Or.inr (Or.inl rfl) | exact Or.inr (Or.inr rfl))) (da_cons (de_sl (de_var (i := 10) rfl (by first | exact Or.inl rfl | exact Or.inr (Or.inl rfl) | exact Or.inr (Or.inr rfl))) (do_some de_int) do_none) da_nil))) (dg_tup (n := 2) rfl (dgs_cons (dg_name (i := 13) nd rfl (by first | exact Or.inl rfl | exact Or.inr rfl)) (dgs_cons (dg_name (i := 14) nd rfl (by first | exact Or.inl rfl | exact Or.inr rfl)) dgs_nil))) (dss_cons (ds_set (i := 15) nd rfl (by first | exact Or.inl rfl | exact Or.inr rfl) (de_call (ok_law_ray_sum T) (hr.mono (by decide)) (by rfl) T.law_ray_sum.g T.law_ray_sum.fn.kp T.law_ray_sum.bd pass0 (da_cons (de_ix (de_var (i := 3) rfl (by first | exact Or.inl rfl | exact Or.inr (Or.inl rfl) | exact Or.inr (Or.inr rfl))) (de_var (i := 14) rfl (by first | exact Or.inl rfl | exact Or.inr (Or.inl rfl) | exact Or.inr (Or.inr rfl))) (plainIx rfl)) (da_cons (de_call (ok_law_ray_minus T) (hr.mono (by decide)) (by rfl) T.law_ray_minus.g T.law_ray_minus.fn.kp T.law_ray_minus.bd pass0 (da_cons (de_ix (de_var (i := 3) rfl (by first | exact Or.inl rfl | exact Or.inr (Or.inl rfl) | exact Or.inr (Or.inr rfl))) (de_var (i := 13) rfl (by first | exact Or.inl rfl | exact Or.inr (Or.inl rfl) | exact Or.inr (Or.inr rfl))) (plainIx rfl)) da_nil) (dCons_len (fun _ _ _ _ h => dNil_len h))) da_nil)) (dCons_len (dCons_len (fun _ _ _ _ h => dNil_len h)))))
    (dss_one (ds_if (DW.dt (dw_and (dt_val (de_call (ok_law_small T) (hr.mono (by decide)) (by rfl) T.law_small.g T.law_small.fn.kp T.law_small.bd pass0 (da_cons (de_var (i := 15) rfl (by first | exact Or.inl rfl | exact Or.inr (Or.inl rfl) | exact Or.inr (Or.inr rfl))) da_nil) (dCons_len (fun _ _ _ _ h => dNil_len h)))) (dw_and1 (dt_lt (de_call (ok_sign_of T) (hr.mono (by decide)) (by rfl) T.sign_of.g T.sign_of.fn.kp T.sign_of.bd pass0 (da_cons (de_var (i := 15) rfl (by first | exact Or.inl rfl | exact Or.inr (Or.inl rfl) | exact Or.inr (Or.inr rfl))) da_nil) (dCons_len (fun _ _ _ _ h => dNil_len h))) de_int)))) (dss_one (ds_ret de_bl)) dss_nil))))
    (dss_cons (ds_set (i := 4) nd rfl (by first | exact Or.inl rfl | exact Or.inr rfl) (de_ix (de_var (i := 3) rfl (by first | exact Or.inl rfl | exact Or.inr (Or.inl rfl) | exact Or.inr (Or.inr rfl))) de_int (plainIx rfl)))
    (dss_cons (ds_par (i := 16) (j := 17) rfl nd rfl rfl (by decide) rfl rfl (da_cons (de_call (ok_ray_product T) (hr.mono (by decide)) (by rfl) T.ray_product.g T.ray_product.fn.kp T.ray_product.bd pass0 (da_cons (de_var (i := 4) rfl (by first | exact Or.inl rfl | exact Or.inr (Or.inl rfl) | exact Or.inr (Or.inr rfl))) (da_cons (de_call (ok_twin_of T) (hr.mono (by decide)) (by rfl) T.twin_of.g T.twin_of.fn.kp T.twin_of.bd pass0 (da_cons (de_var (i := 4) rfl (by first | exact Or.inl rfl | exact Or.inr (Or.inl rfl) | exact Or.inr (Or.inr rfl))) da_nil) (dCons_len (fun _ _ _ _ h => dNil_len h))) da_nil)) (dCons_len (dCons_len (fun _ _ _ _ h => dNil_len h)))) (da_cons (de_sub (de_mul (de_ix (de_var (i := 4) rfl (by first | exact Or.inl rfl | exact Or.inr (Or.inl rfl) | exact Or.inr (Or.inr rfl))) de_int (plainIx rfl)) (de_ix (de_var (i := 4) rfl (by first | exact Or.inl rfl | exact Or.inr (Or.inl rfl) | exact Or.inr (Or.inr rfl))) de_int (plainIx rfl))) (de_mul (de_mul de_int (de_ix (de_var (i := 4) rfl (by first | exact Or.inl rfl | exact Or.inr (Or.inl rfl) | exact Or.inr (Or.inr rfl))) de_int (plainIx rfl))) (de_ix (de_var (i := 4) rfl (by first | exact Or.inl rfl | exact Or.inr (Or.inl rfl) | exact Or.inr (Or.inr rfl))) de_int (plainIx rfl)))) da_nil)) (by rfl))
    (dss_cons (ds_set (i := 17) nd rfl (by first | exact Or.inl rfl | exact Or.inr rfl) (de_mul (de_sub (de_callTy call_int1 cd_int1 (by rfl) T.b_int boot_int (da_cons (de_gt (de_var (i := 17) rfl (by first | exact Or.inl rfl | exact Or.inr (Or.inl rfl) | exact Or.inr (Or.inr rfl))) de_int) da_nil)) (de_callTy call_int1 cd_int1 (by rfl) T.b_int boot_int (da_cons (de_lt (de_var (i := 17) rfl (by first | exact Or.inl rfl | exact Or.inr (Or.inl rfl) | exact Or.inr (Or.inr rfl))) de_int) da_nil))) (de_if (dt_eq hu (de_mod (de_ix (de_var (i := 4) rfl (by first | exact Or.inl rfl | exact Or.inr (Or.inl rfl) | exact Or.inr (Or.inr rfl))) de_int (plainIx rfl)) de_int) de_int) (de_neg de_int) de_int)))
    (dss_cons (ds_if (DW.dt (dw_and (dt_val (de_call (ok_law_small T) (hr.mono (by decide)) (by rfl) T.law_small.g T.law_small.fn.kp T.law_small.bd pass0 (da_cons (de_var (i := 16) rfl (by first | exact Or.inl rfl | exact Or.inr (Or.inl rfl) | exact Or.inr (Or.inr rfl))) da_nil) (dCons_len (fun _ _ _ _ h => dNil_len h)))) (dw_and1 (dt_not (dt_val (de_call (ok_law_same T 8) (hr.mono (by decide)) (by rfl) T.law_same.g T.law_same.fn.kp T.law_same.bd pass0 (da_cons (DF.de (df_lst (da_cons (de_call (ok_sign_of T) (hr.mono (by decide)) (by rfl) T.sign_of.g T.sign_of.fn.kp T.sign_of.bd pass0 (da_cons (de_var (i := 16) rfl (by first | exact Or.inl rfl | exact Or.inr (Or.inl rfl) | exact Or.inr (Or.inr rfl))) da_nil) (dCons_len (fun _ _ _ _ h => dNil_len h))) (da_cons (de_mul (de_call (ok_sign_of T) (hr.mono (by decide)) (by rfl) T.sign_of.g T.sign_of.fn.kp T.sign_of.bd pass0 (da_cons (de_call (ok_twin_of T) (hr.mono (by decide)) (by rfl) T.twin_of.g T.twin_of.fn.kp T.twin_of.bd pass0 (da_cons (de_var (i := 4) rfl (by first | exact Or.inl rfl | exact Or.inr (Or.inl rfl) | exact Or.inr (Or.inr rfl))) da_nil) (dCons_len (fun _ _ _ _ h => dNil_len h))) da_nil) (dCons_len (fun _ _ _ _ h => dNil_len h))) (de_call (ok_sign_of T) (hr.mono (by decide)) (by rfl) T.sign_of.g T.sign_of.fn.kp T.sign_of.bd pass0 (da_cons (de_var (i := 4) rfl (by first | exact Or.inl rfl | exact Or.inr (Or.inl rfl) | exact Or.inr (Or.inr rfl))) da_nil) (dCons_len (fun _ _ _ _ h => dNil_len h)))) da_nil)))) (da_cons (DF.de (df_lst (da_cons (de_var (i := 17) rfl (by first | exact Or.inl rfl | exact Or.inr (Or.inl rfl) | exact Or.inr (Or.inr rfl))) (da_cons (de_var (i := 17) rfl (by first | exact Or.inl rfl | exact Or.inr (Or.inl rfl) | exact Or.inr (Or.inr rfl))) da_nil)))) da_nil)) (dCons_len (dCons_len (fun _ _ _ _ h => dNil_len h))))))))) (dss_one (ds_ret de_bl)) dss_nil)
    (dss_cons (ds_set (i := 18) nd rfl (by first | exact Or.inl rfl | exact Or.inr rfl) (de_call (ok_law_of T) (hr.mono (by decide)) (by rfl) T.law_of.g T.law_of.fn.kp T.law_of.bd pass0 (da_cons (de_var (i := 1) rfl (by first | exact Or.inl rfl | exact Or.inr (Or.inl rfl) | exact Or.inr (Or.inr rfl))) (da_cons (DF.de (df_lst (da_cons (de_tup (da_cons de_int (da_cons de_int (da_cons de_int (da_cons de_int (da_cons de_int da_nil)))))) (da_cons (de_tup (da_cons de_int (da_cons de_int (da_cons de_int (da_cons de_int (da_cons de_int da_nil)))))) (da_cons (de_tup (da_cons de_int (da_cons de_int (da_cons de_int (da_cons de_int (da_cons de_int da_nil)))))) (da_cons (de_tup (da_cons de_int (da_cons de_int (da_cons de_int (da_cons de_int (da_cons de_int da_nil)))))) (da_cons (de_tup (da_cons de_int (da_cons de_int (da_cons de_int (da_cons de_int (da_cons de_int da_nil)))))) (da_cons (de_tup (da_cons de_int (da_cons de_int (da_cons de_int (da_cons de_int (da_cons de_int da_nil)))))) da_nil)))))))) da_nil)) (dCons_len (dCons_len (fun _ _ _ _ h => dNil_len h)))))
    (dss_one (ds_try rfl rfl ⟨(by rfl), (by decide), Or.inl T.e_Unfit.g⟩ T.e_Unfit.g T.e_Unfit.ex (fun _ => PassesOwnAt.never) (fun W pn xe tk hp => (xss_cons (xs_expr (xe_call (okx_sign_of T) (hr.mono (by decide)) (by rfl) T.sign_of.g T.sign_of.fn.kp T.sign_of.bd tk (da_cons (de_var (i := 18) rfl (by first | exact Or.inl rfl | exact Or.inr (Or.inl rfl) | exact Or.inr (Or.inr rfl))) da_nil) (dCons_len (fun _ _ _ _ h => dNil_len h))))
    (xss_lift (dss_one (ds_ret de_bl))))) (fun a pn hot => (dss_one (ds_if (dt_isnt (de_callH (okh_is_real T) (L2H.RoomH.mono (roomH_mark hr) (by decide)) hot (by rfl) T.is_real.g T.is_real.fn.kp T.is_real.bd passH (da_cons (de_var (i := 18) rfl (by first | exact Or.inl rfl | exact Or.inr (Or.inl rfl) | exact Or.inr (Or.inr rfl))) da_nil) (dCons_len (fun _ _ _ _ h => dNil_len h))) de_bl) (dss_one (ds_ret de_bl)) dss_nil)))))))))))))))))))
    (dss_one (ds_ret de_bl)))
  refine ⟨_, pss_cons (ps_set (i := 1) nd rfl (Or.inr rfl) (pe_call (ok_law_box T) (hr.mono (by decide)) (by rfl) T.law_box.g T.law_box.fn.kp T.law_box.bd .nil pass0 (pa_cons (pe_call (ok_law_cells T) (hr.mono (by decide)) (by rfl) T.law_cells.g T.law_cells.fn.kp T.law_cells.bd .nil pass0 (pa_cons (pv 0) (pa_cons pe_int pa_nil))) (pa_cons pe_int pa_nil)))) rest.p, ?_⟩
  refine ⟨_, rfl, a, ns, rfl, hS, h63, fun H1 p ms s1 hp hl => ?_⟩
  refine ⟨p, ms, rfl, SqL.of hp, hl, fun H2 t n m s2 ht h0 h1 h2 => ?_⟩
  obtain ⟨T', hG⟩ := hL n m h0 h1 h2
  exact law_start (l := 21) (i := 1) ht (by rfl) (by rfl) hG q
end
/-! the_top: -/
theorem all_mk {l : PySem.W.OpenLaw} {w : World} {K : PySem.W.Frag} {h : Heap} {mg : Str → Option Value} {fa : Addr} (X : K.In h) (G : h.Ns mainGlobals mg) (hfa : mg "law" = some (.ref fa)) (hL : LawHolds)
    {f0 : Addr} {od0 an0 : Option Addr} {sl0 : Array (Option Value)} {oc0 kV0 dc0 pm0 cd0 ct0 : Value} (a0 : PySem.W.nsIn K mainGlobals "shortened" = some (some (.ref f0))) (l0 : K.lookup f0 = some ⟨oc0, od0, .func (PySem.W.fnOf "shortened" "shortened" (defArgs s_shortened) (defBody s_shortened) (defScope s_shortened) .none kV0 dc0 pm0 an0 cd0 ct0), sl0⟩) (c0 : PySem.W.codeIn K cd0 "shortened" = true) (k0 : PySem.W.keepIn K (.ref f0) = true)
    {f1 : Addr} {od1 an1 : Option Addr} {sl1 : Array (Option Value)} {oc1 kV1 dc1 pm1 cd1 ct1 : Value} (a1 : PySem.W.nsIn K mainGlobals "times_root" = some (some (.ref f1))) (l1 : K.lookup f1 = some ⟨oc1, od1, .func (PySem.W.fnOf "times_root" "times_root" (defArgs s_times_root) (defBody s_times_root) (defScope s_times_root) .none kV1 dc1 pm1 an1 cd1 ct1), sl1⟩) (c1 : PySem.W.codeIn K cd1 "times_root" = true) (k1 : PySem.W.keepIn K (.ref f1) = true)
    {f2 : Addr} {od2 an2 : Option Addr} {sl2 : Array (Option Value)} {oc2 kV2 dc2 pm2 cd2 ct2 : Value} (a2 : PySem.W.nsIn K mainGlobals "ray_sum" = some (some (.ref f2))) (l2 : K.lookup f2 = some ⟨oc2, od2, .func (PySem.W.fnOf "ray_sum" "ray_sum" (defArgs s_ray_sum) (defBody s_ray_sum) (defScope s_ray_sum) .none kV2 dc2 pm2 an2 cd2 ct2), sl2⟩) (c2 : PySem.W.codeIn K cd2 "ray_sum" = true) (k2 : PySem.W.keepIn K (.ref f2) = true)
    {f3 : Addr} {od3 an3 : Option Addr} {sl3 : Array (Option Value)} {oc3 kV3 dc3 pm3 cd3 ct3 : Value} (a3 : PySem.W.nsIn K mainGlobals "ray_product" = some (some (.ref f3))) (l3 : K.lookup f3 = some ⟨oc3, od3, .func (PySem.W.fnOf "ray_product" "ray_product" (defArgs s_ray_product) (defBody s_ray_product) (defScope s_ray_product) .none kV3 dc3 pm3 an3 cd3 ct3), sl3⟩) (c3 : PySem.W.codeIn K cd3 "ray_product" = true) (k3 : PySem.W.keepIn K (.ref f3) = true)
    {f4 : Addr} {od4 an4 : Option Addr} {sl4 : Array (Option Value)} {oc4 kV4 dc4 pm4 cd4 ct4 : Value} (a4 : PySem.W.nsIn K mainGlobals "turned_ray" = some (some (.ref f4))) (l4 : K.lookup f4 = some ⟨oc4, od4, .func (PySem.W.fnOf "turned_ray" "turned_ray" (defArgs s_turned_ray) (defBody s_turned_ray) (defScope s_turned_ray) .none kV4 dc4 pm4 an4 cd4 ct4), sl4⟩) (c4 : PySem.W.codeIn K cd4 "turned_ray" = true) (k4 : PySem.W.keepIn K (.ref f4) = true)
    {f5 : Addr} {od5 an5 : Option Addr} {sl5 : Array (Option Value)} {oc5 kV5 dc5 pm5 cd5 ct5 : Value} (a5 : PySem.W.nsIn K mainGlobals "mirrored" = some (some (.ref f5))) (l5 : K.lookup f5 = some ⟨oc5, od5, .func (PySem.W.fnOf "mirrored" "mirrored" (defArgs s_mirrored) (defBody s_mirrored) (defScope s_mirrored) .none kV5 dc5 pm5 an5 cd5 ct5), sl5⟩) (c5 : PySem.W.codeIn K cd5 "mirrored" = true) (k5 : PySem.W.keepIn K (.ref f5) = true)
    {f6 : Addr} {od6 an6 : Option Addr} {sl6 : Array (Option Value)} {oc6 kV6 dc6 pm6 cd6 ct6 : Value} (a6 : PySem.W.nsIn K mainGlobals "twin_of" = some (some (.ref f6))) (l6 : K.lookup f6 = some ⟨oc6, od6, .func (PySem.W.fnOf "twin_of" "twin_of" (defArgs s_twin_of) (defBody s_twin_of) (defScope s_twin_of) .none kV6 dc6 pm6 an6 cd6 ct6), sl6⟩) (c6 : PySem.W.codeIn K cd6 "twin_of" = true) (k6 : PySem.W.keepIn K (.ref f6) = true)
    {f7 : Addr} {od7 an7 : Option Addr} {sl7 : Array (Option Value)} {oc7 kV7 dc7 pm7 cd7 ct7 : Value} (a7 : PySem.W.nsIn K mainGlobals "size_of" = some (some (.ref f7))) (l7 : K.lookup f7 = some ⟨oc7, od7, .func (PySem.W.fnOf "size_of" "size_of" (defArgs s_size_of) (defBody s_size_of) (defScope s_size_of) .none kV7 dc7 pm7 an7 cd7 ct7), sl7⟩) (c7 : PySem.W.codeIn K cd7 "size_of" = true) (k7 : PySem.W.keepIn K (.ref f7) = true)
    {f8 : Addr} {od8 an8 : Option Addr} {sl8 : Array (Option Value)} {oc8 kV8 dc8 pm8 cd8 ct8 : Value} (a8 : PySem.W.nsIn K mainGlobals "is_real" = some (some (.ref f8))) (l8 : K.lookup f8 = some ⟨oc8, od8, .func (PySem.W.fnOf "is_real" "is_real" (defArgs s_is_real) (defBody s_is_real) (defScope s_is_real) .none kV8 dc8 pm8 an8 cd8 ct8), sl8⟩) (c8 : PySem.W.codeIn K cd8 "is_real" = true) (k8 : PySem.W.keepIn K (.ref f8) = true)
    {f9 : Addr} {od9 an9 : Option Addr} {sl9 : Array (Option Value)} {oc9 kV9 dc9 pm9 cd9 ct9 : Value} (a9 : PySem.W.nsIn K mainGlobals "sign_of" = some (some (.ref f9))) (l9 : K.lookup f9 = some ⟨oc9, od9, .func (PySem.W.fnOf "sign_of" "sign_of" (defArgs s_sign_of) (defBody s_sign_of) (defScope s_sign_of) .none kV9 dc9 pm9 an9 cd9 ct9), sl9⟩) (c9 : PySem.W.codeIn K cd9 "sign_of" = true) (k9 : PySem.W.keepIn K (.ref f9) = true)
    {f10 : Addr} {od10 an10 : Option Addr} {sl10 : Array (Option Value)} {oc10 kV10 dc10 pm10 cd10 ct10 : Value} (a10 : PySem.W.nsIn K mainGlobals "over_root" = some (some (.ref f10))) (l10 : K.lookup f10 = some ⟨oc10, od10, .func (PySem.W.fnOf "over_root" "over_root" (defArgs s_over_root) (defBody s_over_root) (defScope s_over_root) .none kV10 dc10 pm10 an10 cd10 ct10), sl10⟩) (c10 : PySem.W.codeIn K cd10 "over_root" = true) (k10 : PySem.W.keepIn K (.ref f10) = true)
    {f11 : Addr} {od11 an11 : Option Addr} {sl11 : Array (Option Value)} {oc11 kV11 dc11 pm11 cd11 ct11 : Value} (a11 : PySem.W.nsIn K mainGlobals "_law_same" = some (some (.ref f11))) (l11 : K.lookup f11 = some ⟨oc11, od11, .func (PySem.W.fnOf "_law_same" "_law_same" (defArgs s_law_same) (defBody s_law_same) (defScope s_law_same) .none kV11 dc11 pm11 an11 cd11 ct11), sl11⟩) (c11 : PySem.W.codeIn K cd11 "_law_same" = true) (k11 : PySem.W.keepIn K (.ref f11) = true)
    {f12 : Addr} {od12 an12 : Option Addr} {sl12 : Array (Option Value)} {oc12 kV12 dc12 pm12 cd12 ct12 : Value} (a12 : PySem.W.nsIn K mainGlobals "_law_take" = some (some (.ref f12))) (l12 : K.lookup f12 = some ⟨oc12, od12, .func (PySem.W.fnOf "_law_take" "_law_take" (defArgs s_law_take) (defBody s_law_take) (defScope s_law_take) .none kV12 dc12 pm12 an12 cd12 ct12), sl12⟩) (c12 : PySem.W.codeIn K cd12 "_law_take" = true) (k12 : PySem.W.keepIn K (.ref f12) = true)
    {f13 : Addr} {od13 an13 : Option Addr} {sl13 : Array (Option Value)} {oc13 kV13 dc13 pm13 cd13 ct13 : Value} (a13 : PySem.W.nsIn K mainGlobals "_law_of" = some (some (.ref f13))) (l13 : K.lookup f13 = some ⟨oc13, od13, .func (PySem.W.fnOf "_law_of" "_law_of" (defArgs s_law_of) (defBody s_law_of) (defScope s_law_of) .none kV13 dc13 pm13 an13 cd13 ct13), sl13⟩) (c13 : PySem.W.codeIn K cd13 "_law_of" = true) (k13 : PySem.W.keepIn K (.ref f13) = true)
    {f14 : Addr} {od14 an14 : Option Addr} {sl14 : Array (Option Value)} {oc14 kV14 dc14 pm14 cd14 ct14 : Value} (a14 : PySem.W.nsIn K mainGlobals "_law_ray" = some (some (.ref f14))) (l14 : K.lookup f14 = some ⟨oc14, od14, .func (PySem.W.fnOf "_law_ray" "_law_ray" (defArgs s_law_ray) (defBody s_law_ray) (defScope s_law_ray) .none kV14 dc14 pm14 an14 cd14 ct14), sl14⟩) (c14 : PySem.W.codeIn K cd14 "_law_ray" = true) (k14 : PySem.W.keepIn K (.ref f14) = true)
    {f15 : Addr} {od15 an15 : Option Addr} {sl15 : Array (Option Value)} {oc15 kV15 dc15 pm15 cd15 ct15 : Value} (a15 : PySem.W.nsIn K mainGlobals "_law_at" = some (some (.ref f15))) (l15 : K.lookup f15 = some ⟨oc15, od15, .func (PySem.W.fnOf "_law_at" "_law_at" (defArgs s_law_at) (defBody s_law_at) (defScope s_law_at) .none kV15 dc15 pm15 an15 cd15 ct15), sl15⟩) (c15 : PySem.W.codeIn K cd15 "_law_at" = true) (k15 : PySem.W.keepIn K (.ref f15) = true)
    {f16 : Addr} {od16 an16 : Option Addr} {sl16 : Array (Option Value)} {oc16 kV16 dc16 pm16 cd16 ct16 : Value} (a16 : PySem.W.nsIn K mainGlobals "_law_ray_sum" = some (some (.ref f16))) (l16 : K.lookup f16 = some ⟨oc16, od16, .func (PySem.W.fnOf "_law_ray_sum" "_law_ray_sum" (defArgs s_law_ray_sum) (defBody s_law_ray_sum) (defScope s_law_ray_sum) .none kV16 dc16 pm16 an16 cd16 ct16), sl16⟩) (c16 : PySem.W.codeIn K cd16 "_law_ray_sum" = true) (k16 : PySem.W.keepIn K (.ref f16) = true)
    {f17 : Addr} {od17 an17 : Option Addr} {sl17 : Array (Option Value)} {oc17 kV17 dc17 pm17 cd17 ct17 : Value} (a17 : PySem.W.nsIn K mainGlobals "_law_ray_minus" = some (some (.ref f17))) (l17 : K.lookup f17 = some ⟨oc17, od17, .func (PySem.W.fnOf "_law_ray_minus" "_law_ray_minus" (defArgs s_law_ray_minus) (defBody s_law_ray_minus) (defScope s_law_ray_minus) .none kV17 dc17 pm17 an17 cd17 ct17), sl17⟩) (c17 : PySem.W.codeIn K cd17 "_law_ray_minus" = true) (k17 : PySem.W.keepIn K (.ref f17) = true)
    {f18 : Addr} {od18 an18 : Option Addr} {sl18 : Array (Option Value)} {oc18 kV18 dc18 pm18 cd18 ct18 : Value} (a18 : PySem.W.nsIn K mainGlobals "_law_ray_prod" = some (some (.ref f18))) (l18 : K.lookup f18 = some ⟨oc18, od18, .func (PySem.W.fnOf "_law_ray_prod" "_law_ray_prod" (defArgs s_law_ray_prod) (defBody s_law_ray_prod) (defScope s_law_ray_prod) .none kV18 dc18 pm18 an18 cd18 ct18), sl18⟩) (c18 : PySem.W.codeIn K cd18 "_law_ray_prod" = true) (k18 : PySem.W.keepIn K (.ref f18) = true)
    {f19 : Addr} {od19 an19 : Option Addr} {sl19 : Array (Option Value)} {oc19 kV19 dc19 pm19 cd19 ct19 : Value} (a19 : PySem.W.nsIn K mainGlobals "_law_sign" = some (some (.ref f19))) (l19 : K.lookup f19 = some ⟨oc19, od19, .func (PySem.W.fnOf "_law_sign" "_law_sign" (defArgs s_law_sign) (defBody s_law_sign) (defScope s_law_sign) .none kV19 dc19 pm19 an19 cd19 ct19), sl19⟩) (c19 : PySem.W.codeIn K cd19 "_law_sign" = true) (k19 : PySem.W.keepIn K (.ref f19) = true)
    {f20 : Addr} {od20 an20 : Option Addr} {sl20 : Array (Option Value)} {oc20 kV20 dc20 pm20 cd20 ct20 : Value} (a20 : PySem.W.nsIn K mainGlobals "_law_small" = some (some (.ref f20))) (l20 : K.lookup f20 = some ⟨oc20, od20, .func (PySem.W.fnOf "_law_small" "_law_small" (defArgs s_law_small) (defBody s_law_small) (defScope s_law_small) .none kV20 dc20 pm20 an20 cd20 ct20), sl20⟩) (c20 : PySem.W.codeIn K cd20 "_law_small" = true) (k20 : PySem.W.keepIn K (.ref f20) = true)
    {f21 : Addr} {od21 an21 : Option Addr} {sl21 : Array (Option Value)} {oc21 kV21 dc21 pm21 cd21 ct21 : Value} (a21 : PySem.W.nsIn K mainGlobals "_law_drawn" = some (some (.ref f21))) (l21 : K.lookup f21 = some ⟨oc21, od21, .func (PySem.W.fnOf "_law_drawn" "_law_drawn" (defArgs s_law_drawn) (defBody s_law_drawn) (defScope s_law_drawn) .none kV21 dc21 pm21 an21 cd21 ct21), sl21⟩) (c21 : PySem.W.codeIn K cd21 "_law_drawn" = true) (k21 : PySem.W.keepIn K (.ref f21) = true)
    {f22 : Addr} {od22 an22 : Option Addr} {sl22 : Array (Option Value)} {oc22 kV22 dc22 pm22 cd22 ct22 : Value} (a22 : PySem.W.nsIn K mainGlobals "_law_pair_right" = some (some (.ref f22))) (l22 : K.lookup f22 = some ⟨oc22, od22, .func (PySem.W.fnOf "_law_pair_right" "_law_pair_right" (defArgs s_law_pair_right) (defBody s_law_pair_right) (defScope s_law_pair_right) .none kV22 dc22 pm22 an22 cd22 ct22), sl22⟩) (c22 : PySem.W.codeIn K cd22 "_law_pair_right" = true) (k22 : PySem.W.keepIn K (.ref f22) = true)
    {f23 : Addr} {od23 an23 : Option Addr} {sl23 : Array (Option Value)} {oc23 kV23 dc23 pm23 cd23 ct23 : Value} (a23 : PySem.W.nsIn K mainGlobals "_law_box" = some (some (.ref f23))) (l23 : K.lookup f23 = some ⟨oc23, od23, .func (PySem.W.fnOf "_law_box" "_law_box" (defArgs s_law_box) (defBody s_law_box) (defScope s_law_box) .none kV23 dc23 pm23 an23 cd23 ct23), sl23⟩) (c23 : PySem.W.codeIn K cd23 "_law_box" = true) (k23 : PySem.W.keepIn K (.ref f23) = true)
    {f24 : Addr} {od24 an24 : Option Addr} {sl24 : Array (Option Value)} {oc24 kV24 dc24 pm24 cd24 ct24 : Value} (a24 : PySem.W.nsIn K mainGlobals "_law_cells" = some (some (.ref f24))) (l24 : K.lookup f24 = some ⟨oc24, od24, .func (PySem.W.fnOf "_law_cells" "_law_cells" (defArgs s_law_cells) (defBody s_law_cells) (defScope s_law_cells) .none kV24 dc24 pm24 an24 cd24 ct24), sl24⟩) (c24 : PySem.W.codeIn K cd24 "_law_cells" = true) (k24 : PySem.W.keepIn K (.ref f24) = true)
    {f25 : Addr} {od25 an25 : Option Addr} {sl25 : Array (Option Value)} {oc25 kV25 dc25 pm25 cd25 ct25 : Value} (a25 : PySem.W.nsIn K mainGlobals "law" = some (some (.ref f25))) (l25 : K.lookup f25 = some ⟨oc25, od25, .func (PySem.W.fnOf "law" "law" (defArgs s_law) (defBody s_law) (defScope s_law) .none kV25 dc25 pm25 an25 cd25 ct25), sl25⟩) (c25 : PySem.W.codeIn K cd25 "law" = true) (k25 : PySem.W.keepIn K (.ref f25) = true)
    (z0 : PySem.W.nsIn K mainGlobals "abs" = some none)
    (z1 : PySem.W.nsIn K mainGlobals "all" = some none)
    (z2 : PySem.W.nsIn K mainGlobals "bool" = some none)
    (z3 : PySem.W.nsIn K mainGlobals "enumerate" = some none)
    (z4 : PySem.W.nsIn K mainGlobals "int" = some none)
    (z5 : PySem.W.nsIn K mainGlobals "isinstance" = some none)
    (z6 : PySem.W.nsIn K mainGlobals "len" = some none)
    (z7 : PySem.W.nsIn K mainGlobals "list" = some none)
    (z8 : PySem.W.nsIn K mainGlobals "max" = some none)
    (z9 : PySem.W.nsIn K mainGlobals "range" = some none)
    (z10 : PySem.W.nsIn K mainGlobals "str" = some none)
    (z11 : PySem.W.nsIn K mainGlobals "tuple" = some none)
    (z12 : PySem.W.nsIn K mainGlobals "zip" = some none)
    {CE0 : Addr} (ea0 : PySem.W.nsIn K mainGlobals "Unfit" = some (some (.ref CE0))) (eq0 : PySem.W.excIn K CE0 [.type "ValueError", .type "Exception", .type "BaseException", .type "object"] "ValueError.__new__" = true) (ek0 : PySem.W.keepIn K (.ref CE0) = true) (eb0 : PySem.W.subIn K (.ref CE0) (.type "BaseException") = some true) (et0 : PySem.W.typeIn K (.ref CE0) = some (.type "type")) (ei0 : PySem.W.isClsIn K CE0 = true) (es0 : PySem.W.subIn K (.ref CE0) (.ref CE0) = some true)
    : ∃ fd : FuncData, (∀ (s : Shared) (v : Value), BindsTo s fd ⟨[v], []⟩ [("script", v)]) ∧ ∀ base : Heap, K.In base → base.Ns mainGlobals mg → FnOk l.prog w K mg base CX0 11 fa fd ["script"] (spLaw K) := by
  have e := hfa.symm.trans (PySem.W.mg_of X G a25)
  have e2 : f25 = fa := (Value.ref.inj (Option.some.inj e)).symm
  subst e2
  have F0 := fun_mk (st := s_shortened) l0 c0 k0
  have F1 := fun_mk (st := s_times_root) l1 c1 k1
  have F2 := fun_mk (st := s_ray_sum) l2 c2 k2
  have F3 := fun_mk (st := s_ray_product) l3 c3 k3
  have F4 := fun_mk (st := s_turned_ray) l4 c4 k4
  have F5 := fun_mk (st := s_mirrored) l5 c5 k5
  have F6 := fun_mk (st := s_twin_of) l6 c6 k6
  have F7 := fun_mk (st := s_size_of) l7 c7 k7
  have F8 := fun_mk (st := s_is_real) l8 c8 k8
  have F9 := fun_mk (st := s_sign_of) l9 c9 k9
  have F10 := fun_mk (st := s_over_root) l10 c10 k10
  have F11 := fun_mk (st := s_law_same) l11 c11 k11
  have F12 := fun_mk (st := s_law_take) l12 c12 k12
  have F13 := fun_mk (st := s_law_of) l13 c13 k13
  have F14 := fun_mk (st := s_law_ray) l14 c14 k14
  have F15 := fun_mk (st := s_law_at) l15 c15 k15
  have F16 := fun_mk (st := s_law_ray_sum) l16 c16 k16
  have F17 := fun_mk (st := s_law_ray_minus) l17 c17 k17
  have F18 := fun_mk (st := s_law_ray_prod) l18 c18 k18
  have F19 := fun_mk (st := s_law_sign) l19 c19 k19
  have F20 := fun_mk (st := s_law_small) l20 c20 k20
  have F21 := fun_mk (st := s_law_drawn) l21 c21 k21
  have F22 := fun_mk (st := s_law_pair_right) l22 c22 k22
  have F23 := fun_mk (st := s_law_box) l23 c23 k23
  have F24 := fun_mk (st := s_law_cells) l24 c24 k24
  have F25 := fun_mk (st := s_law) l25 c25 k25
  let T : Txt K mg := ⟨⟨f0, _, F0, F0.binds (fun _ _ _ _ _ _ us hl => match us, hl with | [_, _], _ => rfl), PySem.W.mg_of X G a0⟩,
    ⟨f1, _, F1, F1.binds (fun _ _ _ _ _ _ us hl => match us, hl with | [_, _], _ => rfl), PySem.W.mg_of X G a1⟩,
    ⟨f2, _, F2, F2.binds (fun _ _ _ _ _ _ us hl => match us, hl with | [_, _], _ => rfl), PySem.W.mg_of X G a2⟩,
    ⟨f3, _, F3, F3.binds (fun _ _ _ _ _ _ us hl => match us, hl with | [_, _], _ => rfl), PySem.W.mg_of X G a3⟩,
    ⟨f4, _, F4, F4.binds (fun _ _ _ _ _ _ us hl => match us, hl with | [_, _], _ => rfl), PySem.W.mg_of X G a4⟩,
    ⟨f5, _, F5, F5.binds (fun _ _ _ _ _ _ us hl => match us, hl with | [_], _ => rfl), PySem.W.mg_of X G a5⟩,
    ⟨f6, _, F6, F6.binds (fun _ _ _ _ _ _ us hl => match us, hl with | [_], _ => rfl), PySem.W.mg_of X G a6⟩,
    ⟨f7, _, F7, F7.binds (fun _ _ _ _ _ _ us hl => match us, hl with | [_], _ => rfl), PySem.W.mg_of X G a7⟩,
    ⟨f8, _, F8, F8.binds (fun _ _ _ _ _ _ us hl => match us, hl with | [_], _ => rfl), PySem.W.mg_of X G a8⟩,
    ⟨f9, _, F9, F9.binds (fun _ _ _ _ _ _ us hl => match us, hl with | [_], _ => rfl), PySem.W.mg_of X G a9⟩,
    ⟨f10, _, F10, F10.binds (fun _ _ _ _ _ _ us hl => match us, hl with | [_, _], _ => rfl), PySem.W.mg_of X G a10⟩,
    ⟨f11, _, F11, F11.binds (fun _ _ _ _ _ _ us hl => match us, hl with | [_, _], _ => rfl), PySem.W.mg_of X G a11⟩,
    ⟨f12, _, F12, F12.binds (fun _ _ _ _ _ _ us hl => match us, hl with | [_, _], _ => rfl), PySem.W.mg_of X G a12⟩,
    ⟨f13, _, F13, F13.binds (fun _ _ _ _ _ _ us hl => match us, hl with | [_, _], _ => rfl), PySem.W.mg_of X G a13⟩,
    ⟨f14, _, F14, F14.binds (fun _ _ _ _ _ _ us hl => match us, hl with | [_, _, _, _, _], _ => rfl), PySem.W.mg_of X G a14⟩,
    ⟨f15, _, F15, F15.binds (fun _ _ _ _ _ _ us hl => match us, hl with | [_, _], _ => rfl), PySem.W.mg_of X G a15⟩,
    ⟨f16, _, F16, F16.binds (fun _ _ _ _ _ _ us hl => match us, hl with | [_, _], _ => rfl), PySem.W.mg_of X G a16⟩,
    ⟨f17, _, F17, F17.binds (fun _ _ _ _ _ _ us hl => match us, hl with | [_], _ => rfl), PySem.W.mg_of X G a17⟩,
    ⟨f18, _, F18, F18.binds (fun _ _ _ _ _ _ us hl => match us, hl with | [_, _], _ => rfl), PySem.W.mg_of X G a18⟩,
    ⟨f19, _, F19, F19.binds (fun _ _ _ _ _ _ us hl => match us, hl with | [_], _ => rfl), PySem.W.mg_of X G a19⟩,
    ⟨f20, _, F20, F20.binds (fun _ _ _ _ _ _ us hl => match us, hl with | [_], _ => rfl), PySem.W.mg_of X G a20⟩,
    ⟨f21, _, F21, F21.binds (fun _ _ _ _ _ _ us hl => match us, hl with | [_], _ => rfl), PySem.W.mg_of X G a21⟩,
    ⟨f22, _, F22, F22.binds (fun _ _ _ _ _ _ us hl => match us, hl with | [_, _], _ => rfl), PySem.W.mg_of X G a22⟩,
    ⟨f23, _, F23, F23.binds (fun _ _ _ _ _ _ us hl => match us, hl with | [_, _], _ => rfl), PySem.W.mg_of X G a23⟩,
    ⟨f24, _, F24, F24.binds (fun _ _ _ _ _ _ us hl => match us, hl with | [_, _], _ => rfl), PySem.W.mg_of X G a24⟩,
    ⟨f25, _, F25, F25.binds (fun _ _ _ _ _ _ us hl => match us, hl with | [_], _ => rfl), PySem.W.mg_of X G a25⟩,
    PySem.W.mg_none_of X G z0, PySem.W.mg_none_of X G z1, PySem.W.mg_none_of X G z2, PySem.W.mg_none_of X G z3, PySem.W.mg_none_of X G z4, PySem.W.mg_none_of X G z5, PySem.W.mg_none_of X G z6, PySem.W.mg_none_of X G z7, PySem.W.mg_none_of X G z8, PySem.W.mg_none_of X G z9, PySem.W.mg_none_of X G z10, PySem.W.mg_none_of X G z11, PySem.W.mg_none_of X G z12, ⟨CE0, PySem.W.mg_of X G ea0, eq0, ek0, eb0, et0, exm_own eb0 ei0 et0 es0⟩⟩
  exact ⟨_, fun s v => .of_eq rfl, fun base _ _ => ok_law T hL⟩
end K01
set_option Elab.async false
set_option linter.all false
set_option maxRecDepth 100000
set_option maxHeartbeats 4000000
namespace K01
open PySem PySem.Spec PyProof.Rows L2 DL RM RM.Zw
local macro_rules | `(tactic| walk_at "ev1") => `(tactic| (with_reducible first
  | refine w_seq ?_ | refine k_rt ?_ | refine w_ret ?_ | refine w_set ?_ | refine w_asg ?_ | refine w_sif ?_ | refine w_snil ?_ | refine w_par ?_ | refine w_par3 ?_ | refine w_retN ?_ | refine w_expr ?_ | refine w_setO ?_ | refine w_for ?_ | refine kf_nx ?_ | refine kf_rt ?_ | refine kf_ct ?_
  | refine w_bin ?_ | refine w_un ?_ | refine w_c ?_ | refine w_nil ?_ | refine w_cons ?_ | refine w_tup ?_ | refine w_lst ?_ | refine w_ofF ?_ | refine w_ix ?_ | refine w_sl ?_ | refine w_nopart ?_ | refine w_and ?_ | refine w_or ?_ | refine w_not ?_ | refine w_andV ?_ | refine w_orV ?_ | refine w_if ?_ | refine w_call ?_ | refine w_isi ?_ | refine w_lc ?_ | refine w_yes ?_ | refine w_lcnil ?_))
local macro_rules | `(tactic| walk_at "ev2") => `(tactic| first
  | walk_at "ev1"
  | ((with_reducible refine k_nx ?_); (try dsimp only [List.set_cons_succ, List.set_cons_zero]))
  | ((with_reducible show Ex (dVar _ _ _) _); refine w_var rfl ?_)
  | ((with_reducible show Ex (sAug _ _ _ _ _) _); refine w_aug rfl ?_)
  | ((with_reducible show Ex (sApp _ _ _ _) _); refine w_app rfl ?_)
  | ((with_reducible show Ex (sTin _ _ _ _ _) _); refine w_tin rfl ?_)
  | (with_reducible refine ⟨_, eq_int _ _, ?_⟩)
  | (with_reducible refine ⟨_, ne_int _ _, ?_⟩)
  | (with_reducible refine ⟨_, mul_ok (by assumption), ?_⟩)
  | (with_reducible refine ⟨_, fdiv_ok (by decide), ?_⟩)
  | (with_reducible refine ⟨_, mod_ok (by decide), ?_⟩)
  | (with_reducible refine ⟨_, fdiv_ok (by assumption), ?_⟩)
  | (with_reducible refine ⟨_, mod_ok (by assumption), ?_⟩)
  | ((with_reducible show small _ = true ∧ _); refine ⟨rfl, ?_⟩)
  | ((with_reducible show ∃ _ _, [_, _] = [_, _] ∧ _); refine ⟨_, _, rfl, ?_⟩)
  | ((with_reducible show ∃ _ _ _, [_, _, _] = [_, _, _] ∧ _); refine ⟨_, _, _, rfl, ?_⟩)
  | ((with_reducible show ∃ _, PyData.bool _ = PyData.bool _ ∧ _); refine ⟨_, rfl, ?_⟩)
  | ((with_reducible show ∃ _, _ = some _ ∧ _); refine ⟨_, (rfl : _ = some _), ?_⟩)
  | fail)
local macro_rules | `(tactic| walk_at "ev") => `(tactic| ((repeat' (walk_at "ev2")); (try dsimp only [List.set_cons_succ, List.set_cons_zero])))
local macro_rules | `(tactic| walk_at "evb") => `(tactic| (refine w_body rfl ?_; simp only [ρ0, List.map_cons, List.map_nil, List.length_cons, List.length_nil, List.replicate_succ, List.replicate_zero, Nat.reduceAdd, Nat.reduceSub, List.cons_append, List.nil_append]))
def numsD (x : Zw) : D := .tuple [.int x.a, .int x.b, .int x.c, .int x.d]
def rayD (r : Ray) : D := .tuple [.int r.x.a, .int r.x.b, .int r.x.c, .int r.x.d, .int (r.k : Nat)]
theorem eq_nums (a b c d e f g h : Int) : opEq (.tuple [.int a, .int b, .int c, .int d]) (.tuple [.int e, .int f, .int g, .int h]) = some (.bool (decide (a = e ∧ b = f ∧ c = g ∧ d = h))) := by
  rw [eq_any rfl rfl]
  have q : PyData.eqv (PyData.tuple [.int a, .int b, .int c, .int d]) (PyData.tuple [.int e, .int f, .int g, .int h]) = (a == e && (b == f && (c == g && (d == h && true)))) := rfl
  rw [q]
  congr 2
  rw [Bool.eq_iff_iff]
  simp
local macro_rules | `(tactic| walk_at "ev2") => `(tactic| ((with_reducible show ∃ _, opEq (.tuple [.int _, .int _, .int _, .int _]) (.tuple [.int _, .int _, .int _, .int _]) = some _ ∧ _); refine ⟨_, eq_nums _ _ _ _ _ _ _ _, ?_⟩))
theorem short_eval (a b c d : Int) (k : Nat) (T : List D) : Ex (F_shortened [.tuple [.int a, .int b, .int c, .int d], .int (k : Nat)] T) fun v T' => v = rayD (short ⟨a, b, c, d⟩ k) ∧ T' = T := by
  unfold F_shortened g_shortened
  walk_at "evb"
  walk_at "ev"
  refine ite_s (fun h => ?_) (fun h => ?_)
  · walk_at "ev"
    obtain ⟨rfl, rfl, rfl, rfl⟩ := of_decide_eq_true h
    refine ⟨?_, rfl⟩
    unfold rayD short
    rw [if_pos (show (⟨0, 0, 0, 0⟩ : Zw) = Zw.zero from rfl)]
    rfl
  · have hz := of_decide_eq_false h
    walk_at "ev"
    refine w_wh ?_
    have hsh : short ⟨a, b, c, d⟩ k = shortGo k ⟨a, b, c, d⟩ := by
      unfold short
      rw [if_neg]
      intro q
      injection q with q1 q2 q3 q4
      exact hz ⟨q1, q2, q3, q4⟩
    rw [hsh]
    refine w_whinv (fun m ρ T' => T' = T ∧ ∃ a' b' c' d' : Int, ρ = [.sh (.tuple [.int a, .int b, .int c, .int d]), .sh (.int (m : Nat)), .sh (.int a'), .sh (.int b'), .sh (.int c'), .sh (.int d')] ∧ shortGo m ⟨a', b', c', d'⟩ = shortGo k ⟨a, b, c, d⟩) ?_ (m := k) ?_ ⟨rfl, a, b, c, d, rfl, rfl⟩
    · rintro m ρ T' ⟨rfl, a', b', c', d', rfl, hm⟩
      walk_at "ev"
      refine ite_s (fun h1 => ?_) (fun h1 => ?_)
      · have h1 := of_decide_eq_true h1
        obtain ⟨j, rfl⟩ : ∃ j, m = j + 1 := ⟨m - 1, by omega⟩
        walk_at "ev"
        refine ite_s (fun h2 => ?_) (fun h2 => ?_)
        · have h2 := of_decide_eq_true h2
          walk_at "ev"
          refine ite_s (fun h3 => ?_) (fun h3 => ?_)
          · have h3 := of_decide_eq_true h3
            walk_at "ev"
            have ej : ((j + 1 : Nat) : Int) - 1 = (j : Nat) := by omega
            refine ⟨j, Nat.lt_succ_self j, rfl, (b' - d') / 2, (a' + c') / 2, (b' + d') / 2, (c' - a') / 2, by rw [ej], ?_⟩
            · rw [← hm, shortGo_succ, if_pos (ev_iff.mpr ⟨h2, h3⟩)]
              rfl
          · have h3 := of_decide_eq_false h3
            walk_at "ev"
            refine ⟨?_, rfl⟩
            rw [← hm, shortGo_succ, if_neg (fun q => h3 (ev_iff.mp q).2)]
            rfl
        · have h2 := of_decide_eq_false h2
          refine ite_f rfl ?_
          walk_at "ev"
          refine ⟨?_, rfl⟩
          rw [← hm, shortGo_succ, if_neg (fun q => h2 (ev_iff.mp q).1)]
          rfl
      · have h1 := of_decide_eq_false h1
        have hm0 : m = 0 := by omega
        subst hm0
        refine ite_f rfl ?_
        walk_at "ev"
        refine ⟨?_, rfl⟩
        rw [← hm]
        rfl
    · show k < (k : Int).toNat + 1
      omega
theorem c_short {a b c d k : Int} {T : List D} {P : D → List D → Prop} (hk : 0 ≤ k) (p : P (rayD (short ⟨a, b, c, d⟩ k.toNat)) T) : Ex (F_shortened [.tuple [.int a, .int b, .int c, .int d], .int k] T) P := by
  obtain ⟨m, rfl⟩ : ∃ m : Nat, k = m := ⟨k.toNat, by omega⟩
  refine (short_eval a b c d m T).imp ?_
  rintro v T' ⟨rfl, rfl⟩
  exact p
theorem mulC_sm {m n : Nat} {i j : Int} (h : Sm m i) (g : Sm n j) (hl : m + n ≤ 900000) : mulC i j = true := by
  unfold mulC
  have q : CMulW i j := wide_mul (a := m + 1) (b := n + 1) (Sm.mono h (Nat.le_succ m)) (Sm.mono g (Nat.le_succ n)) (Nat.succ_pos _) (Nat.succ_pos _) (by omega)
  exact decide_eq_true q
/-- the product; the other one may be a list -/
theorem c_prod {m n : Nat} {r s : Ray} {y : D} {T : List D} {P : D → List D → Prop} (hy : y = rayD s ∨ y = .list [.int s.x.a, .int s.x.b, .int s.x.c, .int s.x.d, .int (s.k : Nat)]) (h : Bd m r.x) (g : Bd n s.x) (hl : m + n ≤ 900000) (p : P (rayD (rprod r s)) T) : Ex (F_ray_product [rayD r, y] T) P := by
  have m1 := mulC_sm h.a g.a hl
  have m2 := mulC_sm h.a g.b hl
  have m3 := mulC_sm h.a g.c hl
  have m4 := mulC_sm h.a g.d hl
  have m5 := mulC_sm h.b g.a hl
  have m6 := mulC_sm h.b g.b hl
  have m7 := mulC_sm h.b g.c hl
  have m8 := mulC_sm h.b g.d hl
  have m9 := mulC_sm h.c g.a hl
  have m10 := mulC_sm h.c g.b hl
  have m11 := mulC_sm h.c g.c hl
  have m12 := mulC_sm h.c g.d hl
  have m13 := mulC_sm h.d g.a hl
  have m14 := mulC_sm h.d g.b hl
  have m15 := mulC_sm h.d g.c hl
  have m16 := mulC_sm h.d g.d hl
  unfold F_ray_product g_ray_product
  rcases hy with rfl | rfl
  · unfold rayD
    walk_at "evb"
    walk_at "ev"
    refine c_short ?hk ?_; (case hk => omega)
    rw [show ((r.k : Int) + (s.k : Int)).toNat = r.k + s.k by omega]
    exact p
  · unfold rayD
    walk_at "evb"
    walk_at "ev"
    refine c_short ?hk ?_; (case hk => omega)
    rw [show ((r.k : Int) + (s.k : Int)).toNat = r.k + s.k by omega]
    exact p
theorem c_mir {r : Ray} {T : List D} {P : D → List D → Prop} (p : P (rayD (rmir r)) T) : Ex (F_mirrored [rayD r] T) P := by
  unfold F_mirrored g_mirrored rayD
  walk_at "evb"
  walk_at "ev"
  exact p
theorem c_twin {r : Ray} {T : List D} {P : D → List D → Prop} (p : P (rayD (rtwin r)) T) : Ex (F_twin_of [rayD r] T) P := by
  unfold F_twin_of g_twin_of rayD
  walk_at "evb"
  walk_at "ev"
  unfold rtwin sg at p
  refine ite_s (fun h => ?_) (fun h => ?_)
  · have h := of_decide_eq_true h
    rw [if_pos (by omega)] at p
    walk_at "ev"
    unfold rayD at p
    simp only [neg_def, tau, Int.neg_neg] at p
    exact p
  · have h := of_decide_eq_false h
    rw [if_neg (by omega)] at p
    walk_at "ev"
    exact p
theorem c_size {n : Nat} {r : Ray} {T : List D} {P : D → List D → Prop} (h : Bd n r.x) (hl : n + n ≤ 900000) (p : P (rayD (rsize r)) T) : Ex (F_size_of [rayD r] T) P := by
  unfold F_size_of g_size_of
  walk_at "evb"
  walk_at "ev"
  refine c_mir ?_
  walk_at "ev"
  exact c_prod (.inl rfl) h h.conj hl p
theorem times_loop {s0 s1 s2 s3 s4 s5 : Sl} {T : List D} {Q : Fl → List D → Prop} : ∀ (items : List D) (j : Nat) (z : Sl), j + items.length ≤ 400000 → (∀ z, Q (.nx [s0, s1, s2, s3, s4, s5, .sh (.int (2 ^ (j + items.length))), z]) T) → Ex (forGo (tgN 7) (sSet 6 (dBin opMul (dVar 6) (dC (PyData.int 2)))) items [s0, s1, s2, s3, s4, s5, .sh (.int (2 ^ j)), z] T) Q
  | [], j, z, _, q => w_fornil (q z)
  | v :: items, j, z, hl, q => by
    rw [List.length_cons] at hl q
    have mc : mulC (2 ^ j) 2 = true := mulC_sm (Sm.pow j) (show Sm 2 2 by unfold Sm; decide) (by omega)
    refine w_forcons ⟨_, rfl, ?_⟩
    walk_at "ev"
    have ih := times_loop (T := T) (Q := Q) (s0 := s0) (s1 := s1) (s2 := s2) (s3 := s3) (s4 := s4) (s5 := s5) items (j + 1) (.sh v) (by omega) (fun z => by rw [show j + 1 + items.length = j + (items.length + 1) by omega]; exact q z)
    rw [Int.pow_succ] at ih
    exact ih
theorem c_times {n : Nat} {x : Zw} {m : Int} {T : List D} {P : D → List D → Prop} (h : Bd n x) (h0 : 0 ≤ m) (hl : (n : Int) + m ≤ 400000) (p : P (numsD (ps m.toNat x)) T) : Ex (F_times_root [numsD x, .int m] T) P := by
  unfold F_times_root g_times_root numsD
  walk_at "evb"
  walk_at "ev"
  have fin : ∀ y : Zw, Bd (n + 1) y → mulC y.a (2 ^ (m / 2).toNat) = true ∧ mulC y.b (2 ^ (m / 2).toNat) = true ∧ mulC y.c (2 ^ (m / 2).toNat) = true ∧ mulC y.d (2 ^ (m / 2).toNat) = true := fun y hy =>
    ⟨mulC_sm hy.a (Sm.pow _) (by omega), mulC_sm hy.b (Sm.pow _) (by omega), mulC_sm hy.c (Sm.pow _) (by omega), mulC_sm hy.d (Sm.pow _) (by omega)⟩
  refine ite_s (fun h1 => ?_) (fun h1 => ?_)
  · have h1 := of_decide_eq_true h1
    walk_at "ev"
    refine ⟨_, rng1 (by omega) (by omega), ?_⟩
    have e := ps_odd (m / 2).toNat x
    rw [show 2 * (m / 2).toNat + 1 = m.toNat by omega] at e
    rw [e] at p
    refine times_loop _ 0 .no (by rw [List.length_map, List.length_range]; omega) fun z => ?_
    rw [List.length_map, List.length_range, Nat.zero_add]
    obtain ⟨m1, m2, m3, m4⟩ := fin _ h.ms
    have m1 : mulC (x.b - x.d) (2 ^ (m / 2).toNat) = true := m1
    have m2 : mulC (x.a + x.c) (2 ^ (m / 2).toNat) = true := m2
    have m3 : mulC (x.b + x.d) (2 ^ (m / 2).toNat) = true := m3
    have m4 : mulC (x.c - x.a) (2 ^ (m / 2).toNat) = true := m4
    walk_at "ev"
    exact p
  · have h1 := of_decide_eq_false h1
    walk_at "ev"
    refine ⟨_, rng1 (by omega) (by omega), ?_⟩
    have e := ps_dbl (m / 2).toNat x
    rw [show 2 * (m / 2).toNat = m.toNat by omega] at e
    rw [e] at p
    refine times_loop _ 0 .no (by rw [List.length_map, List.length_range]; omega) fun z => ?_
    rw [List.length_map, List.length_range, Nat.zero_add]
    obtain ⟨m1, m2, m3, m4⟩ := fin x (h.mono (Nat.le_succ n))
    walk_at "ev"
    exact p
/-- two RAYS added up -/
theorem c_sum {m n : Nat} {r s : Ray} {T : List D} {P : D → List D → Prop} (h : Bd m r.x) (g : Bd n s.x) (hl : m + n + r.k + s.k ≤ 400000) (p : P (rayD (rsum r s)) T) : Ex (F_ray_sum [rayD r, rayD s] T) P := by
  unfold F_ray_sum g_ray_sum rayD
  walk_at "evb"
  walk_at "ev"
  have ek : (if (s.k : Int) > (r.k : Int) then (s.k : Int) else (r.k : Int)) = ((max r.k s.k : Nat) : Int) := by
    split <;> omega
  rw [ek]
  refine c_times (x := r.x) h (by omega) (by omega) ?_
  walk_at "ev"
  refine c_times (x := s.x) g (by omega) (by omega) ?_
  walk_at "ev"
  refine c_short ?hk ?_; (case hk => omega)
  unfold rsum at p
  rw [show (((max r.k s.k : Nat) : Int) - (r.k : Int)).toNat = max r.k s.k - r.k by omega, show (((max r.k s.k : Nat) : Int) - (s.k : Int)).toNat = max r.k s.k - s.k by omega, show ((max r.k s.k : Nat) : Int).toNat = max r.k s.k by omega]
  exact p
/-- divided by root -/
theorem c_over {n : Nat} {r : Ray} {j : Int} {T : List D} {P : D → List D → Prop} (h : Bd n r.x) (h0 : 0 ≤ j) (p : P (rayD (rover r j.toNat)) T) : Ex (F_over_root [rayD r, .int j] T) P := by
  unfold F_over_root g_over_root rayD
  walk_at "evb"
  walk_at "ev"
  refine ite_t (decide_eq_true (by omega)) ?_
  walk_at "ev"
  refine c_short ?hk ?_; (case hk => omega)
  rw [show ((r.k : Int) + j).toNat = r.k + j.toNat by omega]
  exact p
/-- multiplied by root -/
theorem c_mult {n : Nat} {r : Ray} {j : Int} {T : List D} {P : D → List D → Prop} (h : Bd n r.x) (h0 : 0 ≤ j) (hl : (n : Int) + j ≤ 400000) (p : P (rayD (rtimes r j.toNat)) T) : Ex (F_over_root [rayD r, .int (-j)] T) P := by
  unfold F_over_root g_over_root rayD
  walk_at "evb"
  walk_at "ev"
  unfold rtimes at p
  refine ite_s (fun h1 => ?_) (fun h1 => ?_)
  · have h1 := of_decide_eq_true h1
    rw [if_pos (by omega)] at p
    walk_at "ev"
    refine c_short ?hk ?_; (case hk => omega)
    rw [show ((r.k : Int) + -j).toNat = r.k - j.toNat by omega]
    exact p
  · have h1 := of_decide_eq_false h1
    rw [if_neg (by omega)] at p
    walk_at "ev"
    refine c_times (x := r.x) h (by omega) (by omega) ?_
    rw [show (-((r.k : Int) + -j)).toNat = j.toNat - r.k by omega]
    walk_at "ev"
    exact p
/-! equal RAYS -/
theorem eq_five (a b c d k e f g h l : Int) : opEq (.tuple [.int a, .int b, .int c, .int d, .int k]) (.tuple [.int e, .int f, .int g, .int h, .int l]) = some (.bool (decide (a = e ∧ b = f ∧ c = g ∧ d = h ∧ k = l))) := by
  rw [eq_any rfl rfl]
  have q : PyData.eqv (PyData.tuple [.int a, .int b, .int c, .int d, .int k]) (PyData.tuple [.int e, .int f, .int g, .int h, .int l]) = (a == e && (b == f && (c == g && (d == h && (k == l && true))))) := rfl
  rw [q]
  congr 2
  rw [Bool.eq_iff_iff]
  simp
theorem ray_five (r s : Ray) : (r.x.a = s.x.a ∧ r.x.b = s.x.b ∧ r.x.c = s.x.c ∧ r.x.d = s.x.d ∧ ((r.k : Nat) : Int) = (s.k : Nat)) ↔ r = s := by
  constructor
  · rintro ⟨h1, h2, h3, h4, h5⟩
    exact Ray.ext (Zw.ext h1 h2 h3 h4) (by omega)
  · rintro rfl
    exact ⟨rfl, rfl, rfl, rfl, rfl⟩
theorem eq_ray (r s : Ray) : opEq (rayD r) (rayD s) = some (.bool (decide (r = s))) := by
  unfold rayD
  rw [eq_five]
  simp only [ray_five]
theorem c_real {r : Ray} {T : List D} {P : D → List D → Prop} (p : P (.bool (decide (r = rmir r))) T) : Ex (F_is_real [rayD r] T) P := by
  unfold F_is_real g_is_real
  walk_at "evb"
  walk_at "ev1"
  walk_at "ev1"
  refine w_un (w_cons (w_var rfl (w_nil ⟨_, rfl, ?_⟩)))
  walk_at "ev"
  exact c_mir ⟨_, eq_ray _ _, p⟩
/-- the sign, by squares -/
def sgn (i : Int) : Int := if i = 0 then 0 else if 0 < i then 1 else -1
def val (x : Zw) : Int := x.a * (if x.a < 0 then -x.a else x.a) + 2 * x.b * (if x.b < 0 then -x.b else x.b)
theorem c_sign {n : Nat} {r : Ray} {T : List D} {P : D → List D → Prop} (hr : r = rmir r) (h : Bd n r.x) (hl : n ≤ 400000) (p : P (.int (sgn (val r.x))) T) : Ex (F_sign_of [rayD r] T) P := by
  unfold F_sign_of g_sign_of
  walk_at "evb"
  walk_at "ev"
  refine c_real ?_
  rw [decide_eq_true hr]
  walk_at "ev"
  refine ite_f rfl ?_
  have m1 : mulC r.x.a (if r.x.a < 0 then -r.x.a else r.x.a) = true := mulC_sm h.a h.a.abs (by omega)
  have m2 : mulC 2 r.x.b = true := mulC_sm (show Sm 2 2 by unfold Sm; decide) h.b (by omega)
  have m3 : mulC (2 * r.x.b) (if r.x.b < 0 then -r.x.b else r.x.b) = true := mulC_sm (Sm.mul (show Sm 2 2 by unfold Sm; decide) h.b) h.b.abs (by omega)
  walk_at "ev"
  refine ite_s (fun h1 => ?_) (fun h1 => ?_)
  · have h1 := of_decide_eq_true h1
    unfold sgn val at p
    rw [if_pos h1] at p
    walk_at "ev"
    exact p
  · have h1 := of_decide_eq_false h1
    unfold sgn val at p
    rw [if_neg h1] at p
    walk_at "ev"
    refine ite_s (fun h2 => ?_) (fun h2 => ?_)
    · have h2 := of_decide_eq_true h2
      rw [if_pos h2] at p
      walk_at "ev"
      exact p
    · have h2 := of_decide_eq_false h2
      rw [if_neg h2] at p
      walk_at "ev"
      exact p
/-! turned -/
def itw : Nat → Zw → Zw
  | 0, x => x
  | n + 1, x => itw n (mw x)
def rturn (r : Ray) (m : Nat) : Ray := ⟨itw (m % 4) (if 4 ≤ m then -r.x else r.x), r.k⟩
theorem turn_loop {s0 s1 : Sl} {T : List D} {Q : Fl → List D → Prop} : ∀ (items : List D) (x : Zw) (z : Sl), (∀ z, Q (.nx [s0, s1, .sh (numsD (itw items.length x)), z]) T) → Ex (forGo (tgN 3) (sSet 2 (dBin opAdd (dTup (dCons (dUn opNeg (dIx (dVar 2) (dC (.int 3)))) dNil)) (dSl (dVar 2) dNoPart (dUn asInt (dC (.int 3)))))) items [s0, s1, .sh (numsD x), z] T) Q
  | [], x, z, q => w_fornil (q z)
  | v :: items, x, z, q => by
    refine w_forcons ⟨_, rfl, ?_⟩
    unfold numsD
    walk_at "ev"
    exact turn_loop items (mw x) (.sh v) q
theorem c_turn {r : Ray} {m : Int} {T : List D} {P : D → List D → Prop} (p : P (rayD (rturn r (m % 8).toNat)) T) : Ex (F_turned_ray [rayD r, .int m] T) P := by
  have h8 := Int.emod_nonneg m (show (8 : Int) ≠ 0 by decide)
  have h9 := Int.emod_lt_of_pos m (show (0 : Int) < 8 by decide)
  unfold F_turned_ray g_turned_ray rayD
  walk_at "evb"
  walk_at "ev"
  have e4 : (m % 8 % 4).toNat = (m % 8).toNat % 4 := by omega
  unfold rturn at p
  refine ite_s (fun h1 => ?_) (fun h1 => ?_)
  · have h1 := of_decide_eq_true h1
    rw [if_pos (show 4 ≤ (m % 8).toNat by omega)] at p
    walk_at "ev"
    refine ⟨_, rng1 (by omega) (by omega), ?_⟩
    refine turn_loop _ (-r.x) .no fun z => ?_
    rw [List.length_map, List.length_range, e4]
    unfold numsD
    walk_at "ev"
    exact p
  · have h1 := of_decide_eq_false h1
    rw [if_neg (show ¬ 4 ≤ (m % 8).toNat by omega)] at p
    walk_at "ev"
    refine ⟨_, rng1 (by omega) (by omega), ?_⟩
    refine turn_loop _ r.x .no fun z => ?_
    rw [List.length_map, List.length_range, e4]
    unfold numsD
    walk_at "ev"
    exact p
end K01
set_option Elab.async false
set_option linter.all false
set_option maxRecDepth 100000
set_option maxHeartbeats 4000000
namespace K01
open PySem PySem.Spec PyProof.Rows L2 DL RM RM.Zw
local macro_rules | `(tactic| walk_at "ev1") => `(tactic| (with_reducible first
  | refine w_seq ?_ | refine k_rt ?_ | refine w_ret ?_ | refine w_set ?_ | refine w_asg ?_ | refine w_sif ?_ | refine w_snil ?_ | refine w_par ?_ | refine w_par3 ?_ | refine w_retN ?_ | refine w_expr ?_ | refine w_setO ?_ | refine w_for ?_ | refine kf_nx ?_ | refine kf_rt ?_ | refine kf_ct ?_
  | refine w_bin ?_ | refine w_un ?_ | refine w_c ?_ | refine w_nil ?_ | refine w_cons ?_ | refine w_tup ?_ | refine w_lst ?_ | refine w_ofF ?_ | refine w_ix ?_ | refine w_sl ?_ | refine w_nopart ?_ | refine w_and ?_ | refine w_or ?_ | refine w_not ?_ | refine w_andV ?_ | refine w_orV ?_ | refine w_if ?_ | refine w_call ?_ | refine w_isi ?_ | refine w_lc ?_ | refine w_yes ?_ | refine w_lcnil ?_))
local macro_rules | `(tactic| walk_at "ev2") => `(tactic| first
  | walk_at "ev1"
  | ((with_reducible refine k_nx ?_); (try dsimp only [List.set_cons_succ, List.set_cons_zero]))
  | ((with_reducible show Ex (dVar _ _ _) _); refine w_var rfl ?_)
  | ((with_reducible show Ex (sAug _ _ _ _ _) _); refine w_aug rfl ?_)
  | ((with_reducible show Ex (sApp _ _ _ _) _); refine w_app rfl ?_)
  | ((with_reducible show Ex (sTin _ _ _ _ _) _); refine w_tin rfl ?_)
  | (with_reducible refine ⟨_, eq_int _ _, ?_⟩)
  | (with_reducible refine ⟨_, ne_int _ _, ?_⟩)
  | (with_reducible refine ⟨_, mul_ok (by assumption), ?_⟩)
  | (with_reducible refine ⟨_, fdiv_ok (by decide), ?_⟩)
  | (with_reducible refine ⟨_, mod_ok (by decide), ?_⟩)
  | (with_reducible refine ⟨_, fdiv_ok (by assumption), ?_⟩)
  | (with_reducible refine ⟨_, mod_ok (by assumption), ?_⟩)
  | ((with_reducible show small _ = true ∧ _); refine ⟨rfl, ?_⟩)
  | ((with_reducible show ∃ _ _, [_, _] = [_, _] ∧ _); refine ⟨_, _, rfl, ?_⟩)
  | ((with_reducible show ∃ _ _ _, [_, _, _] = [_, _, _] ∧ _); refine ⟨_, _, _, rfl, ?_⟩)
  | ((with_reducible show ∃ _, PyData.bool _ = PyData.bool _ ∧ _); refine ⟨_, rfl, ?_⟩)
  | ((with_reducible show ∃ _, _ = some _ ∧ _); refine ⟨_, (rfl : _ = some _), ?_⟩)
  | fail)
local macro_rules | `(tactic| walk_at "ev") => `(tactic| ((repeat' (walk_at "ev2")); (try dsimp only [List.set_cons_succ, List.set_cons_zero])))
local macro_rules | `(tactic| walk_at "evb") => `(tactic| (refine w_body rfl ?_; simp only [ρ0, List.map_cons, List.map_nil, List.length_cons, List.length_nil, List.replicate_succ, List.replicate_zero, Nat.reduceAdd, Nat.reduceSub, List.cons_append, List.nil_append]))
local macro_rules | `(tactic| walk_at "ev2") => `(tactic| ((with_reducible show ∃ _ _, _ = _ ∧ ixN _ _ = some _ ∧ _); refine ⟨_, _, rfl, rfl, ?_⟩))
/-! the source of draws -/
def TOk (B : Nat) (T : List D) : Prop := ∃ n m c : Int, T = [.int n, .int m, .int c] ∧ 0 ≤ n ∧ 0 ≤ m ∧ m < 2 ^ 62 ∧ 0 ≤ c ∧ c ≤ B
theorem TOk.mono {A B : Nat} {T : List D} (h : TOk A T) (l : A ≤ B) : TOk B T := by
  obtain ⟨n, m, c, e, h1, h2, h3, h4, h5⟩ := h
  exact ⟨n, m, c, e, h1, h2, h3, h4, by omega⟩
theorem sm_of {i : Int} (h : -1180591620717411303424 < i ∧ i < 1180591620717411303424) : Sm 70 i := by
  unfold Sm
  omega
theorem mulC_of {i j : Int} (h : -1180591620717411303424 < i ∧ i < 1180591620717411303424) (g : -1180591620717411303424 < j ∧ j < 1180591620717411303424) : mulC i j = true := mulC_sm (sm_of h) (sm_of g) (by decide)
theorem c_take {B : Nat} {b : Int} {T : List D} {P : D → List D → Prop} (hT : TOk B T) (hB : B ≤ 100000) (h0 : 0 < b) (h1 : b < 1073741824) (p : ∀ v T', 0 ≤ v → v < b → TOk (B + 1) T' → P (.int v) T') : Ex (F_law_take [.dict [], .int b] T) P := by
  obtain ⟨n, m, c, rfl, hn, hm, hm2, hc, hc2⟩ := hT
  have hd : divC b 0 = divC b 0 := rfl
  have hb : divC n b = true := by
    unfold divC
    refine decide_eq_true ⟨h0, ?_⟩
    have q : b.natAbs < 2 ^ 30 := by omega
    have := PySem.Flt.log2_lt_of (show 0 < 30 by decide) q
    omega
  unfold F_law_take g_law_take
  walk_at "evb"
  walk_at "ev"
  refine ite_s (fun h1 => ?_) (fun h1 => ?_)
  · have h1 := of_decide_eq_true h1
    walk_at "ev"
    refine p _ _ (Int.emod_nonneg n (by omega)) (Int.emod_lt_of_pos n h0) ⟨n / b, m, c, rfl, ?_, hm, hm2, hc, by omega⟩
    exact Int.ediv_nonneg hn (by omega)
  · have m1 : mulC 48271 (c + 1) = true := mulC_of (by omega) (by omega)
    have m2 : mulC (m + 48271 * (c + 1)) (39373 + (c + 1)) = true := mulC_of (by omega) (by omega)
    walk_at "ev"
    generalize hx : (m + 48271 * (c + 1)) * (39373 + (c + 1)) % 2147483647 = x
    have hx0 : 0 ≤ x := by rw [← hx]; exact Int.emod_nonneg _ (by decide)
    have hx1 : x < 2147483647 := by rw [← hx]; exact Int.emod_lt_of_pos _ (by decide)
    have m3 : mulC (x + (c + 1) + m / 1000003) (x % 40009 + 7) = true := mulC_of (by omega) (by omega)
    walk_at "ev"
    generalize hy : (x + (c + 1) + m / 1000003) * (x % 40009 + 7) % 2147483629 = y
    have hy0 : 0 ≤ y := by rw [← hy]; exact Int.emod_nonneg _ (by decide)
    have hy1 : y < 2147483629 := by rw [← hy]; exact Int.emod_lt_of_pos _ (by decide)
    have m4 : mulC y 48271 = true := mulC_of (by omega) (by omega)
    walk_at "ev"
    exact p _ _ (Int.emod_nonneg _ (by omega)) (Int.emod_lt_of_pos _ h0) ⟨n, m, c + 1, rfl, hn, hm, hm2, by omega, by omega⟩
theorem c_of {B : Nat} {ds : List D} {T : List D} {P : D → List D → Prop} (hT : TOk B T) (hB : B ≤ 100000) (h0 : 0 < ds.length) (h1 : ds.length < 1000000) (p : ∀ d ∈ ds, ∀ T', TOk (B + 1) T' → P d T') : Ex (F_law_of [.dict [], .list ds] T) P := by
  unfold F_law_of g_law_of
  walk_at "evb"
  walk_at "ev"
  refine c_take hT hB (by omega) (by omega) fun v T' hv0 hv1 hT' => ?_
  obtain ⟨j, rfl⟩ : ∃ j : Nat, v = (j : Nat) := ⟨v.toNat, by omega⟩
  have hv : j < ds.length := by omega
  refine ⟨ds[j], ?_, p _ (List.getElem_mem hv) T' hT'⟩
  show atI ds (j : Nat) = some _
  exact atI_nat (List.getElem?_eq_getElem hv)
theorem short_go (x : Zw) (k : Nat) : short x k = shortGo k x := by
  unfold short
  split
  · rename_i h
    subst h
    have : ∀ j : Nat, shortGo j Zw.zero = ⟨Zw.zero, 0⟩ := fun j => by
      induction j with
      | zero => rfl
      | succ j ih =>
        rw [shortGo_succ, if_pos (by decide)]
        exact ih
    exact (this k).symm
  · rfl
local macro_rules | `(tactic| walk_at "ev2") => `(tactic| ((with_reducible show ∃ _, opEq (.tuple [.int _, .int _, .int _, .int _]) (.tuple [.int _, .int _, .int _, .int _]) = some _ ∧ _); refine ⟨_, eq_nums _ _ _ _ _ _ _ _, ?_⟩))
theorem ne_nums (a b c d e f g h : Int) : opNe (.tuple [.int a, .int b, .int c, .int d]) (.tuple [.int e, .int f, .int g, .int h]) = some (.bool (!decide (a = e ∧ b = f ∧ c = g ∧ d = h))) := by
  rw [ne_any rfl rfl]
  have q := eq_nums a b c d e f g h
  rw [eq_any rfl rfl] at q
  injection q with q
  injection q with q
  rw [q]
local macro_rules | `(tactic| walk_at "ev2") => `(tactic| ((with_reducible show ∃ _, opNe (.tuple [.int _, .int _, .int _, .int _]) (.tuple [.int _, .int _, .int _, .int _]) = some _ ∧ _); refine ⟨_, ne_nums _ _ _ _ _ _ _ _, ?_⟩))
theorem c_lray {a b c d k : Int} {T : List D} {P : D → List D → Prop} (hk : 0 ≤ k) (p : P (rayD (short ⟨a, b, c, d⟩ k.toNat)) T) : Ex (F_law_ray [.int a, .int b, .int c, .int d, .int k] T) P := by
  unfold F_law_ray g_law_ray
  walk_at "evb"
  walk_at "ev"
  refine w_wh ?_
  refine w_whinv (fun m ρ T' => T' = T ∧ ∃ a' b' c' d' : Int, ∃ z5 z6 z7 z8 : Sl, ρ = [.sh (.int a'), .sh (.int b'), .sh (.int c'), .sh (.int d'), .sh (.int (m : Nat)), z5, z6, z7, z8] ∧ shortGo m ⟨a', b', c', d'⟩ = shortGo k.toNat ⟨a, b, c, d⟩) ?_ (m := k.toNat) ?_ ⟨rfl, a, b, c, d, .no, .no, .no, .no, by rw [Int.toNat_of_nonneg hk], rfl⟩
  · rintro m ρ T' ⟨rfl, a', b', c', d', z5, z6, z7, z8, rfl, hm⟩
    rw [short_go, ← hm] at p
    have fin : (m = 0 ∨ ev ⟨a', b', c', d'⟩ = false) → ∀ K : Fl → List D → Prop, (∀ d T, P d T → K (.rt d) T) → Ex ((sRet (dIf (dUn asBool (dBin opNe (dTup (dCons (dVar 0) (dCons (dVar 1) (dCons (dVar 2) (dCons (dVar 3) dNil))))) (dTup (dCons (dC (.int 0)) (dCons (dC (.int 0)) (dCons (dC (.int 0)) (dCons (dC (.int 0)) dNil))))))) (dTup (dCons (dVar 0) (dCons (dVar 1) (dCons (dVar 2) (dCons (dVar 3) (dCons (dVar 4) dNil)))))) (dTup (dCons (dC (.int 0)) (dCons (dC (.int 0)) (dCons (dC (.int 0)) (dCons (dC (.int 0)) (dCons (dC (.int 0)) dNil)))))))) [.sh (.int a'), .sh (.int b'), .sh (.int c'), .sh (.int d'), .sh (.int (m : Nat)), z5, z6, z7, z8] T') K := fun hc K hK => by
      have hg : shortGo m ⟨a', b', c', d'⟩ = ⟨⟨a', b', c', d'⟩, m⟩ := by
        cases m with
        | zero => rfl
        | succ j =>
          rw [shortGo_succ, if_neg]
          rcases hc with q | q
          · omega
          · rw [q]; exact Bool.false_ne_true
      rw [hg] at p
      walk_at "ev"
      refine ite_s (fun hz => ?_) (fun hz => ?_)
      · walk_at "ev"
        exact hK _ _ p
      · rw [Bool.not_eq_false'] at hz
        obtain ⟨rfl, rfl, rfl, rfl⟩ := of_decide_eq_true hz
        have hm0 : m = 0 := by
          rcases hc with q | q
          · exact q
          · exact absurd q (by decide)
        subst hm0
        walk_at "ev"
        exact hK _ _ p
    walk_at "ev"
    refine ite_s (fun h1 => ?_) (fun h1 => ?_)
    · have h1 := of_decide_eq_true h1
      obtain ⟨j, rfl⟩ : ∃ j, m = j + 1 := ⟨m - 1, by omega⟩
      walk_at "ev"
      refine ite_s (fun h2 => ?_) (fun h2 => ?_)
      · have h2 := of_decide_eq_true h2
        walk_at "ev"
        refine ite_s (fun h3 => ?_) (fun h3 => ?_)
        · have h3 := of_decide_eq_true h3
          walk_at "ev"
          have ej : ((j + 1 : Nat) : Int) - 1 = (j : Nat) := by omega
          refine ⟨j, Nat.lt_succ_self j, rfl, (b' - d') / 2, (a' + c') / 2, (b' + d') / 2, (c' - a') / 2, _, _, _, _, by rw [ej], ?_⟩
          rw [← hm, shortGo_succ, if_pos (ev_iff.mpr ⟨h2, h3⟩)]
          rfl
        · have h3 := of_decide_eq_false h3
          exact fin (.inr (by rw [← Bool.not_eq_true]; exact fun q => h3 (ev_iff.mp q).2)) _ fun _ _ h => h
      · have h2 := of_decide_eq_false h2
        refine ite_f rfl ?_
        exact fin (.inr (by rw [← Bool.not_eq_true]; exact fun q => h2 (ev_iff.mp q).1)) _ fun _ _ h => h
    · have h1 := of_decide_eq_false h1
      refine ite_f rfl ?_
      exact fin (.inl (by omega)) _ fun _ _ h => h
  · show k.toNat < k.toNat + 1
    omega
theorem c_lprod {m n : Nat} {r s : Ray} {T : List D} {P : D → List D → Prop} (h : Bd m r.x) (g : Bd n s.x) (hl : m + n ≤ 900000) (p : P (rayD (rprod r s)) T) : Ex (F_law_ray_prod [rayD r, rayD s] T) P := by
  have m1 := mulC_sm h.a g.a hl
  have m2 := mulC_sm h.a g.b hl
  have m3 := mulC_sm h.a g.c hl
  have m4 := mulC_sm h.a g.d hl
  have m5 := mulC_sm h.b g.a hl
  have m6 := mulC_sm h.b g.b hl
  have m7 := mulC_sm h.b g.c hl
  have m8 := mulC_sm h.b g.d hl
  have m9 := mulC_sm h.c g.a hl
  have m10 := mulC_sm h.c g.b hl
  have m11 := mulC_sm h.c g.c hl
  have m12 := mulC_sm h.c g.d hl
  have m13 := mulC_sm h.d g.a hl
  have m14 := mulC_sm h.d g.b hl
  have m15 := mulC_sm h.d g.c hl
  have m16 := mulC_sm h.d g.d hl
  unfold F_law_ray_prod g_law_ray_prod rayD
  walk_at "evb"
  walk_at "ev"
  refine c_lray ?hk ?_; (case hk => omega)
  rw [show ((r.k : Int) + (s.k : Int)).toNat = r.k + s.k by omega]
  exact p
end K01
set_option Elab.async false
set_option linter.all false
set_option maxRecDepth 100000
set_option maxHeartbeats 4000000
namespace K01
open PySem PySem.Spec PyProof.Rows L2 DL RM RM.Zw
local macro_rules | `(tactic| walk_at "ev1") => `(tactic| (with_reducible first
  | refine w_seq ?_ | refine k_rt ?_ | refine w_ret ?_ | refine w_set ?_ | refine w_asg ?_ | refine w_sif ?_ | refine w_snil ?_ | refine w_par ?_ | refine w_par3 ?_ | refine w_retN ?_ | refine w_expr ?_ | refine w_setO ?_ | refine w_for ?_ | refine kf_nx ?_ | refine kf_rt ?_ | refine kf_ct ?_
  | refine w_bin ?_ | refine w_un ?_ | refine w_c ?_ | refine w_nil ?_ | refine w_cons ?_ | refine w_tup ?_ | refine w_lst ?_ | refine w_ofF ?_ | refine w_ix ?_ | refine w_sl ?_ | refine w_nopart ?_ | refine w_and ?_ | refine w_or ?_ | refine w_not ?_ | refine w_andV ?_ | refine w_orV ?_ | refine w_if ?_ | refine w_call ?_ | refine w_isi ?_ | refine w_lc ?_ | refine w_yes ?_ | refine w_lcnil ?_))
local macro_rules | `(tactic| walk_at "ev2") => `(tactic| first
  | walk_at "ev1"
  | ((with_reducible refine k_nx ?_); (try dsimp only [List.set_cons_succ, List.set_cons_zero]))
  | ((with_reducible show Ex (dVar _ _ _) _); refine w_var rfl ?_)
  | ((with_reducible show Ex (sAug _ _ _ _ _) _); refine w_aug rfl ?_)
  | ((with_reducible show Ex (sApp _ _ _ _) _); refine w_app rfl ?_)
  | ((with_reducible show Ex (sTin _ _ _ _ _) _); refine w_tin rfl ?_)
  | (with_reducible refine ⟨_, eq_int _ _, ?_⟩)
  | (with_reducible refine ⟨_, ne_int _ _, ?_⟩)
  | (with_reducible refine ⟨_, mul_ok (by assumption), ?_⟩)
  | (with_reducible refine ⟨_, fdiv_ok (by decide), ?_⟩)
  | (with_reducible refine ⟨_, mod_ok (by decide), ?_⟩)
  | (with_reducible refine ⟨_, fdiv_ok (by assumption), ?_⟩)
  | (with_reducible refine ⟨_, mod_ok (by assumption), ?_⟩)
  | ((with_reducible show small _ = true ∧ _); refine ⟨rfl, ?_⟩)
  | ((with_reducible show ∃ _ _, [_, _] = [_, _] ∧ _); refine ⟨_, _, rfl, ?_⟩)
  | ((with_reducible show ∃ _ _ _, [_, _, _] = [_, _, _] ∧ _); refine ⟨_, _, _, rfl, ?_⟩)
  | ((with_reducible show ∃ _, PyData.bool _ = PyData.bool _ ∧ _); refine ⟨_, rfl, ?_⟩)
  | ((with_reducible show ∃ _, _ = some _ ∧ _); refine ⟨_, (rfl : _ = some _), ?_⟩)
  | fail)
local macro_rules | `(tactic| walk_at "ev") => `(tactic| ((repeat' (walk_at "ev2")); (try dsimp only [List.set_cons_succ, List.set_cons_zero])))
local macro_rules | `(tactic| walk_at "evb") => `(tactic| (refine w_body rfl ?_; simp only [ρ0, List.map_cons, List.map_nil, List.length_cons, List.length_nil, List.replicate_succ, List.replicate_zero, Nat.reduceAdd, Nat.reduceSub, List.cons_append, List.nil_append]))
def okS : Nat → D → Prop
  | 0, _ => False
  | n + 1, .int _ => True
  | n + 1, .bool _ => True
  | n + 1, .tuple xs => small xs.length = true ∧ ∀ x ∈ xs, okS n x
  | n + 1, .list xs => small xs.length = true ∧ ∀ x ∈ xs, okS n x
  | _, _ => False
theorem okS_ray (r : Ray) : okS 2 (rayD r) := by
  unfold rayD
  refine ⟨rfl, ?_⟩
  intro x hx
  simp only [List.mem_cons, List.not_mem_nil, or_false] at hx
  rcases hx with rfl | rfl | rfl | rfl | rfl <;> trivial
theorem zip_self (f : D → D) : ∀ xs : List D, ((xs.zip xs).map fun p => PyData.tuple [p.1, p.2]) = xs.map fun x => .tuple [x, x]
  | [] => rfl
  | x :: xs => by
    show _ :: _ = _ :: _
    rw [← zip_self f xs]
    rfl
theorem all_true : ∀ n : Nat, allBool (List.replicate n (.bool true)) = some (List.replicate n true)
  | 0 => rfl
  | n + 1 => by
    show (allBool (List.replicate n (.bool true))).map (true :: ·) = _
    rw [all_true n]
    rfl
theorem bAll_true (xs : List D) : bAll [.list (xs.map fun _ => .bool true)] = some (.bool true) := by
  have e : (xs.map fun _ => (PyData.bool true : D)) = List.replicate xs.length (.bool true) := List.map_const' ..
  rw [e]
  show (allBool _).map _ = _
  rw [all_true]
  have : ∀ n : Nat, ((List.replicate n true).all id) = true := fun n => by
    induction n with
    | zero => rfl
    | succ n ih => rw [List.replicate_succ, List.all_cons, ih]; rfl
  simp only [Option.map_some]
  rw [this]
theorem same_ok : ∀ (n : Nat) (d : D) (T : List D), okS n d → F_law_same_ n [d, d] T = some (.bool true, T)
  | 0, _, _, h => h.elim
  | n + 1, d, T, h => by
    have key : Ex (F_law_same_ (n + 1) [d, d] T) fun v T' => v = .bool true ∧ T' = T := by
      unfold F_law_same_ g_law_same
      walk_at "evb"
      cases d with
      | int i =>
        walk_at "ev"
        refine ite_f rfl ?_
        walk_at "ev"
        refine ite_f rfl ?_
        walk_at "ev"
        refine ite_f rfl ?_
        walk_at "ev"
        refine ite_t rfl ?_
        walk_at "ev"
        refine ite_t rfl ?_
        walk_at "ev"
        exact ⟨by rw [decide_eq_true rfl], rfl⟩
      | bool b =>
        walk_at "ev"
        refine ite_f rfl ?_
        walk_at "ev"
        refine ite_f rfl ?_
        walk_at "ev"
        refine ite_t rfl ?_
        walk_at "ev"
        refine ite_t (by cases b <;> rfl) ?_
        walk_at "ev"
        refine ite_t rfl ?_
        walk_at "ev"
        exact ⟨rfl, rfl⟩
      | tuple xs =>
        obtain ⟨h1, h2⟩ := h
        walk_at "ev"
        refine ite_t rfl ?_
        walk_at "ev"
        refine ite_f rfl ?_
        walk_at "ev"
        refine ite_f rfl ?_
        walk_at "ev"
        refine ite_t (decide_eq_true rfl) ?_
        walk_at "ev"
        rw [zip_self id]
        refine ⟨by rw [List.length_map]; exact h1, ?_⟩
        refine w_lcmap (g := fun _ => .bool true) (fun x hx => ?_) ?_
        · obtain ⟨y, hy, rfl⟩ := List.mem_map.mp hx
          refine ⟨_, rfl, ?_⟩
          obtain ⟨a, T', e, rfl, rfl⟩ := show Ex (dCall (F_law_same_ n) (dCons (dVar 2) (dCons (dVar 3) dNil)) [.sh (.tuple xs), .sh (.tuple xs), .sh y, .sh y] T) (fun v T' => v = .bool true ∧ T' = T) by
            walk_at "ev"
            exact ⟨_, _, same_ok n y T (h2 y hy), rfl, rfl⟩
          exact e
        walk_at "ev"
        rw [List.map_map]
        exact ⟨_, bAll_true _, rfl, rfl⟩
      | list xs =>
        obtain ⟨h1, h2⟩ := h
        walk_at "ev"
        refine ite_t rfl ?_
        walk_at "ev"
        refine ite_f rfl ?_
        walk_at "ev"
        refine ite_f rfl ?_
        walk_at "ev"
        refine ite_t (decide_eq_true rfl) ?_
        walk_at "ev"
        rw [zip_self id]
        refine ⟨by rw [List.length_map]; exact h1, ?_⟩
        refine w_lcmap (g := fun _ => .bool true) (fun x hx => ?_) ?_
        · obtain ⟨y, hy, rfl⟩ := List.mem_map.mp hx
          refine ⟨_, rfl, ?_⟩
          obtain ⟨a, T', e, rfl, rfl⟩ := show Ex (dCall (F_law_same_ n) (dCons (dVar 2) (dCons (dVar 3) dNil)) [.sh (.list xs), .sh (.list xs), .sh y, .sh y] T) (fun v T' => v = .bool true ∧ T' = T) by
            walk_at "ev"
            exact ⟨_, _, same_ok n y T (h2 y hy), rfl, rfl⟩
          exact e
        walk_at "ev"
        rw [List.map_map]
        exact ⟨_, bAll_true _, rfl, rfl⟩
      | _ => exact h.elim
    obtain ⟨a, T', e, rfl, rfl⟩ := key
    exact e
theorem okS_mono : ∀ (n : Nat) (d : D), okS n d → okS (n + 1) d
  | 0, _, h => h.elim
  | n + 1, d, h => by
    cases d with
    | int i => trivial
    | bool b => trivial
    | tuple xs => exact ⟨h.1, fun x hx => okS_mono n x (h.2 x hx)⟩
    | list xs => exact ⟨h.1, fun x hx => okS_mono n x (h.2 x hx)⟩
    | _ => exact h.elim
theorem c_same {d e : D} {T : List D} {P : D → List D → Prop} (he : d = e) (h : okS 3 d) (p : P (.bool true) T) : Ex (F_law_same [d, e] T) P := by
  subst he
  exact ⟨_, _, same_ok 8 d T (okS_mono _ _ (okS_mono _ _ (okS_mono _ _ (okS_mono _ _ (okS_mono _ _ h))))), p⟩
end K01
set_option Elab.async false
set_option linter.all false
set_option maxRecDepth 100000
set_option maxHeartbeats 4000000
namespace K01
open PySem PySem.Spec PyProof.Rows L2 DL RM RM.Zw
local macro_rules | `(tactic| walk_at "ev1") => `(tactic| (with_reducible first
  | refine w_seq ?_ | refine k_rt ?_ | refine w_ret ?_ | refine w_set ?_ | refine w_asg ?_ | refine w_sif ?_ | refine w_snil ?_ | refine w_par ?_ | refine w_par3 ?_ | refine w_retN ?_ | refine w_expr ?_ | refine w_setO ?_ | refine w_for ?_ | refine kf_nx ?_ | refine kf_rt ?_ | refine kf_ct ?_
  | refine w_bin ?_ | refine w_un ?_ | refine w_c ?_ | refine w_nil ?_ | refine w_cons ?_ | refine w_tup ?_ | refine w_lst ?_ | refine w_ofF ?_ | refine w_ix ?_ | refine w_sl ?_ | refine w_nopart ?_ | refine w_and ?_ | refine w_or ?_ | refine w_not ?_ | refine w_andV ?_ | refine w_orV ?_ | refine w_if ?_ | refine w_call ?_ | refine w_isi ?_ | refine w_lc ?_ | refine w_yes ?_ | refine w_lcnil ?_))
local macro_rules | `(tactic| walk_at "ev2") => `(tactic| first
  | walk_at "ev1"
  | ((with_reducible refine k_nx ?_); (try dsimp only [List.set_cons_succ, List.set_cons_zero]))
  | ((with_reducible show Ex (dVar _ _ _) _); refine w_var rfl ?_)
  | ((with_reducible show Ex (sAug _ _ _ _ _) _); refine w_aug rfl ?_)
  | ((with_reducible show Ex (sApp _ _ _ _) _); refine w_app rfl ?_)
  | ((with_reducible show Ex (sTin _ _ _ _ _) _); refine w_tin rfl ?_)
  | (with_reducible refine ⟨_, eq_int _ _, ?_⟩)
  | (with_reducible refine ⟨_, ne_int _ _, ?_⟩)
  | (with_reducible refine ⟨_, mul_ok (by assumption), ?_⟩)
  | (with_reducible refine ⟨_, fdiv_ok (by decide), ?_⟩)
  | (with_reducible refine ⟨_, mod_ok (by decide), ?_⟩)
  | (with_reducible refine ⟨_, fdiv_ok (by assumption), ?_⟩)
  | (with_reducible refine ⟨_, mod_ok (by assumption), ?_⟩)
  | ((with_reducible show small _ = true ∧ _); refine ⟨rfl, ?_⟩)
  | ((with_reducible show ∃ _ _, [_, _] = [_, _] ∧ _); refine ⟨_, _, rfl, ?_⟩)
  | ((with_reducible show ∃ _ _ _, [_, _, _] = [_, _, _] ∧ _); refine ⟨_, _, _, rfl, ?_⟩)
  | ((with_reducible show ∃ _, PyData.bool _ = PyData.bool _ ∧ _); refine ⟨_, rfl, ?_⟩)
  | ((with_reducible show ∃ _, _ = some _ ∧ _); refine ⟨_, (rfl : _ = some _), ?_⟩)
  | fail)
local macro_rules | `(tactic| walk_at "ev") => `(tactic| ((repeat' (walk_at "ev2")); (try dsimp only [List.set_cons_succ, List.set_cons_zero])))
local macro_rules | `(tactic| walk_at "evb") => `(tactic| (refine w_body rfl ?_; simp only [ρ0, List.map_cons, List.map_nil, List.length_cons, List.length_nil, List.replicate_succ, List.replicate_zero, Nat.reduceAdd, Nat.reduceSub, List.cons_append, List.nil_append]))
/-! the law's own sums -/
theorem lat_loop {s0 s1 s6 : Sl} {T : List D} {Q : Fl → List D → Prop} : ∀ (items : List D) (x : Zw) (z7 z8 z6 : Sl), (∀ z6 z7 z8, Q (.nx [s0, s1, .sh (.int (ps items.length x).a), .sh (.int (ps items.length x).b), .sh (.int (ps items.length x).c), .sh (.int (ps items.length x).d), z6, z7, z8]) T) →
    Ex (forGo (tgN 6) (sSeq (sPar 7 8 (dCons (dBin opSub (dVar 3) (dVar 5)) (dCons (dBin opAdd (dVar 2) (dVar 4)) dNil))) (sSeq (sPar 4 5 (dCons (dBin opAdd (dVar 3) (dVar 5)) (dCons (dBin opSub (dVar 4) (dVar 2)) dNil))) (sPar 2 3 (dCons (dVar 7) (dCons (dVar 8) dNil))))) items [s0, s1, .sh (.int x.a), .sh (.int x.b), .sh (.int x.c), .sh (.int x.d), z6, z7, z8] T) Q
  | [], x, z7, z8, z6, q => w_fornil (q z6 z7 z8)
  | v :: items, x, z7, z8, z6, q => by
    refine w_forcons ⟨_, rfl, ?_⟩
    dsimp only [List.set_cons_succ, List.set_cons_zero]
    walk_at "ev"
    exact lat_loop (s6 := s6) items (ms x) _ _ _ fun y6 y7 y8 => q y6 y7 y8
theorem c_lat {r : Ray} {k : Nat} {T : List D} {P : D → List D → Prop} (hk : r.k ≤ k) (hl : k ≤ 100000) (p : P (numsD (ps (k - r.k) r.x)) T) : Ex (F_law_at [rayD r, .int (k : Nat)] T) P := by
  unfold F_law_at g_law_at rayD
  walk_at "evb"
  walk_at "ev"
  refine ⟨_, rng1 (by omega) (by omega), ?_⟩
  refine lat_loop (s6 := .no) _ r.x _ _ _ fun z6 z7 z8 => ?_
  rw [List.length_map, List.length_range, show ((k : Int) - (r.k : Nat)).toNat = k - r.k by omega]
  walk_at "ev"
  exact p
theorem c_lsum {r s : Ray} {T : List D} {P : D → List D → Prop} (hr : r.k ≤ 100000) (hs : s.k ≤ 100000) (p : P (rayD (rsum r s)) T) : Ex (F_law_ray_sum [rayD r, rayD s] T) P := by
  unfold F_law_ray_sum g_law_ray_sum
  walk_at "evb"
  walk_at "ev"
  rw [show (if ((s.k : Nat) : Int) > (r.k : Nat) then ((s.k : Nat) : Int) else (r.k : Nat)) = ((max r.k s.k : Nat) : Int) by split <;> omega]
  refine c_lat (by omega) (by omega) ?_
  walk_at "ev"
  refine c_lat (by omega) (by omega) ?_
  walk_at "ev"
  show Ex (lcGo _ _ _ _ [.int 0, .int 1, .int 2, .int 3] _) _
  refine w_lccons ⟨_, rfl, w_yes ?_⟩
  refine ite_t rfl ?_
  walk_at "ev"
  refine w_lccons ⟨_, rfl, w_yes ?_⟩
  refine ite_t rfl ?_
  walk_at "ev"
  refine w_lccons ⟨_, rfl, w_yes ?_⟩
  refine ite_t rfl ?_
  walk_at "ev"
  refine w_lccons ⟨_, rfl, w_yes ?_⟩
  refine ite_t rfl ?_
  walk_at "ev"
  refine c_lray (by omega) ?_
  exact p
theorem c_lminus {r : Ray} {T : List D} {P : D → List D → Prop} (p : P (rayD ⟨-r.x, r.k⟩) T) : Ex (F_law_ray_minus [rayD r] T) P := by
  unfold F_law_ray_minus g_law_ray_minus rayD
  walk_at "evb"
  walk_at "ev"
  exact p
theorem S_nn {x y : Int} (h : (0 ≤ x ∧ 0 ≤ y) ∨ (x ≤ 0 ∧ y ≤ 0)) : RS.S x y = (if (decide (0 < x) || decide (0 < y)) = true then 1 else 0) - (if (decide (x < 0) || decide (y < 0)) = true then 1 else 0) := by
  have mm : ∀ i : Int, 0 < i → 0 < i * i := fun i h => Int.mul_pos h h
  have mn : ∀ i : Int, i < 0 → 0 < i * i := fun i h => Int.mul_pos_of_neg_of_neg h h
  rcases RS.S_cases x y with ⟨q, p⟩ | ⟨q, p⟩ | ⟨q, rfl, rfl⟩
  · rw [q]
    rcases h with ⟨h1, h2⟩ | ⟨h1, h2⟩
    · have : 0 < x ∨ 0 < y := by
        refine Classical.byContradiction fun z => p.ne ⟨by omega, by omega⟩
      rw [if_pos (by simpa using this), if_neg (by simp; omega)]
      rfl
    · exact (p.not (RS.good0 (by omega) (by omega) fun z => p.ne ⟨by omega, by omega⟩)).elim
  · rw [q]
    rcases h with ⟨h1, h2⟩ | ⟨h1, h2⟩
    · refine (RS.Pos.not (x := x) (y := y) (RS.good0 h1 h2 fun z => p.ne ⟨by omega, by omega⟩) p).elim
    · have : x < 0 ∨ y < 0 := by
        refine Classical.byContradiction fun z => p.ne ⟨by omega, by omega⟩
      rw [if_neg (by simp; omega), if_pos (by simpa using this)]
      rfl
  · rw [q]
    rfl
theorem S_far {x y : Int} (h : ¬ ((0 ≤ x ∧ 0 ≤ y) ∨ (x ≤ 0 ∧ y ≤ 0))) : RS.S x y = ((if decide (0 < x * x - 2 * y * y) = true then 1 else 0) - (if decide (x * x - 2 * y * y < 0) = true then 1 else 0)) * (if decide (0 < x) = true then 1 else -1) := by
  unfold RS.S RS.sg RS.vl RS.ab
  by_cases hx : x < 0
  · rw [if_pos hx, if_neg (show ¬ y < 0 by omega), if_neg (show ¬ decide (0 < x) = true by simp; omega)]
    have e : x * -x + 2 * y * y = -(x * x - 2 * y * y) := by grind
    rw [e]
    generalize x * x - 2 * y * y = f
    by_cases h0 : f = 0
    · subst h0; rfl
    · by_cases h1 : 0 < f
      · rw [if_neg (by omega), if_neg (by omega), if_pos (by simpa using h1), if_neg (by simp; omega)]; rfl
      · rw [if_neg (by omega), if_pos (by omega), if_neg (by simpa using h1), if_pos (by simp; omega)]; rfl
  · rw [if_neg hx, if_pos (show y < 0 by omega), if_pos (show decide (0 < x) = true by simp; omega)]
    have e : x * x + 2 * y * -y = x * x - 2 * y * y := by grind
    rw [e]
    generalize x * x - 2 * y * y = f
    by_cases h0 : f = 0
    · subst h0; rfl
    · by_cases h1 : 0 < f
      · rw [if_neg (by omega), if_pos h1, if_pos (by simpa using h1), if_neg (by simp; omega)]; rfl
      · rw [if_neg (by omega), if_neg h1, if_neg (by simpa using h1), if_pos (by simp; omega)]; rfl
theorem c_lsign {n : Nat} {r : Ray} {T : List D} {P : D → List D → Prop} (h : Bd n r.x) (hl : n ≤ 400000) (p : P (.int (sv r.x)) T) : Ex (F_law_sign [rayD r] T) P := by
  have m1 := mulC_sm h.a h.a (by omega)
  have s2 : Sm 2 (2 : Int) := by unfold Sm; omega
  have m2 := mulC_sm s2 h.b (by omega)
  have m3 : mulC (2 * r.x.b) r.x.b = true := mulC_sm (m := n + 1) (by have q := h.b.add h.b; rw [show r.x.b + r.x.b = 2 * r.x.b by omega] at q; exact q) h.b (by omega)
  unfold F_law_sign g_law_sign rayD
  walk_at "evb"
  have k1 : ∀ i, i = sv r.x → P (.int i) T := fun i e => by rw [e]; exact p
  repeat' first | walk_at "ev2" | refine ite_s (fun h => ?_) (fun h => ?_)
  all_goals simp only [decide_eq_true_eq, decide_eq_false_iff_not, Bool.false_eq_true, reduceCtorEq] at *
  all_goals try (refine ⟨_, mul_ok (mulC_of (by constructor <;> (repeat' split) <;> omega) (by omega)), ?_⟩)
  all_goals first | omega | refine k1 _ ?_
  all_goals show _ = RS.S r.x.a r.x.b
  all_goals first | rw [S_nn (by omega)] | rw [S_far (by omega)]
  all_goals simp only [decide_eq_true_eq, Bool.or_eq_true]
  all_goals repeat' split
  all_goals first | omega | rfl
theorem c_small {r : Ray} {T : List D} {P : D → List D → Prop} (p : ∀ b, P (.bool b) T) : Ex (F_law_small [rayD r] T) P := by
  unfold F_law_small g_law_small rayD
  walk_at "evb"
  walk_at "ev"
  show Ex (lcGo _ _ _ _ [.int r.x.a, .int r.x.b, .int r.x.c, .int r.x.d] _) _
  refine w_lccons ⟨_, rfl, w_yes ?_⟩
  refine ite_t rfl ?_
  walk_at "ev"
  refine w_lccons ⟨_, rfl, w_yes ?_⟩
  refine ite_t rfl ?_
  walk_at "ev"
  refine w_lccons ⟨_, rfl, w_yes ?_⟩
  refine ite_t rfl ?_
  walk_at "ev"
  refine w_lccons ⟨_, rfl, w_yes ?_⟩
  refine ite_t rfl ?_
  walk_at "ev"
  refine ite_s (fun _ => ?_) (fun _ => ?_)
  · walk_at "ev"
    exact p _
  · exact p _
structure Ok (r : Ray) : Prop where
  can : Can r
  rl : Rl r.x
  bd : Bd 60 r.x
  k : r.k ≤ 30
theorem sm60 {i : Int} (h : -1152921504606846976 < i ∧ i < 1152921504606846976) : Sm 60 i := by
  unfold Sm
  omega
theorem ok_of {x y : Int} (hx : -1152921504606846976 < x ∧ x < 1152921504606846976) (hy : -1152921504606846976 < y ∧ y < 1152921504606846976) {k : Nat} (hk : k ≤ 30) : Ok (short ⟨x, y, 0, -y⟩ k) :=
  ⟨short_can _ _, Rl.short ⟨rfl, rfl⟩ k, Bd.short ⟨sm60 hx, sm60 hy, sm60 (i := (0 : Int)) ⟨by decide, by decide⟩, sm60 (i := -y) ⟨by show _ < -y; omega, by show -y < _; omega⟩⟩, Nat.le_trans (short_k _ _) hk⟩
theorem root_loop {s0 s1 : Sl} {T : List D} {Q : Fl → List D → Prop} : ∀ (items : List D) (B : Nat) (x y : Int) (z : Sl), B + items.length ≤ 29 → 0 ≤ x → x ≤ 3 ^ B → 0 ≤ y → y ≤ 3 ^ B →
    (∀ x y z, 0 ≤ x → x ≤ 3 ^ 29 → 0 ≤ y → y ≤ 3 ^ 29 → Q (.nx [s0, s1, .sh (.int x), .sh (.int y), z]) T) →
    Ex (forGo (tgN 4) (sPar 2 3 (dCons (dBin opAdd (dVar 2) (dBin opMul (dC (.int 2)) (dVar 3))) (dCons (dBin opAdd (dVar 2) (dVar 3)) dNil))) items [s0, s1, .sh (.int x), .sh (.int y), z] T) Q
  | [], B, x, y, z, hB, h1, h2, h3, h4, q => by
    have e : (3 : Int) ^ B ≤ 3 ^ 29 := by
      have : (3 : Nat) ^ B ≤ 3 ^ 29 := Nat.pow_le_pow_right (by decide) (by simpa using hB)
      exact_mod_cast this
    exact w_fornil (q x y z h1 (by omega) h3 (by omega))
  | v :: items, B, x, y, z, hB, h1, h2, h3, h4, q => by
    rw [List.length_cons] at hB
    have e : (3 : Int) ^ B ≤ 3 ^ 29 := by
      have : (3 : Nat) ^ B ≤ 3 ^ 29 := Nat.pow_le_pow_right (by decide) (by omega)
      exact_mod_cast this
    have e3 : (3 : Int) ^ (B + 1) = 3 * 3 ^ B := by rw [Int.pow_succ, Int.mul_comm]
    have m : mulC 2 y = true := mulC_of (by omega) (by omega)
    refine w_forcons ⟨_, rfl, ?_⟩
    dsimp only [List.set_cons_succ, List.set_cons_zero]
    walk_at "ev"
    exact root_loop items (B + 1) _ _ _ (by omega) (by omega) (by omega) (by omega) (by omega) q
theorem c_drawn {B : Nat} {T : List D} {P : D → List D → Prop} (hT : TOk B T) (hB : B ≤ 90000) (p : ∀ r T', Ok r → TOk (B + 8) T' → P (rayD r) T') : Ex (F_law_drawn [.dict []] T) P := by
  unfold F_law_drawn g_law_drawn
  walk_at "evb"
  walk_at "ev"
  refine c_take hT (by omega) (by decide) (by decide) fun v T1 hv0 hv1 hT => ?_
  walk_at "ev"
  have fin : ∀ (B' : Nat) (x y : Int) (T2 : List D) (ρ : List Sl), B' ≤ B + 7 → TOk B' T2 → -1152921504606846976 < x ∧ x < 1152921504606846976 → -1152921504606846976 < y ∧ y < 1152921504606846976 →
      Ex (F_law_of [.dict [], .list [.int 0, .int 0, .int 1, .int 2, .int 7, .int 30]] T2) fun x1 T1 => Ex (dNil ρ T1) fun xs T2 => Ex (F_law_ray (.int x :: .int y :: .int 0 :: .int (-y) :: x1 :: xs) T2) fun d T1 => P d T1 := fun B' x y T2 ρ hB' hT hx hy => by
    refine c_of hT (by omega) (by decide) (by decide) fun d hd T3 hT => ?_
    obtain ⟨k, rfl, hk⟩ : ∃ k : Nat, d = .int (k : Nat) ∧ k ≤ 30 := by
      simp only [List.mem_cons, List.not_mem_nil, or_false] at hd
      rcases hd with rfl | rfl | rfl | rfl | rfl | rfl
      · exact ⟨0, rfl, by decide⟩
      · exact ⟨0, rfl, by decide⟩
      · exact ⟨1, rfl, by decide⟩
      · exact ⟨2, rfl, by decide⟩
      · exact ⟨7, rfl, by decide⟩
      · exact ⟨30, rfl, by decide⟩
    walk_at "ev"
    refine c_lray (by omega) ?_
    exact p _ _ (ok_of hx hy (by omega)) (hT.mono (by omega))
  refine ite_s (fun h1 => ?_) (fun h1 => ?_)
  · walk_at "ev"
    refine c_take hT (by omega) (by decide) (by decide) fun m T2 hm0 hm1 hT => ?_
    walk_at "ev"
    refine ⟨_, rng1 (by omega) (by omega), ?_⟩
    refine root_loop _ 0 1 1 _ (by rw [List.length_map, List.length_range]; omega) (by decide) (by decide) (by decide) (by decide) fun x y z hx hx2 hy hy2 => ?_
    walk_at "ev"
    refine c_take hT (by omega) (by decide) (by decide) fun u T3 hu0 hu1 hT => ?_
    walk_at "ev"
    refine ite_s (fun h2 => ?_) (fun h2 => ?_)
    · walk_at "ev"
      exact fin _ _ _ _ _ (by omega) hT ⟨by omega, by omega⟩ ⟨by omega, by omega⟩
    · walk_at "ev"
      exact fin _ _ _ _ _ (by omega) hT ⟨by omega, by omega⟩ ⟨by omega, by omega⟩
  · walk_at "ev"
    refine ite_s (fun h2 => ?_) (fun h2 => ?_)
    · walk_at "ev"
      refine c_take hT (by omega) (by decide) (by decide) fun x T2 hx0 hx1 hT => ?_
      walk_at "ev"
      refine c_take hT (by omega) (by decide) (by decide) fun y T3 hy0 hy1 hT => ?_
      walk_at "ev"
      exact fin _ _ _ _ _ (by omega) hT ⟨by omega, by omega⟩ ⟨by omega, by omega⟩
    · walk_at "ev"
      refine c_take hT (by omega) (by decide) (by decide) fun x T2 hx0 hx1 hT => ?_
      walk_at "ev"
      refine c_take hT (by omega) (by decide) (by decide) fun y T3 hy0 hy1 hT => ?_
      walk_at "ev"
      exact fin _ _ _ _ _ (by omega) hT ⟨by omega, by omega⟩ ⟨by omega, by omega⟩
end K01
set_option Elab.async false
set_option linter.all false
set_option maxRecDepth 100000
set_option maxHeartbeats 4000000
namespace K01
open PySem PySem.Spec PyProof.Rows L2 DL RM RM.Zw
local macro_rules | `(tactic| walk_at "ev1") => `(tactic| (with_reducible first
  | refine w_seq ?_ | refine k_rt ?_ | refine w_ret ?_ | refine w_set ?_ | refine w_asg ?_ | refine w_sif ?_ | refine w_snil ?_ | refine w_par ?_ | refine w_par3 ?_ | refine w_retN ?_ | refine w_expr ?_ | refine w_setO ?_ | refine w_for ?_ | refine kf_nx ?_ | refine kf_rt ?_ | refine kf_ct ?_
  | refine w_bin ?_ | refine w_un ?_ | refine w_c ?_ | refine w_nil ?_ | refine w_cons ?_ | refine w_tup ?_ | refine w_lst ?_ | refine w_ofF ?_ | refine w_ix ?_ | refine w_sl ?_ | refine w_nopart ?_ | refine w_and ?_ | refine w_or ?_ | refine w_not ?_ | refine w_andV ?_ | refine w_orV ?_ | refine w_if ?_ | refine w_call ?_ | refine w_isi ?_ | refine w_lc ?_ | refine w_yes ?_ | refine w_lcnil ?_))
local macro_rules | `(tactic| walk_at "ev2") => `(tactic| first
  | walk_at "ev1"
  | ((with_reducible refine k_nx ?_); (try dsimp only [List.set_cons_succ, List.set_cons_zero]))
  | ((with_reducible show Ex (dVar _ _ _) _); refine w_var rfl ?_)
  | ((with_reducible show Ex (sAug _ _ _ _ _) _); refine w_aug rfl ?_)
  | ((with_reducible show Ex (sApp _ _ _ _) _); refine w_app rfl ?_)
  | ((with_reducible show Ex (sTin _ _ _ _ _) _); refine w_tin rfl ?_)
  | (with_reducible refine ⟨_, eq_int _ _, ?_⟩)
  | (with_reducible refine ⟨_, ne_int _ _, ?_⟩)
  | (with_reducible refine ⟨_, mul_ok (by assumption), ?_⟩)
  | (with_reducible refine ⟨_, fdiv_ok (by decide), ?_⟩)
  | (with_reducible refine ⟨_, mod_ok (by decide), ?_⟩)
  | (with_reducible refine ⟨_, fdiv_ok (by assumption), ?_⟩)
  | (with_reducible refine ⟨_, mod_ok (by assumption), ?_⟩)
  | ((with_reducible show small _ = true ∧ _); refine ⟨rfl, ?_⟩)
  | ((with_reducible show ∃ _ _, [_, _] = [_, _] ∧ _); refine ⟨_, _, rfl, ?_⟩)
  | ((with_reducible show ∃ _ _ _, [_, _, _] = [_, _, _] ∧ _); refine ⟨_, _, _, rfl, ?_⟩)
  | ((with_reducible show ∃ _, PyData.bool _ = PyData.bool _ ∧ _); refine ⟨_, rfl, ?_⟩)
  | ((with_reducible show ∃ _, _ = some _ ∧ _); refine ⟨_, (rfl : _ = some _), ?_⟩)
  | fail)
local macro_rules | `(tactic| walk_at "ev") => `(tactic| ((repeat' (walk_at "ev2")); (try dsimp only [List.set_cons_succ, List.set_cons_zero])))
local macro_rules | `(tactic| walk_at "evb") => `(tactic| (refine w_body rfl ?_; simp only [ρ0, List.map_cons, List.map_nil, List.length_cons, List.length_nil, List.replicate_succ, List.replicate_zero, Nat.reduceAdd, Nat.reduceSub, List.cons_append, List.nil_append]))
local macro_rules | `(tactic| walk_at "ev2") => `(tactic| ((with_reducible show Ex (dOwn _ _ _) _); refine w_own rfl ?_))
theorem w_skip {A B : DG Bool} {F : SG} {ρ : List Sl} {T : List D} {P : Fl → List D → Prop} (h : Ex (dAnd A B ρ T) fun b T1 => b = false ∧ T1 = T) (p : P (.nx ρ) T) : Ex (sIf (dAnd A B) F sNil ρ T) P := by
  obtain ⟨b, T1, e, rfl, rfl⟩ := h
  exact w_sif ⟨_, _, e, by show (if false = true then _ else _); rw [if_neg Bool.false_ne_true]; exact w_snil p⟩
local macro_rules | `(tactic| walk_at "ev2") => `(tactic| ((with_reducible show Ex (sIf (dAnd _ _) _ sNil _ _) _); refine w_skip ?skip ?_))
theorem bd_sum {m j : Nat} {r s : Ray} (h : Bd m r.x) (g : Bd m s.x) (hr : r.k ≤ j) (hs : s.k ≤ j) : Bd (m + j + 1) (rsum r s).x := by
  unfold rsum
  exact (((h.ps (j := max r.k s.k - r.k)).mono (by omega)).add ((g.ps (j := max r.k s.k - s.k)).mono (by omega))).short
theorem k_sum {j : Nat} {r s : Ray} (hr : r.k ≤ j) (hs : s.k ≤ j) : (rsum r s).k ≤ j := Nat.le_trans (short_k _ _) (Nat.max_le.mpr ⟨hr, hs⟩)
theorem c_sg {n : Nat} {r : Ray} {T : List D} {P : D → List D → Prop} (hr : Rl r.x) (h : Bd n r.x) (hl : n ≤ 400000) (p : P (.int (sv r.x)) T) : Ex (F_sign_of [rayD r] T) P := c_sign hr.mir.symm h hl p
theorem Ok.neg {r : Ray} (h : Ok r) : Rl (neg r).x ∧ Bd 60 (neg r).x ∧ (neg r).k ≤ 30 := ⟨h.rl.neg, h.bd.neg, h.k⟩
theorem eq_intP {i j : Int} {P : D → Prop} (p : P (.bool (decide (i = j)))) : ∃ d, opEq (.int i) (.int j) = some d ∧ P d := ⟨_, eq_int i j, p⟩
theorem c_pair {r s : Ray} {T : List D} {P : D → List D → Prop} (hr : Ok r) (hs : Ok s) (p : P (.bool true) T) : Ex (F_law_pair_right [rayD r, rayD s] T) P := by
  have hn := hs.neg
  have b1 : Bd 91 (rsum r (neg s)).x := bd_sum hr.bd hn.2.1 hr.k hn.2.2
  have b2 : Bd 91 (rsum r s).x := bd_sum hr.bd hs.bd hr.k hs.k
  have b3 : Bd 122 (rprod r s).x := (hr.bd.mul hs.bd).short
  have r1 := real_sum hr.rl hn.1
  have r2 := real_sum hr.rl hs.rl
  have r3 := real_prod hr.rl hs.rl
  have hrk := hr.k
  have hsk := hs.k
  unfold F_law_pair_right g_law_pair_right
  walk_at "evb"
  walk_at "ev"
  refine c_lminus ?_
  rw [show (⟨-s.x, s.k⟩ : Ray) = neg s from rfl]
  walk_at "ev"
  refine c_lsum (by omega) (show s.k ≤ 100000 by omega) ?_
  walk_at "ev"
  refine c_lsum (by omega) (by omega) ?_
  walk_at "ev"
  refine c_lprod hr.bd hs.bd (by decide) ?_
  walk_at "ev"
  refine w_forcons ⟨_, rfl, ?_⟩
  dsimp only [List.set_cons_succ, List.set_cons_zero]
  walk_at "ev"
  case skip =>
    walk_at "ev"
    refine c_small fun b => ?_
    walk_at "ev"
    refine ite_s (fun _ => ?_) (fun _ => ?_)
    · walk_at "ev"
      refine c_sg r1.1 b1 (by decide) ?_
      walk_at "ev"
      refine c_lsign b1 (by decide) ?_
      walk_at "ev"
      exact ⟨by simp, rfl⟩
    · exact ⟨rfl, rfl⟩
  walk_at "ev"
  refine w_forcons ⟨_, rfl, ?_⟩
  dsimp only [List.set_cons_succ, List.set_cons_zero]
  walk_at "ev"
  case skip =>
    walk_at "ev"
    refine c_small fun b => ?_
    walk_at "ev"
    refine ite_s (fun _ => ?_) (fun _ => ?_)
    · walk_at "ev"
      refine c_sg r2.1 b2 (by decide) ?_
      walk_at "ev"
      refine c_lsign b2 (by decide) ?_
      walk_at "ev"
      exact ⟨by simp, rfl⟩
    · exact ⟨rfl, rfl⟩
  walk_at "ev"
  refine w_forcons ⟨_, rfl, ?_⟩
  dsimp only [List.set_cons_succ, List.set_cons_zero]
  walk_at "ev"
  case skip =>
    walk_at "ev"
    refine c_small fun b => ?_
    walk_at "ev"
    refine ite_s (fun _ => ?_) (fun _ => ?_)
    · walk_at "ev"
      refine c_sg r3.1 b3 (by decide) ?_
      walk_at "ev"
      refine c_lsign b3 (by decide) ?_
      walk_at "ev"
      exact ⟨by simp, rfl⟩
    · exact ⟨rfl, rfl⟩
  walk_at "ev"
  refine w_fornil ?_
  walk_at "ev"
  · refine c_small fun b => ?_
    walk_at "ev"
    refine ite_s (fun _ => ?_) (fun _ => ?_)
    · walk_at "ev"
      refine c_turn ?_
      rw [show rturn s ((4 : Int) % 8).toNat = neg s from rfl]
      walk_at "ev"
      refine c_sum hr.bd hn.2.1 (by show 60 + 60 + r.k + s.k ≤ 400000; omega) ?_
      walk_at "ev"
      refine c_sg r1.1 b1 (by decide) ?_
      walk_at "ev"
      refine c_lsign b1 (by decide) ?_
      walk_at "ev"
      refine c_same rfl trivial ?_
      walk_at "ev"
      exact ⟨rfl, rfl⟩
    · exact ⟨rfl, rfl⟩
  · refine c_small fun b => ?_
    walk_at "ev"
    refine ite_s (fun _ => ?_) (fun _ => ?_)
    · walk_at "ev"
      refine c_prod (.inl rfl) hr.bd hs.bd (by decide) ?_
      walk_at "ev"
      refine c_sg r3.1 b3 (by decide) ?_
      walk_at "ev"
      refine c_lsign hr.bd (by decide) ?_
      walk_at "ev"
      refine c_lsign hs.bd (by decide) ?_
      walk_at "ev"
      refine ⟨_, mul_ok (mulC_of ?_ ?_), ?_⟩
      · rcases sv_cases r.x with q | q | q <;> rw [q] <;> decide
      · rcases sv_cases s.x with q | q | q <;> rw [q] <;> decide
      walk_at "ev"
      refine c_same (congrArg PyData.int r3.2) trivial ?_
      walk_at "ev"
      exact ⟨rfl, rfl⟩
    · exact ⟨rfl, rfl⟩
  · refine c_lsign hr.bd (by decide) ?_
    walk_at "ev"
    have tail : ∀ P' : D → List D → Prop, P' (.bool true) T → (0 < sv r.x → 0 < sv s.x → True) → True := fun _ _ _ => trivial
    refine ite_s (fun h1 => ?_) (fun h1 => ?_)
    · walk_at "ev"
      refine c_lsign hs.bd (by decide) ?_
      walk_at "ev"
      have h1 := of_decide_eq_true h1
      refine ite_s (fun _ => p) (fun h2 => ?_)
      have h2 : 0 < sv s.x := by simpa using h2
      walk_at "ev"
      refine c_small fun b => ?_
      walk_at "ev"
      refine ite_s (fun _ => p) (fun _ => ?_)
      walk_at "ev"
      refine c_sum hr.bd hs.bd (by show 60 + 60 + r.k + s.k ≤ 400000; omega) ?_
      walk_at "ev"
      refine c_sg r2.1 b2 (by decide) ?_
      rw [sum_pos hr.rl hs.rl h1 h2]
      walk_at "ev"
      exact p
    · walk_at "ev"
      exact ite_t rfl p
theorem c_mirL {r : Ray} {T : List D} {P : D → List D → Prop} (p : P (rayD (rmir r)) T) : Ex (F_mirrored [.list [.int r.x.a, .int r.x.b, .int r.x.c, .int r.x.d, .int (r.k : Nat)]] T) P := by
  unfold F_mirrored g_mirrored
  walk_at "evb"
  walk_at "ev"
  exact p
theorem c_realL {r : Ray} {T : List D} {P : D → List D → Prop} (p : P (.bool (decide (r = rmir r))) T) : Ex (F_is_real [.list [.int r.x.a, .int r.x.b, .int r.x.c, .int r.x.d, .int (r.k : Nat)]] T) P := by
  unfold F_is_real g_is_real
  walk_at "evb"
  walk_at "ev1"
  walk_at "ev1"
  refine w_un (w_cons (w_var rfl (w_nil ⟨_, rfl, ?_⟩)))
  walk_at "ev"
  exact c_mir ⟨_, eq_ray _ _, p⟩
/-- the sign, by squares -/
theorem c_signL {n : Nat} {r : Ray} {T : List D} {P : D → List D → Prop} (hr : r = rmir r) (h : Bd n r.x) (hl : n ≤ 400000) (p : P (.int (sgn (val r.x))) T) : Ex (F_sign_of [.list [.int r.x.a, .int r.x.b, .int r.x.c, .int r.x.d, .int (r.k : Nat)]] T) P := by
  unfold F_sign_of g_sign_of
  walk_at "evb"
  walk_at "ev"
  refine c_realL ?_
  rw [decide_eq_true hr]
  walk_at "ev"
  refine ite_f rfl ?_
  have m1 : mulC r.x.a (if r.x.a < 0 then -r.x.a else r.x.a) = true := mulC_sm h.a h.a.abs (by omega)
  have m2 : mulC 2 r.x.b = true := mulC_sm (show Sm 2 2 by unfold Sm; decide) h.b (by omega)
  have m3 : mulC (2 * r.x.b) (if r.x.b < 0 then -r.x.b else r.x.b) = true := mulC_sm (Sm.mul (show Sm 2 2 by unfold Sm; decide) h.b) h.b.abs (by omega)
  walk_at "ev"
  refine ite_s (fun h1 => ?_) (fun h1 => ?_)
  · have h1 := of_decide_eq_true h1
    unfold sgn val at p
    rw [if_pos h1] at p
    walk_at "ev"
    exact p
  · have h1 := of_decide_eq_false h1
    unfold sgn val at p
    rw [if_neg h1] at p
    walk_at "ev"
    refine ite_s (fun h2 => ?_) (fun h2 => ?_)
    · have h2 := of_decide_eq_true h2
      rw [if_pos h2] at p
      walk_at "ev"
      exact p
    · have h2 := of_decide_eq_false h2
      rw [if_neg h2] at p
      walk_at "ev"
      exact p
theorem c_sgL {n : Nat} {r : Ray} {T : List D} {P : D → List D → Prop} (hr : Rl r.x) (h : Bd n r.x) (hl : n ≤ 400000) (p : P (.int (sv r.x)) T) : Ex (F_sign_of [.list [.int r.x.a, .int r.x.b, .int r.x.c, .int r.x.d, .int (r.k : Nat)]] T) P := c_signL hr.mir.symm h hl p
theorem c_overs {r : Ray} {m : Int} {T : List D} {P : D → List D → Prop} (h : Ok r) (hm : -4 ≤ m ∧ m ≤ 4) (p : ∀ s, Rl s.x → sv s.x = sv r.x → Bd 70 s.x → P (rayD s) T) : Ex (F_over_root [rayD r, .int m] T) P := by
  by_cases h0 : 0 ≤ m
  · exact c_over h.bd h0 (p _ (h.rl.short _) (sv_short h.rl _) (h.bd.short.mono (by decide)))
  · obtain ⟨j, rfl⟩ : ∃ j : Int, m = -j := ⟨-m, by omega⟩
    refine c_mult h.bd (by omega) (by omega) (p _ ?_ ?_ ?_)
    · unfold rtimes
      split
      · exact h.rl.short _
      · exact h.rl.ps _
    · unfold rtimes
      split
      · exact sv_short h.rl _
      · exact sv_ps _ h.rl
    · unfold rtimes
      split
      · exact h.bd.short.mono (by decide)
      · exact h.bd.ps.mono (by omega)
def dd (rs : List Ray) (a b : Nat) : Int := sv (lvl 30 (rs[a]?.getD ⟨Zw.zero, 0⟩) + -lvl 30 (rs[b]?.getD ⟨Zw.zero, 0⟩))
theorem w_lcrays {ρ : List Sl} {T : List D} {tg : D → List Sl → Option (List Sl)} {te : DG D} {g : Ray → D} {P : List D → List D → Prop} : ∀ {rs : List Ray}, (∀ r ∈ rs, ∃ ρ1, tg (rayD r) ρ = some ρ1 ∧ te ρ1 T = some (g r, T)) → P (rs.map g) T → Ex (lcGo tg dYes te ρ (rs.map rayD) T) P
  | [], _, p => w_lcnil p
  | r :: rs, h, p => by
    obtain ⟨ρ1, e0, e1⟩ := h r List.mem_cons_self
    refine w_lccons ⟨ρ1, e0, w_yes ?_⟩
    rw [if_pos rfl]
    exact .of e1 (w_lcrays (P := fun ys T' => P (g r :: ys) T') (fun y hy => h y (List.mem_cons_of_mem _ hy)) p)
/-- which stand below it -/
theorem w_lcbelow {f : Nat → Int} {ρ : List Sl} {T : List D} {tt : DG Bool} {P : List D → List D → Prop} (hρ : 20 < ρ.length) : ∀ {o : List Nat}, (∀ n ∈ o, tt (ρ.set 20 (.sh (.int (n : Nat)))) T = some (decide (0 < f n), T)) → P ((o.filter fun n => decide (0 < f n)).map fun n => PyData.int (n : Nat)) T → Ex (lcGo (tgN 20) tt (dVar 20) ρ (o.map fun n => PyData.int (n : Nat)) T) P
  | [], _, p => w_lcnil p
  | n :: o, h, p => by
    refine w_lccons ⟨_, rfl, .of (h n List.mem_cons_self) ?_⟩
    have hh := fun m hm => h m (List.mem_cons_of_mem n hm)
    by_cases g : 0 < f n
    · rw [if_pos (by simpa using g)]
      refine w_var (by rw [List.getElem?_set_self hρ]) ?_
      rw [List.filter_cons_of_pos (by simpa using g)] at p
      exact w_lcbelow hρ (P := fun ys T' => P (.int (n : Nat) :: ys) T') hh p
    · rw [if_neg (by simpa using g)]
      rw [List.filter_cons_of_neg (by simpa using g)] at p
      exact w_lcbelow hρ hh p
end K01
set_option Elab.async false
set_option linter.all false
set_option maxRecDepth 100000
set_option maxHeartbeats 4000000
namespace K01
open PySem PySem.Spec PyProof.Rows L2 DL RM RM.Zw
local macro_rules | `(tactic| walk_at "ev1") => `(tactic| (with_reducible first
  | refine w_seq ?_ | refine k_rt ?_ | refine w_ret ?_ | refine w_set ?_ | refine w_asg ?_ | refine w_sif ?_ | refine w_snil ?_ | refine w_par ?_ | refine w_par3 ?_ | refine w_retN ?_ | refine w_expr ?_ | refine w_setO ?_ | refine w_for ?_ | refine kf_nx ?_ | refine kf_rt ?_ | refine kf_ct ?_
  | refine w_bin ?_ | refine w_un ?_ | refine w_c ?_ | refine w_nil ?_ | refine w_cons ?_ | refine w_tup ?_ | refine w_lst ?_ | refine w_ofF ?_ | refine w_ix ?_ | refine w_sl ?_ | refine w_nopart ?_ | refine w_and ?_ | refine w_or ?_ | refine w_not ?_ | refine w_andV ?_ | refine w_orV ?_ | refine w_if ?_ | refine w_call ?_ | refine w_isi ?_ | refine w_lc ?_ | refine w_yes ?_ | refine w_lcnil ?_))
local macro_rules | `(tactic| walk_at "ev2") => `(tactic| first
  | walk_at "ev1"
  | ((with_reducible refine k_nx ?_); (try dsimp only [List.set_cons_succ, List.set_cons_zero]))
  | ((with_reducible show Ex (dVar _ _ _) _); refine w_var rfl ?_)
  | ((with_reducible show Ex (sAug _ _ _ _ _) _); refine w_aug rfl ?_)
  | ((with_reducible show Ex (sApp _ _ _ _) _); refine w_app rfl ?_)
  | ((with_reducible show Ex (sTin _ _ _ _ _) _); refine w_tin rfl ?_)
  | (with_reducible refine ⟨_, eq_int _ _, ?_⟩)
  | (with_reducible refine ⟨_, ne_int _ _, ?_⟩)
  | (with_reducible refine ⟨_, mul_ok (by assumption), ?_⟩)
  | (with_reducible refine ⟨_, fdiv_ok (by decide), ?_⟩)
  | (with_reducible refine ⟨_, mod_ok (by decide), ?_⟩)
  | (with_reducible refine ⟨_, fdiv_ok (by assumption), ?_⟩)
  | (with_reducible refine ⟨_, mod_ok (by assumption), ?_⟩)
  | ((with_reducible show small _ = true ∧ _); refine ⟨rfl, ?_⟩)
  | ((with_reducible show ∃ _ _, [_, _] = [_, _] ∧ _); refine ⟨_, _, rfl, ?_⟩)
  | ((with_reducible show ∃ _ _ _, [_, _, _] = [_, _, _] ∧ _); refine ⟨_, _, _, rfl, ?_⟩)
  | ((with_reducible show ∃ _, PyData.bool _ = PyData.bool _ ∧ _); refine ⟨_, rfl, ?_⟩)
  | ((with_reducible show ∃ _, _ = some _ ∧ _); refine ⟨_, (rfl : _ = some _), ?_⟩)
  | fail)
local macro_rules | `(tactic| walk_at "ev") => `(tactic| ((repeat' (walk_at "ev2")); (try dsimp only [List.set_cons_succ, List.set_cons_zero])))
local macro_rules | `(tactic| walk_at "evb") => `(tactic| (refine w_body rfl ?_; simp only [ρ0, List.map_cons, List.map_nil, List.length_cons, List.length_nil, List.replicate_succ, List.replicate_zero, Nat.reduceAdd, Nat.reduceSub, List.cons_append, List.nil_append]))
local macro_rules | `(tactic| walk_at "ev2") => `(tactic| ((with_reducible show Ex (dOwn _ _ _) _); refine w_own rfl ?_))
local macro_rules | `(tactic| walk_at "ev2") => `(tactic| ((with_reducible show Ex (sMeth _ _ _ _ _) _); refine w_meth rfl ?_))
local macro_rules | `(tactic| walk_at "ev2") => `(tactic| ((with_reducible show Ex (sFrz _ _ _ _) _); refine w_frz rfl ?_))
local macro_rules | `(tactic| walk_at "ev2") => `(tactic| ((with_reducible show Ex (sIf (dAnd _ _) _ sNil _ _) _); refine w_skip ?skip ?_))
theorem ix_rays {f : Ray → D} {rs : List Ray} {n : Nat} {T : List D} (h : n < rs.length) : ixT (.list (rs.map f)) (.int (n : Nat)) T = some (f rs[n]) := by
  show atI (rs.map f) (n : Nat) = some _
  exact atI_nat (by rw [List.getElem?_map, List.getElem?_eq_getElem h]; rfl)
def intsD (o : List Nat) : List D := o.map fun n => .int (n : Nat)
theorem op_ins {d : Nat → Nat → Int} {k : Nat} {o : List Nat} (h : o.length ≤ 5) : opInsert (intsD o) [.int (cnt d k o : Nat), .int (k : Nat)] = some (intsD (ins d k o)) := by
  have hc : cnt d k o ≤ o.length := List.length_filter_le _ _
  have h1 : (intsD o).length = o.length := List.length_map ..
  unfold opInsert
  simp only
  rw [if_pos ⟨by omega, by omega, by rw [h1]; exact decide_eq_true (by omega)⟩]
  unfold ins intsD
  rw [List.map_append, List.map_append, List.map_take, List.map_drop, Int.toNat_natCast]
  rfl
local macro_rules | `(tactic| walk_at "ev2") => `(tactic| ((with_reducible show ∃ _, opInsert (intsD _) _ = some _ ∧ _); refine ⟨_, op_ins (by omega), ?_⟩))
theorem dd_neg (rs : List Ray) (a b : Nat) : dd rs b a = -dd rs a b := diff_neg _ _
theorem dd_trans (rs : List Ray) (a b c : Nat) (h : 0 ≤ dd rs a b) (g : 0 ≤ dd rs b c) : 0 ≤ dd rs a c ∧ (0 < dd rs a b → 0 < dd rs a c) ∧ (0 < dd rs b c → 0 < dd rs a c) := by
  have q := diff_trans h g
  exact ⟨q.1, fun z => by show 0 < sv _; rw [q.2.1 z]; decide, fun z => by show 0 < sv _; rw [q.2.2 z]; decide⟩
def bads : List D := [.tuple [.int 0, .int 1, .int 0, .int 0, .int 0], .tuple [.int 1, .int 0, .int 1, .int 0, .int 0], .tuple [.int 0, .int 1, .int 0, .int 1, .int 0], .tuple [.int 0, .int 0, .int 0, .int 1, .int 0], .tuple [.int 1, .int 1, .int 0, .int 0, .int 2], .tuple [.int 3, .int 1, .int 0, .int 1, .int 0]]
theorem bad_ends {d : D} (h : d ∈ bads) (T : List D) : FX_sign_of [d] T = some (.er "Unfit", T) ∧ FH_is_real [d] T = some (.bool false, T) := by
  unfold bads at h
  simp only [List.mem_cons, List.not_mem_nil, or_false] at h
  rcases h with rfl | rfl | rfl | rfl | rfl | rfl <;> exact ⟨rfl, rfl⟩
theorem mine_eq (n : Int) : ((if (decide (0 < n)) = true then (1 : Int) else 0) - (if (decide (n < 0)) = true then 1 else 0)) = RS.sg n := by
  unfold RS.sg
  by_cases h : n = 0
  · subst h; rfl
  · by_cases g : 0 < n
    · rw [if_pos (by simpa using g), if_neg (by simp; omega), if_neg h, if_pos g]; rfl
    · rw [if_neg (by simpa using g), if_pos (by simp; omega), if_neg h, if_neg g]; rfl
theorem lawHolds : LawHolds := by
  intro n m h0 h1 h2
  suffices h : Ex (g_law ((List.replicate 21 .no).set 1 (.sh (.dict []))) [.int n, .int m, .int 0]) fun fl _ => fl = .rt (.bool true) by
    obtain ⟨fl, T', e, rfl⟩ := h
    exact ⟨T', e⟩
  have hT : TOk 0 [.int n, .int m, .int 0] := ⟨n, m, 0, rfl, h0, h1, h2, by decide, by decide⟩
  generalize ([.int n, .int m, .int 0] : List D) = T at hT ⊢
  clear h0 h1 h2 n m
  simp only [List.replicate_succ, List.replicate_zero, List.set_cons_succ, List.set_cons_zero]
  unfold g_law
  walk_at "ev"
  refine w_forinv (fun items ρ T => ∃ B, TOk B T ∧ B + 60 * items.length ≤ 180 ∧ ∃ z0 z2 z3 z4 z5 z6 z7 z8 z9 z10 z11 z12 z13 z14 z15 z16 z17 z18 z19 z20 : Sl, ρ = [z0, .sh (.dict []), z2, z3, z4, z5, z6, z7, z8, z9, z10, z11, z12, z13, z14, z15, z16, z17, z18, z19, z20]) ?_ ?_ ⟨0, hT, by decide, _, _, _, _, _, _, _, _, _, _, _, _, _, _, _, _, _, _, _, _, rfl⟩
  · clear hT T
    rintro w items ρ T ⟨B, hT, hB, z0, z2, z3, z4, z5, z6, z7, z8, z9, z10, z11, z12, z13, z14, z15, z16, z17, z18, z19, z20, rfl⟩
    rw [List.length_cons] at hB
    refine ⟨_, rfl, ?_⟩
    dsimp only [List.set_cons_succ, List.set_cons_zero]
    walk_at "ev"
    show Ex (lcGo _ _ _ _ [.int 0, .int 1, .int 2, .int 3] _) _
    refine w_lccons ⟨_, rfl, w_yes ?_⟩
    refine ite_t rfl ?_
    walk_at "ev"
    refine c_drawn hT (by omega) fun r0 T0 o0 hT => ?_
    walk_at "ev"
    refine w_lccons ⟨_, rfl, w_yes ?_⟩
    refine ite_t rfl ?_
    walk_at "ev"
    refine c_drawn hT (by omega) fun r1 T1 o1 hT => ?_
    walk_at "ev"
    refine w_lccons ⟨_, rfl, w_yes ?_⟩
    refine ite_t rfl ?_
    walk_at "ev"
    refine c_drawn hT (by omega) fun r2 T2 o2 hT => ?_
    walk_at "ev"
    refine w_lccons ⟨_, rfl, w_yes ?_⟩
    refine ite_t rfl ?_
    walk_at "ev"
    refine c_drawn hT (by omega) fun r3 T3 o3 hT => ?_
    walk_at "ev"
    refine w_forinv (fun its ρ T => ∃ B' rs, TOk B' T ∧ B' + its.length ≤ B + 45 ∧ its = rs.map rayD ∧ (∀ r ∈ rs, Ok r) ∧ ∃ z0 z2 z4 z5 z6 z7 z8 z9 z10 z11 z12 z13 z14 z15 z16 z17 z18 z19 z20 : Sl, ρ = [z0, .sh (.dict []), z2, .sh (.list [rayD r0, rayD r1, rayD r2, rayD r3, rayD r0]), z4, z5, z6, z7, z8, z9, z10, z11, z12, z13, z14, z15, z16, z17, z18, z19, z20]) ?_ ?_ ⟨_, [r0, r1, r2, r3, r0], hT, ?_, rfl, ?_, _, _, _, _, _, _, _, _, _, _, _, _, _, _, _, _, _, _, _, rfl⟩
    · rintro x its ρ T ⟨B', rs, hT, hB', hits, hrs, z0, z2, z4, z5, z6, z7, z8, z9, z10, z11, z12, z13, z14, z15, z16, z17, z18, z19, z20, rfl⟩
      cases rs with
      | nil => cases hits
      | cons r rs =>
      obtain ⟨rfl, rfl⟩ := List.cons.inj hits
      rw [List.length_cons] at hB'
      have o := hrs r List.mem_cons_self
      refine ⟨_, rfl, ?_⟩
      dsimp only [List.set_cons_succ, List.set_cons_zero]
      walk_at "ev"
      refine c_lsign o.bd (by decide) ?_
      walk_at "ev"
      refine c_take hT (by omega) (by decide) (by decide) fun v T4 hv0 hv1 hT => ?_
      walk_at "ev"
      refine c_real ?_
      walk_at "ev"
      refine c_sg o.rl o.bd (by decide) ?_
      walk_at "ev"
      refine c_sgL (r := r) o.rl o.bd (by decide) ?_
      walk_at "ev"
      refine c_turn ?_
      rw [show rturn r ((4 : Int) % 8).toNat = neg r from rfl]
      walk_at "ev"
      refine c_sg (r := neg r) o.neg.1 o.neg.2.1 (by decide) ?_
      walk_at "ev"
      refine c_mir ?_
      walk_at "ev"
      rw [o.rl.mir, decide_eq_true rfl, show sv (neg r).x = -sv r.x from sv_neg _]
      refine c_same (d := .list [.bool true, .int (sv r.x), .int (sv r.x), .int (-sv r.x), rayD r]) rfl ⟨rfl, ?_⟩ ?_
      · intro x hx
        simp only [List.mem_cons, List.not_mem_nil, or_false] at hx
        rcases hx with rfl | rfl | rfl | rfl | rfl
        · trivial
        · trivial
        · trivial
        · trivial
        · exact okS_ray r
      walk_at "ev"
      refine ite_f rfl ?_
      walk_at "ev"
      · refine c_overs o (by omega) fun s hs es bs => ?_
        walk_at "ev"
        refine c_small fun b => ?_
        walk_at "ev"
        refine ite_s (fun _ => ?_) (fun _ => ?_)
        · walk_at "ev"
          refine c_overs o (by omega) fun s hs es bs => ?_
          walk_at "ev"
          refine c_sg hs bs (by decide) ?_
          walk_at "ev"
          exact ⟨by rw [es]; simp, rfl⟩
        · exact ⟨rfl, rfl⟩
      have hz : Rl (rsize r).x ∧ sv (rsize r).x = sv r.x * sv r.x := by
        have e : rsize r = rprod r r := by
          show rprod r (rmir r) = _
          rw [o.rl.mir]
        rw [e]
        exact real_prod o.rl o.rl
      have bz : Bd 122 (rsize r).x := (o.bd.mul o.bd.conj).short
      refine c_size o.bd (by decide) ?_
      walk_at "ev"
      · refine c_small fun b => ?_
        walk_at "ev"
        refine ite_s (fun _ => ?_) (fun _ => ?_)
        · walk_at "ev"
          refine c_sg hz.1 bz (by decide) ?_
          walk_at "ev"
          refine ⟨?_, rfl⟩
          rw [hz.2]
          rcases sv_cases r.x with q | q | q <;> rw [q] <;> rfl
        · exact ⟨rfl, rfl⟩
      refine w_lccons ⟨_, rfl, ?_⟩
      walk_at "ev"
      refine c_pair o o0 ?_
      walk_at "ev"
      refine ite_f rfl ?_
      refine w_lccons ⟨_, rfl, ?_⟩
      walk_at "ev"
      refine c_pair o o1 ?_
      walk_at "ev"
      refine ite_f rfl ?_
      refine w_lccons ⟨_, rfl, ?_⟩
      walk_at "ev"
      refine c_pair o o2 ?_
      walk_at "ev"
      refine ite_f rfl ?_
      refine w_lccons ⟨_, rfl, ?_⟩
      walk_at "ev"
      refine c_pair o o3 ?_
      walk_at "ev"
      refine ite_f rfl ?_
      refine w_lccons ⟨_, rfl, ?_⟩
      walk_at "ev"
      refine c_pair o o0 ?_
      walk_at "ev"
      refine ite_f rfl ?_
      walk_at "ev"
      refine ite_f rfl ?_
      walk_at "ev"
      exact ⟨_, rs, hT, by omega, rfl, fun r hr => hrs r (List.mem_cons_of_mem _ hr), _, _, _, _, _, _, _, _, _, _, _, _, _, _, _, _, _, _, _, rfl⟩
    · clear hT
      rintro ρ T4 ⟨B', rs, hT, hB', -, -, z0, z2, z4, z5, z6, z7, z8, z9, z10, z11, z12, z13, z14, z15, z16, z17, z18, z19, z20, rfl⟩
      have hB' : B' ≤ B + 45 := hB'
      walk_at "ev"
      have hall : ∀ r ∈ ([r0, r1, r2, r3, r0] : List Ray), Ok r := by
        intro r hr
        simp only [List.mem_cons, List.not_mem_nil, or_false] at hr
        rcases hr with rfl | rfl | rfl | rfl | rfl <;> assumption
      refine w_lcrays (rs := [r0, r1, r2, r3, r0]) (g := fun r => .list ([r0, r1, r2, r3, r0].map fun s => .int (sv (rsum r (neg s)).x))) (fun r hr => ⟨_, rfl, ?_⟩) ?_
      · have o := hall r hr
        obtain ⟨d, T', e, rfl, rfl⟩ := show Ex (dOfF (dLc (dUn asItems (dVar 3)) [19] (tgN 19) dYes (dCall F_law_sign (dCons (dCall F_law_ray_sum (dCons (dVar 4) (dCons (dCall F_law_ray_minus (dCons (dVar 19) dNil)) dNil))) dNil))) [z0, .sh (.dict []), z2, .sh (.list [rayD r0, rayD r1, rayD r2, rayD r3, rayD r0]), .sh (rayD r), z5, z6, z7, z8, z9, z10, z11, z12, z13, z14, z15, z16, z17, z18, z19, z20] T4) (fun d T' => d = .list ([r0, r1, r2, r3, r0].map fun s => .int (sv (rsum r (neg s)).x)) ∧ T' = T4) by
          walk_at "ev"
          refine w_lcrays (rs := [r0, r1, r2, r3, r0]) (g := fun s => .int (sv (rsum r (neg s)).x)) (fun s hs => ⟨_, rfl, ?_⟩) ?_
          · have q := hall s hs
            have b1 : Bd 91 (rsum r (neg s)).x := bd_sum o.bd q.neg.2.1 o.k q.neg.2.2
            have ok := o.k
            have qk := q.k
            obtain ⟨d, T', e, rfl, rfl⟩ := show Ex (dCall F_law_sign (dCons (dCall F_law_ray_sum (dCons (dVar 4) (dCons (dCall F_law_ray_minus (dCons (dVar 19) dNil)) dNil))) dNil) [z0, .sh (.dict []), z2, .sh (.list [rayD r0, rayD r1, rayD r2, rayD r3, rayD r0]), .sh (rayD r), z5, z6, z7, z8, z9, z10, z11, z12, z13, z14, z15, z16, z17, z18, .sh (rayD s), z20] T4) (fun d T' => d = .int (sv (rsum r (neg s)).x) ∧ T' = T4) by
              walk_at "ev"
              refine c_lminus ?_
              rw [show (⟨-s.x, s.k⟩ : Ray) = neg s from rfl]
              walk_at "ev"
              refine c_lsum (by omega) (show s.k ≤ 100000 by omega) ?_
              walk_at "ev"
              refine c_lsign b1 (by decide) ?_
              exact ⟨rfl, rfl⟩
            exact e
          walk_at "ev"
          exact ⟨rfl, rfl⟩
        exact e
      walk_at "ev"
      refine w_forinv (fun its ρ T => T = T4 ∧ ∃ (k : Nat) (o : List Nat), its = ((List.range 5).drop k).map (fun i => PyData.int (i : Nat)) ∧ k ≤ 5 ∧ o.length = k ∧ (∀ n ∈ o, n < 5) ∧ o.Pairwise (fun a b => 0 ≤ dd [r0, r1, r2, r3, r0] b a) ∧ ∃ z11 z12 : Sl, ρ = [z0, .sh (.dict []), z2, .sh (.list [rayD r0, rayD r1, rayD r2, rayD r3, rayD r0]), z4, z5, z6, z7, z8, .sh (.list ([r0, r1, r2, r3, r0].map fun r => .list ([r0, r1, r2, r3, r0].map fun s => .int (sv (rsum r (neg s)).x)))), .ow (intsD o), z11, z12, z13, z14, z15, z16, z17, z18, z19, z20]) ?_ ?_ ⟨rfl, 0, [], rfl, by decide, rfl, by simp, List.Pairwise.nil, _, _, rfl⟩
      · rintro x its ρ T ⟨rfl, k, o, hits, hk, hl, ho, hp, z11, z12, rfl⟩
        have hk5 : k < 5 := by
          refine Nat.lt_of_not_le fun z => ?_
          rw [List.drop_eq_nil_of_le (by simpa using z)] at hits
          cases hits
        rw [List.drop_eq_getElem_cons (by simpa using hk5), List.map_cons, List.getElem_range] at hits
        obtain ⟨rfl, rfl⟩ := List.cons.inj hits
        refine ⟨_, rfl, ?_⟩
        dsimp only [List.set_cons_succ, List.set_cons_zero]
        walk_at "ev"
        refine ⟨by rw [intsD, List.length_map, hl]; exact decide_eq_true (by omega), ?_⟩
        refine w_lcbelow (f := dd [r0, r1, r2, r3, r0] k) (o := o) (by show 20 < 21; decide) (fun n hn => ?_) ?_
        · obtain ⟨b, T', e, rfl, rfl⟩ := show Ex (dUn asBool (dBin opGt (dIx (dIx (dVar 9) (dVar 11)) (dVar 20)) (dC (.int 0))) [z0, .sh (.dict []), z2, .sh (.list [rayD r0, rayD r1, rayD r2, rayD r3, rayD r0]), z4, z5, z6, z7, z8, .sh (.list ([r0, r1, r2, r3, r0].map fun r => .list ([r0, r1, r2, r3, r0].map fun s => .int (sv (rsum r (neg s)).x)))), .ow (intsD o), .sh (.int (k : Nat)), z12, z13, z14, z15, z16, z17, z18, z19, .sh (.int (n : Nat))] T) (fun b T' => b = decide (0 < dd [r0, r1, r2, r3, r0] k n) ∧ T' = T) by
            have hn5 := ho n hn
            refine w_un (w_bin (w_ix (w_ix (w_var rfl (w_var rfl ⟨_, ix_rays hk5, w_var rfl ⟨_, ix_rays hn5, w_c ⟨_, rfl, _, rfl, ?_, rfl⟩⟩⟩)))))
            have ok := hall _ (List.getElem_mem (show k < [r0, r1, r2, r3, r0].length from hk5))
            have on := hall _ (List.getElem_mem (show n < [r0, r1, r2, r3, r0].length from hn5))
            rw [diff_lvl ok.rl on.rl ok.k on.k]
            unfold dd
            rw [List.getElem?_eq_getElem (show k < [r0, r1, r2, r3, r0].length from hk5), List.getElem?_eq_getElem (show n < [r0, r1, r2, r3, r0].length from hn5)]
            rfl
          exact e
        refine w_nil ⟨.int (cnt (dd [r0, r1, r2, r3, r0]) k o : Nat), ?_, ?_⟩
        · show some (PyData.int ((List.map _ _).length : Nat)) = _
          rw [List.length_map]
          rfl
        walk_at "ev"
        exact ⟨rfl, k + 1, _, rfl, by omega, by rw [ins_length, hl], fun n hn => (ins_mem hn).elim (fun z => by omega) (ho n), ins_sorted (dd_neg _) (dd_trans _) hp, _, _, rfl⟩
      · rintro ρ T ⟨rfl, k, o, hits, hk, hl, ho, hp, z11, z12, rfl⟩
        have h5 : k = 5 := by
          refine Nat.le_antisymm hk (Nat.le_of_not_lt fun z => ?_)
          rw [List.drop_eq_getElem_cons (by simpa using z)] at hits
          cases hits
        subst h5
        match o, hl, ho, hp with
        | [a, b, c, d, e], _, ho, hp =>
        simp only [List.pairwise_cons] at hp
        have step : ∀ x y : Nat, y < 5 → x < 5 → 0 ≤ dd [r0, r1, r2, r3, r0] y x → ∀ (z11 z12 z15 : Sl) (Q : Fl → List D → Prop), (∀ z15, Q (.nx [z0, .sh (.dict []), z2, .sh (.list [rayD r0, rayD r1, rayD r2, rayD r3, rayD r0]), z4, z5, z6, z7, z8, .sh (.list ([r0, r1, r2, r3, r0].map fun r => .list ([r0, r1, r2, r3, r0].map fun s => .int (sv (rsum r (neg s)).x)))), .sh (.list (intsD [a, b, c, d, e])), z11, z12, .sh (.int (x : Nat)), .sh (.int (y : Nat)), z15, z16, z17, z18, z19, z20]) T) →
            Ex ((sSeq (sSet 15 (dCall F_law_ray_sum (dCons (dIx (dVar 3) (dVar 14)) (dCons (dCall F_law_ray_minus (dCons (dIx (dVar 3) (dVar 13)) dNil)) dNil)))) (sIf (dAnd (dUn asBool (dCall F_law_small (dCons (dVar 15) dNil))) (dUn asBool (dBin opLt (dCall F_sign_of (dCons (dVar 15) dNil)) (dC (.int 0))))) (sRet (dC (.bool false))) sNil)) [z0, .sh (.dict []), z2, .sh (.list [rayD r0, rayD r1, rayD r2, rayD r3, rayD r0]), z4, z5, z6, z7, z8, .sh (.list ([r0, r1, r2, r3, r0].map fun r => .list ([r0, r1, r2, r3, r0].map fun s => .int (sv (rsum r (neg s)).x)))), .sh (.list (intsD [a, b, c, d, e])), z11, z12, .sh (.int (x : Nat)), .sh (.int (y : Nat)), z15, z16, z17, z18, z19, z20] T) Q := fun x y hy hx hd z11 z12 z15 Q q => by
          have ox := hall _ (List.getElem_mem (show x < [r0, r1, r2, r3, r0].length from hx))
          have oy := hall _ (List.getElem_mem (show y < [r0, r1, r2, r3, r0].length from hy))
          have e : dd [r0, r1, r2, r3, r0] y x = sv (rsum [r0, r1, r2, r3, r0][y] (neg [r0, r1, r2, r3, r0][x])).x := by
            rw [diff_lvl oy.rl ox.rl oy.k ox.k]
            unfold dd
            rw [List.getElem?_eq_getElem (show y < [r0, r1, r2, r3, r0].length from hy), List.getElem?_eq_getElem (show x < [r0, r1, r2, r3, r0].length from hx)]
            rfl
          rw [e] at hd
          have gx : ixT (.list [rayD r0, rayD r1, rayD r2, rayD r3, rayD r0]) (.int (x : Nat)) T = some (rayD [r0, r1, r2, r3, r0][x]) := ix_rays (f := rayD) (rs := [r0, r1, r2, r3, r0]) hx
          have gy : ixT (.list [rayD r0, rayD r1, rayD r2, rayD r3, rayD r0]) (.int (y : Nat)) T = some (rayD [r0, r1, r2, r3, r0][y]) := ix_rays (f := rayD) (rs := [r0, r1, r2, r3, r0]) hy
          generalize [r0, r1, r2, r3, r0][x] = rx at ox hd gx
          generalize [r0, r1, r2, r3, r0][y] = ry at oy hd gy
          have b1 : Bd 91 (rsum ry (neg rx)).x := bd_sum oy.bd ox.neg.2.1 oy.k ox.neg.2.2
          have r1' := real_sum oy.rl ox.neg.1
          have kx := ox.k
          have ky := oy.k
          refine w_seq (w_set (w_call (w_cons (w_ix (w_var rfl (w_var rfl ⟨_, gy, w_cons (w_call (w_cons (w_ix (w_var rfl (w_var rfl ⟨_, gx, w_nil ?_⟩)))))⟩))))))
          refine c_lminus ?_
          rw [show (⟨-rx.x, rx.k⟩ : Ray) = neg rx from rfl]
          walk_at "ev"
          refine c_lsum (by omega) (show rx.k ≤ 100000 by omega) ?_
          walk_at "ev"
          · refine c_small fun b => ?_
            walk_at "ev"
            refine ite_s (fun _ => ?_) (fun _ => ?_)
            · walk_at "ev"
              refine c_sg r1'.1 b1 (by decide) ?_
              walk_at "ev"
              exact ⟨decide_eq_false (by omega), rfl⟩
            · exact ⟨rfl, rfl⟩
          · exact q _
        walk_at "ev"
        show Ex (forGo _ _ [.tuple [.int (a : Nat), .int (b : Nat)], .tuple [.int (b : Nat), .int (c : Nat)], .tuple [.int (c : Nat), .int (d : Nat)], .tuple [.int (d : Nat), .int (e : Nat)]] _ _) _
        refine w_forcons ⟨_, rfl, ?_⟩
        dsimp only [List.set_cons_succ, List.set_cons_zero]
        refine step a b (ho b (by simp)) (ho a (by simp)) (hp.1 b (by simp)) _ _ _ _ fun z15' => ?_
        refine kf_nx ?_
        refine w_forcons ⟨_, rfl, ?_⟩
        dsimp only [List.set_cons_succ, List.set_cons_zero]
        refine step b c (ho c (by simp)) (ho b (by simp)) (hp.2.1 c (by simp)) _ _ _ _ fun z15' => ?_
        refine kf_nx ?_
        refine w_forcons ⟨_, rfl, ?_⟩
        dsimp only [List.set_cons_succ, List.set_cons_zero]
        refine step c d (ho d (by simp)) (ho c (by simp)) (hp.2.2.1 d (by simp)) _ _ _ _ fun z15' => ?_
        refine kf_nx ?_
        refine w_forcons ⟨_, rfl, ?_⟩
        dsimp only [List.set_cons_succ, List.set_cons_zero]
        refine step d e (ho e (by simp)) (ho d (by simp)) (hp.2.2.2.1 e (by simp)) _ _ _ _ fun z15' => ?_
        refine kf_nx ?_
        refine w_fornil ?_
        walk_at "ev"
        have ht : Rl (rtwin r1).x := o1.rl.tau.sg _
        have bt : Bd 60 (rtwin r1).x := o1.bd.tau.sg
        have hp1 := real_prod o1.rl ht
        have bp : Bd 122 (rprod r1 (rtwin r1)).x := (o1.bd.mul bt).short
        have m1 := mulC_sm o1.bd.a o1.bd.a (by decide)
        have m2 : mulC 2 r1.x.b = true := mulC_sm (show Sm 2 2 by unfold Sm; decide) o1.bd.b (by decide)
        have m3 : mulC (2 * r1.x.b) r1.x.b = true := mulC_sm (Sm.mul (show Sm 2 2 by unfold Sm; decide) o1.bd.b) o1.bd.b (by decide)
        have hns := norm_sign o1.rl
        refine c_twin ?_
        walk_at "ev"
        refine c_prod (.inl rfl) o1.bd bt (by decide) ?_
        walk_at "ev"
        rw [mine_eq]
        have hsg : RS.sg (r1.x.a * r1.x.a - 2 * r1.x.b * r1.x.b) = 1 ∨ RS.sg (r1.x.a * r1.x.a - 2 * r1.x.b * r1.x.b) = -1 ∨ RS.sg (r1.x.a * r1.x.a - 2 * r1.x.b * r1.x.b) = 0 := by
          unfold RS.sg
          split
          · exact .inr (.inr rfl)
          · split
            · exact .inl rfl
            · exact .inr (.inl rfl)
        have n1 : mulC (RS.sg (r1.x.a * r1.x.a - 2 * r1.x.b * r1.x.b)) (-1) = true := by
          rcases hsg with q | q | q <;> rw [q] <;> decide
        have n2 : mulC (RS.sg (r1.x.a * r1.x.a - 2 * r1.x.b * r1.x.b)) 1 = true := by
          rcases hsg with q | q | q <;> rw [q] <;> decide
        have n3 : mulC (sv (rtwin r1).x) (sv r1.x) = true := by
          rcases sv_cases (rtwin r1).x with q | q | q <;> rcases sv_cases r1.x with p | p | p <;> rw [p, q] <;> decide
        refine ite_s (fun hk => ?_) (fun hk => ?_)
        · have hk : r1.k % 2 = 1 := by have := of_decide_eq_true hk; omega
          have hmi : RS.sg (r1.x.a * r1.x.a - 2 * r1.x.b * r1.x.b) * (-1) = sv (rprod r1 (rtwin r1)).x := by
            rw [hns]
            rw [if_pos hk]
          walk_at "ev"
          · refine c_small fun b => ?_
            walk_at "ev"
            refine ite_s (fun _ => ?_) (fun _ => ⟨rfl, rfl⟩)
            walk_at "ev"
            refine c_sg hp1.1 bp (by decide) ?_
            walk_at "ev"
            refine c_twin ?_
            walk_at "ev"
            refine c_sg ht bt (by decide) ?_
            walk_at "ev"
            refine c_sg o1.rl o1.bd (by decide) ?_
            walk_at "ev"
            refine c_same (d := .list [.int (sv (rprod r1 (rtwin r1)).x), .int (sv (rtwin r1).x * sv r1.x)]) ?_ ⟨rfl, ?_⟩ ?_
            · rw [hmi, hp1.2, Int.mul_comm]
            · intro x hx
              simp only [List.mem_cons, List.not_mem_nil, or_false] at hx
              rcases hx with rfl | rfl <;> trivial
            walk_at "ev"
            exact ⟨rfl, rfl⟩
          · refine c_of (ds := bads) hT (by omega) (by decide) (by decide) fun d hd T5 hT => ?_
            obtain ⟨q1, q2⟩ := bad_ends hd T5
            walk_at "ev"
            refine w_try (w_xseq (w_xexpr (w_xcall (w_cons (w_var rfl (w_nil (.of q1 ?_)))))))
            refine ⟨rfl, ?_⟩
            walk_at "ev"
            refine .of q2 ?_
            walk_at "ev"
            refine ite_f rfl ?_
            walk_at "ev"
            exact ⟨_, hT, by omega, _, _, _, _, _, _, _, _, _, _, _, _, _, _, _, _, _, _, _, _, rfl⟩
        · have hk : ¬ r1.k % 2 = 1 := by have := of_decide_eq_false hk; omega
          have hmi : RS.sg (r1.x.a * r1.x.a - 2 * r1.x.b * r1.x.b) * 1 = sv (rprod r1 (rtwin r1)).x := by
            rw [hns]
            rw [if_neg hk]
          walk_at "ev"
          · refine c_small fun b => ?_
            walk_at "ev"
            refine ite_s (fun _ => ?_) (fun _ => ⟨rfl, rfl⟩)
            walk_at "ev"
            refine c_sg hp1.1 bp (by decide) ?_
            walk_at "ev"
            refine c_twin ?_
            walk_at "ev"
            refine c_sg ht bt (by decide) ?_
            walk_at "ev"
            refine c_sg o1.rl o1.bd (by decide) ?_
            walk_at "ev"
            refine c_same (d := .list [.int (sv (rprod r1 (rtwin r1)).x), .int (sv (rtwin r1).x * sv r1.x)]) ?_ ⟨rfl, ?_⟩ ?_
            · rw [hmi, hp1.2, Int.mul_comm]
            · intro x hx
              simp only [List.mem_cons, List.not_mem_nil, or_false] at hx
              rcases hx with rfl | rfl <;> trivial
            walk_at "ev"
            exact ⟨rfl, rfl⟩
          · refine c_of (ds := bads) hT (by omega) (by decide) (by decide) fun d hd T5 hT => ?_
            obtain ⟨q1, q2⟩ := bad_ends hd T5
            walk_at "ev"
            refine w_try (w_xseq (w_xexpr (w_xcall (w_cons (w_var rfl (w_nil (.of q1 ?_)))))))
            refine ⟨rfl, ?_⟩
            walk_at "ev"
            refine .of q2 ?_
            walk_at "ev"
            refine ite_f rfl ?_
            walk_at "ev"
            exact ⟨_, hT, by omega, _, _, _, _, _, _, _, _, _, _, _, _, _, _, _, _, _, _, _, _, rfl⟩
    · show _ + 5 ≤ _
      omega
    · intro r hr
      simp only [List.mem_cons, List.not_mem_nil, or_false] at hr
      rcases hr with rfl | rfl | rfl | rfl | rfl <;> assumption
  · rintro ρ T ⟨B, hT, hB, z0, z2, z3, z4, z5, z6, z7, z8, z9, z10, z11, z12, z13, z14, z15, z16, z17, z18, z19, z20, rfl⟩
    walk_at "ev"
end K01
open PySem PySem.W PyProof.Rows
set_option maxRecDepth 100000 in
set_option maxHeartbeats 0 in
theorem PySem.Challenge.cw_eighthturns_k01_main_whole_real_rays_sta_holds : PySem.Challenge.rw_eighthturns_k01_main_whole_real_rays_sta.Holds := by
  w_on; o_law; k_head; (case hw => w_witness2)
  k_fill
  refine L2.walk_of (l := PySem.Challenge.rw_eighthturns_k01_main_whole_real_rays_sta) (n := 63) (k := 11) (x := "script") (CX := fun _ => L2.CX0) (sp := fun w => DL.spLaw _) rfl (by decide) rfl ⟨rfl, by decide, by decide⟩ (fun w h Y => PySem.W.kIn_of Y) ?F (fun _ _ a ns hl _ hS => ⟨a, ns, rfl, hS, hl, fun _ => rfl⟩) (fun _ _ _ _ _ h => h)
  case F =>
    intro w mg fa h KX G hmg
    refine' K01.all_mk KX G hmg K01.lawHolds ?a0 ?l0 ?c0 ?k0 ?a1 ?l1 ?c1 ?k1 ?a2 ?l2 ?c2 ?k2 ?a3 ?l3 ?c3 ?k3 ?a4 ?l4 ?c4 ?k4 ?a5 ?l5 ?c5 ?k5 ?a6 ?l6 ?c6 ?k6 ?a7 ?l7 ?c7 ?k7 ?a8 ?l8 ?c8 ?k8 ?a9 ?l9 ?c9 ?k9 ?a10 ?l10 ?c10 ?k10 ?a11 ?l11 ?c11 ?k11 ?a12 ?l12 ?c12 ?k12 ?a13 ?l13 ?c13 ?k13 ?a14 ?l14 ?c14 ?k14 ?a15 ?l15 ?c15 ?k15 ?a16 ?l16 ?c16 ?k16 ?a17 ?l17 ?c17 ?k17 ?a18 ?l18 ?c18 ?k18 ?a19 ?l19 ?c19 ?k19 ?a20 ?l20 ?c20 ?k20 ?a21 ?l21 ?c21 ?k21 ?a22 ?l22 ?c22 ?k22 ?a23 ?l23 ?c23 ?k23 ?a24 ?l24 ?c24 ?k24 ?a25 ?l25 ?c25 ?k25 ?z0 ?z1 ?z2 ?z3 ?z4 ?z5 ?z6 ?z7 ?z8 ?z9 ?z10 ?z11 ?z12 ?ea0 ?eq0 ?ek0 ?eb0 ?et0 ?ei0 ?es0
    (case a0 => k_is); (case l0 => k_is); (case c0 => k_is); (case k0 => k_is); (case a1 => k_is); (case l1 => k_is); (case c1 => k_is); (case k1 => k_is); (case a2 => k_is); (case l2 => k_is); (case c2 => k_is); (case k2 => k_is); (case a3 => k_is); (case l3 => k_is); (case c3 => k_is); (case k3 => k_is); (case a4 => k_is); (case l4 => k_is); (case c4 => k_is); (case k4 => k_is); (case a5 => k_is); (case l5 => k_is); (case c5 => k_is); (case k5 => k_is); (case a6 => k_is); (case l6 => k_is); (case c6 => k_is); (case k6 => k_is); (case a7 => k_is); (case l7 => k_is); (case c7 => k_is); (case k7 => k_is); (case a8 => k_is); (case l8 => k_is); (case c8 => k_is); (case k8 => k_is); (case a9 => k_is); (case l9 => k_is); (case c9 => k_is); (case k9 => k_is); (case a10 => k_is); (case l10 => k_is); (case c10 => k_is); (case k10 => k_is); (case a11 => k_is); (case l11 => k_is); (case c11 => k_is); (case k11 => k_is); (case a12 => k_is); (case l12 => k_is); (case c12 => k_is); (case k12 => k_is); (case a13 => k_is); (case l13 => k_is); (case c13 => k_is); (case k13 => k_is); (case a14 => k_is); (case l14 => k_is); (case c14 => k_is); (case k14 => k_is); (case a15 => k_is); (case l15 => k_is); (case c15 => k_is); (case k15 => k_is); (case a16 => k_is); (case l16 => k_is); (case c16 => k_is); (case k16 => k_is); (case a17 => k_is); (case l17 => k_is); (case c17 => k_is); (case k17 => k_is); (case a18 => k_is); (case l18 => k_is); (case c18 => k_is); (case k18 => k_is); (case a19 => k_is); (case l19 => k_is); (case c19 => k_is); (case k19 => k_is); (case a20 => k_is); (case l20 => k_is); (case c20 => k_is); (case k20 => k_is); (case a21 => k_is); (case l21 => k_is); (case c21 => k_is); (case k21 => k_is); (case a22 => k_is); (case l22 => k_is); (case c22 => k_is); (case k22 => k_is); (case a23 => k_is); (case l23 => k_is); (case c23 => k_is); (case k23 => k_is); (case a24 => k_is); (case l24 => k_is); (case c24 => k_is); (case k24 => k_is); (case a25 => k_is); (case l25 => k_is); (case c25 => k_is); (case k25 => k_is); (case z0 => k_is); (case z1 => k_is); (case z2 => k_is); (case z3 => k_is); (case z4 => k_is); (case z5 => k_is); (case z6 => k_is); (case z7 => k_is); (case z8 => k_is); (case z9 => k_is); (case z10 => k_is); (case z11 => k_is); (case z12 => k_is); (case ea0 => k_is); (case eq0 => k_exc); (case ek0 => k_is); (case eb0 => k_is); (case et0 => k_is); (case ei0 => k_is); (case es0 => first | rfl | k_is)
