import PyProof.Rows.All
import HandS.ForMost
import HandS.Wide
import HandS.Walk
import HandS.Zip
import HandS.Style
import HandS.TupAny
import HandS.IsInst
import HandS.Deep
import HandS.Conv
import HandS.Flow
import HandS.NoneIn
import KE.DatumIndex
import PyProof.ReprRoads
import HandS.EndBits
import KE.GoesEnum
import KE.GoesMore
import HandS.RaiseMore
import KE.GoesZip
import HandS.SortInts
import PyProof.Rows.IntBool
import PyProof.CallStr
import PyProof.StrLawsRepr
import PySem.Challenge.RW_cornerlines_k19_papers_of_cells_spoilt
set_option Elab.async false
set_option linter.all false
set_option maxRecDepth 100000
/-! CL: data by value, and what a def computes as a function of data. -/
namespace CL
open PySem PySem.Spec L2
set_option autoImplicit false

inductive D where
  | non | bl (b : Bool) | int (i : Int) | str (x : Str) | tup (l : List D) | lst (l : List D) | dct (ks vs : List D) | ins (c : Str) (ns : List Str) (fs : List D) | scr (l : List Int)

inductive Res (α : Type) where
  | ok (a : α) | exc (d : D) | bad

abbrev Sl := List (Option D)
abbrev M (α : Type) := Sl → Res (α × Sl)
inductive OT where
  | sh | ol (t0 t : OT)
inductive Md where
  | pk | ow (t : OT)
abbrev Md.sh : Md := .ow .sh

/-! ### data and values -/
/-- what may change -/
def Mut : HO → Prop
  | .lst _ => True
  | .dK _ => True
  | .dT _ => True
  | .ext _ => True
  | _ => False
/-- what never changes stands -/
abbrev NL (H H' : Hp) : Prop := ∀ a o, H a = some o → ¬ Mut o → H' a = some o
/-- a list of the module's own -/
def KL (K : PySem.W.Frag) (a : Addr) (xs : List V) : Prop := ∀ H : Hp, SqL K H a xs
section
variable (K : PySem.W.Frag) (Z : Addr → Prop) (H : Hp)
mutual
def RSh : D → V → Prop
  | .non, v => v = .non
  | .bl b, v => v = .bl b
  | .int i, v => v = .int i
  | .str x, v => v = .str x
  | .tup l, v => ∃ a xs, v = .ref a ∧ SqT K H a xs ∧ RShL l xs
  | .lst l, v => ∃ a xs, v = .ref a ∧ Z a ∧ H a = some (.lst xs) ∧ RShL l xs
  | .scr ns, v => ∃ a, v = .ref a ∧ (Z a ∨ KL K a (ns.map V.int)) ∧ SqL K H a (ns.map V.int)
  | .dct ks vs, v => ∃ a kvs, v = .ref a ∧ Z a ∧ H a = some (.dK kvs) ∧ RShL ks (kvs.map fun p => kV p.1) ∧ RShL vs (kvs.map (·.2))
  | .ins c ns fs, v => ∃ C a dx xs, v = .ref a ∧ PySem.W.nsIn K mainGlobals c = some (some (.ref C)) ∧ Cls K C ∧ (∀ f ∈ ns, NoAttr K C f) ∧ H a = some (.ins C dx (ns.zip xs)) ∧ ns.length = xs.length ∧ RShL fs xs
def RShL : List D → List V → Prop
  | [], vs => vs = []
  | d :: ds, vs => ∃ w ws, vs = w :: ws ∧ RSh d w ∧ RShL ds ws
end
def R : OT → D → V → (Addr → Prop) → Prop
  | .sh, d, v, _ => RSh K Z H d v
  | .ol t0 t, d, v, S => ∃ (l : List D) (a : Addr) (xs : List V) (ow : Addr → Option Nat), d = .lst l ∧ v = .ref a ∧ H a = some (.lst xs) ∧ S a ∧ ow a = none ∧ l.length = xs.length ∧
      (∀ d v, l[0]? = some d → xs[0]? = some v → R t0 d v (fun b => S b ∧ ow b = some 0)) ∧
      ∀ k d v, l[k + 1]? = some d → xs[k + 1]? = some v → R t d v (fun b => S b ∧ ow b = some (k + 1))
end
section
variable {K : PySem.W.Frag} {Z Z' : Addr → Prop} {H H' : Hp}
theorem RShL.len : ∀ {ds : List D} {vs : List V}, RShL K Z H ds vs → ds.length = vs.length
  | [], _, h => by simp only [RShL] at h; subst h; rfl
  | d :: ds, _, h => by
    simp only [RShL] at h
    obtain ⟨w, ws, rfl, _, h2⟩ := h
    simp [RShL.len h2]
theorem RShL.get : ∀ {ds : List D} {vs : List V} {i : Nat} {d : D}, RShL K Z H ds vs → ds[i]? = some d → ∃ v, vs[i]? = some v ∧ RSh K Z H d v
  | [], _, _, _, _, e => by simp at e
  | d :: ds, _, 0, d', h, e => by
    simp only [RShL] at h
    obtain ⟨w, ws, rfl, h1, h2⟩ := h
    simp at e; subst e
    exact ⟨w, by simp, h1⟩
  | d :: ds, _, i + 1, d', h, e => by
    simp only [RShL] at h
    obtain ⟨w, ws, rfl, h1, h2⟩ := h
    obtain ⟨v, e1, e2⟩ := RShL.get (i := i) h2 (by simpa using e)
    exact ⟨v, by simpa using e1, e2⟩
theorem RShL.getV : ∀ {ds : List D} {vs : List V} {i : Nat} {v : V}, RShL K Z H ds vs → vs[i]? = some v → ∃ d, ds[i]? = some d ∧ RSh K Z H d v
  | [], _, _, _, h, e => by simp only [RShL] at h; subst h; simp at e
  | d :: ds, _, 0, d', h, e => by
    simp only [RShL] at h
    obtain ⟨w, ws, rfl, h1, h2⟩ := h
    simp at e; subst e
    exact ⟨d, by simp, h1⟩
  | d :: ds, _, i + 1, d', h, e => by
    simp only [RShL] at h
    obtain ⟨w, ws, rfl, h1, h2⟩ := h
    obtain ⟨v, e1, e2⟩ := RShL.getV (i := i) h2 (by simpa using e)
    exact ⟨v, by simpa using e1, e2⟩
theorem RShL.of_get : ∀ {ds : List D} {vs : List V}, ds.length = vs.length → (∀ (i : Nat) d v, ds[i]? = some d → vs[i]? = some v → RSh K Z H d v) → RShL K Z H ds vs
  | [], vs, hl, _ => by
    simp only [RShL]
    exact List.eq_nil_of_length_eq_zero (by simpa using hl.symm)
  | d :: ds, [], hl, _ => by simp at hl
  | d :: ds, v :: vs, hl, h => by
    simp only [RShL]
    exact ⟨v, vs, rfl, h 0 d v (by simp) (by simp), RShL.of_get (by simpa using hl) fun i a b e1 e2 => h (i + 1) a b (by simpa using e1) (by simpa using e2)⟩
theorem RShL.append : ∀ {ds es : List D} {vs ws : List V}, RShL K Z H ds vs → RShL K Z H es ws → RShL K Z H (ds ++ es) (vs ++ ws)
  | [], _, _, _, h, g => by simp only [RShL] at h; subst h; simpa using g
  | d :: ds, es, _, ws, h, g => by
    simp only [RShL] at h
    obtain ⟨w, us, rfl, h1, h2⟩ := h
    simp only [List.cons_append, RShL]
    exact ⟨w, us ++ ws, rfl, h1, RShL.append h2 g⟩
theorem RShL.one {d : D} {v : V} (h : RSh K Z H d v) : RShL K Z H [d] [v] := by simp only [RShL]; exact ⟨v, [], rfl, h, rfl⟩
theorem RShL.take {ds : List D} {vs : List V} (n : Nat) (h : RShL K Z H ds vs) : RShL K Z H (ds.take n) (vs.take n) :=
  .of_get (by simp [h.len]) fun i d v e1 e2 => by
    rw [List.getElem?_take] at e1 e2
    split at e1
    · rename_i hi
      rw [if_pos hi] at e2
      obtain ⟨w, a, b⟩ := h.get e1
      rw [e2] at a; cases a; exact b
    · cases e1
theorem RShL.drop {ds : List D} {vs : List V} (n : Nat) (h : RShL K Z H ds vs) : RShL K Z H (ds.drop n) (vs.drop n) :=
  .of_get (by simp [h.len]) fun i d v e1 e2 => by
    rw [List.getElem?_drop] at e1 e2
    obtain ⟨w, a, b⟩ := h.get e1
    rw [e2] at a; cases a; exact b
theorem RShL.reverse {ds : List D} {vs : List V} (h : RShL K Z H ds vs) : RShL K Z H ds.reverse vs.reverse :=
  .of_get (by simp [h.len]) fun i d v e1 e2 => by
    have hl := h.len
    have hi : i < ds.length := by
      have := (List.getElem?_eq_some_iff.mp e1).1
      simpa using this
    rw [List.getElem?_reverse hi] at e1
    rw [List.getElem?_reverse (by omega)] at e2
    obtain ⟨w, a, b⟩ := h.get e1
    rw [← hl, a] at e2; cases e2; exact b

theorem sqL_keep {a : Addr} {xs : List V} (h : ∀ o, H a = some o → H' a = some o) (q : SqL K H a xs) : SqL K H' a xs := by
  rcases q with (q | ⟨o, q⟩) | q
  · exact .inl (.inl (h _ q))
  · exact .inl (.inr ⟨o, h _ q⟩)
  · exact .inr q
theorem NL.sqT (h : NL H H') {a : Addr} {xs : List V} (s : SqT K H a xs) : SqT K H' a xs := by
  rcases s with (s | ⟨o, s⟩) | s
  · exact .inl (.inl (h a _ s (by simp [Mut])))
  · exact .inl (.inr ⟨o, h a _ s (by simp [Mut])⟩)
  · exact .inr s
mutual
theorem RSh.pres (h1 : ∀ a, Z a → Z' a) (h2 : NL H H') (h3 : ∀ a o, Z a → H a = some o → H' a = some o) : ∀ (d : D) (v : V), RSh K Z H d v → RSh K Z' H' d v
  | .non, _, h => by simpa only [RSh] using h
  | .bl _, _, h => by simpa only [RSh] using h
  | .int _, _, h => by simpa only [RSh] using h
  | .str _, _, h => by simpa only [RSh] using h
  | .tup l, _, h => by
    simp only [RSh] at h ⊢
    obtain ⟨a, xs, e, q, r⟩ := h
    exact ⟨a, xs, e, NL.sqT h2 q, RShL.pres h1 h2 h3 l xs r⟩
  | .lst l, _, h => by
    simp only [RSh] at h ⊢
    obtain ⟨a, xs, e, z, q, r⟩ := h
    exact ⟨a, xs, e, h1 a z, h3 a _ z q, RShL.pres h1 h2 h3 l xs r⟩
  | .scr ns, _, h => by
    simp only [RSh] at h ⊢
    obtain ⟨a, e, z, q⟩ := h
    exact ⟨a, e, z.imp (h1 a) id, z.elim (fun z => sqL_keep (fun o => h3 a o z) q) (fun z => z H')⟩
  | .dct ks vs, _, h => by
    simp only [RSh] at h ⊢
    obtain ⟨a, kvs, e, z, q, r1, r2⟩ := h
    exact ⟨a, kvs, e, h1 a z, h3 a _ z q, RShL.pres h1 h2 h3 ks _ r1, RShL.pres h1 h2 h3 vs _ r2⟩
  | .ins c ns fs, _, h => by
    simp only [RSh] at h ⊢
    obtain ⟨C, a, dx, xs, e, k1, k2, k3, q, l, r⟩ := h
    exact ⟨C, a, dx, xs, e, k1, k2, k3, h2 a _ q (by simp [Mut]), l, RShL.pres h1 h2 h3 fs xs r⟩
theorem RShL.pres (h1 : ∀ a, Z a → Z' a) (h2 : NL H H') (h3 : ∀ a o, Z a → H a = some o → H' a = some o) : ∀ (ds : List D) (vs : List V), RShL K Z H ds vs → RShL K Z' H' ds vs
  | [], _, h => by simpa only [RShL] using h
  | d :: ds, _, h => by
    simp only [RShL] at h ⊢
    obtain ⟨w, ws, e, a, b⟩ := h
    exact ⟨w, ws, e, RSh.pres h1 h2 h3 d w a, RShL.pres h1 h2 h3 ds ws b⟩
end
theorem RSh.monoZ {d : D} {v : V} (h1 : ∀ a, Z a → Z' a) (h : RSh K Z H d v) : RSh K Z' H d v := RSh.pres h1 (fun _ _ q _ => q) (fun _ _ _ q => q) d v h
theorem RShL.monoZ {d : List D} {v : List V} (h1 : ∀ a, Z a → Z' a) (h : RShL K Z H d v) : RShL K Z' H d v := RShL.pres h1 (fun _ _ q _ => q) (fun _ _ _ q => q) d v h
theorem R.mono : ∀ {t : OT} {d : D} {v : V} {S S' : Addr → Prop}, R K Z H t d v S → (∀ a, S a → S' a) → R K Z H t d v S'
  | .sh, _, _, _, _, h, _ => h
  | .ol t0 t, _, _, _, _, h, m => by
    obtain ⟨l, a, xs, ow, e1, e2, e3, e4, e5, e6, e7, e8⟩ := h
    exact ⟨l, a, xs, ow, e1, e2, e3, m a e4, e5, e6, fun d v p q => R.mono (e7 d v p q) fun b hb => ⟨m b hb.1, hb.2⟩, fun k d v p q => R.mono (e8 k d v p q) fun b hb => ⟨m b hb.1, hb.2⟩⟩
theorem R.pres (h1 : ∀ a, Z a → Z' a) (h2 : NL H H') (h3 : ∀ a o, Z a → H a = some o → H' a = some o) :
    ∀ {t : OT} {d : D} {v : V} {S : Addr → Prop}, (∀ a o, S a → H a = some o → H' a = some o) → R K Z H t d v S → R K Z' H' t d v S
  | .sh, d, v, _, _, h => RSh.pres h1 h2 h3 d v h
  | .ol t0 t, _, _, S, m, h => by
    obtain ⟨l, a, xs, ow, e1, e2, e3, e4, e5, e6, e7, e8⟩ := h
    exact ⟨l, a, xs, ow, e1, e2, m a _ e4 e3, e4, e5, e6, fun d v p q => R.pres h1 h2 h3 (fun b ys hb => m b ys hb.1) (e7 d v p q), fun k d v p q => R.pres h1 h2 h3 (fun b ys hb => m b ys hb.1) (e8 k d v p q)⟩
/-- what is owned may be shared from now on -/
theorem R.freeze : ∀ {t : OT} {d : D} {v : V} {S : Addr → Prop}, R K Z H t d v S → RSh K (fun a => Z a ∨ S a) H d v
  | .sh, d, v, _, h => RSh.monoZ (fun _ z => .inl z) h
  | .ol t0 t, _, _, S, h => by
    obtain ⟨l, a, xs, ow, rfl, rfl, e3, e4, e5, e6, e7, e8⟩ := h
    simp only [RSh]
    refine ⟨a, xs, rfl, .inr e4, e3, .of_get e6 fun i d v p q => ?_⟩
    cases i with
    | zero => exact RSh.monoZ (fun b z => z.elim .inl fun z => .inr z.1) (R.freeze (e7 d v p q))
    | succ k => exact RSh.monoZ (fun b z => z.elim .inl fun z => .inr z.1) (R.freeze (e8 k d v p q))
end

/-! ### the slots -/
structure RS (K : PySem.W.Frag) (τ : Nat → OT) (Z : Addr → Prop) (own : Addr → Option Nat) (H : Hp) (ρ : Sl) (σ : St) : Prop where
  sl : ∀ i d, ρ[i]? = some (some d) → ∃ v, σ[i]? = some (some v) ∧ R K Z H (τ i) d v (fun a => own a = some i)
  ls : ∀ a i, own a = some i → ∃ o, H a = some o ∧ Mut o
  dz : ∀ a i, own a = some i → ¬ Z a
  zt : ∀ a, Z a → H a ≠ none
  len : ρ.length ≤ σ.length
/-- a step: what was shared is shared, what stood stands but for what is owned; fx tells the slots that may not be given up -/
structure ExtF (fx : Nat → Bool) (q : Bool) (Z : Addr → Prop) (own : Addr → Option Nat) (H : Hp) (Z' : Addr → Prop) (own' : Addr → Option Nat) (H' : Hp) : Prop where
  z : ∀ a, Z a → Z' a
  zn : ∀ a, Z' a → Z a ∨ H a = none ∨ ∃ i, own a = some i ∧ fx i = false
  on : ∀ a i, own' a = some i → own a = some i ∨ H a = none
  keep : ∀ a o, H a = some o → (own a = none ∨ q = true) → H' a = some o
  live : ∀ a, H a ≠ none → H' a ≠ none
abbrev fxT : Nat → Bool := fun _ => true
abbrev Ext (q : Bool) (Z : Addr → Prop) (own : Addr → Option Nat) (H : Hp) (Z' : Addr → Prop) (own' : Addr → Option Nat) (H' : Hp) : Prop := ExtF fxT q Z own H Z' own' H'
section
variable {K : PySem.W.Frag} {τ : Nat → OT} {Z Z1 Z2 : Addr → Prop} {own own1 own2 : Addr → Option Nat} {H H1 H2 : Hp} {ρ : Sl} {σ : St} {q q1 q2 : Bool} {fx : Nat → Bool}
theorem ExtF.refl : ExtF fx q Z own H Z own H := ⟨fun _ z => z, fun _ z => .inl z, fun _ _ z => .inl z, fun _ _ e _ => e, fun _ e => e⟩
theorem ExtF.back (a : ExtF fx q Z own H Z1 own1 H1) {c : Addr} (e : H1 c = none) : H c = none := Classical.byContradiction fun n => a.live c n e
theorem ExtF.trans (a : ExtF fx q1 Z own H Z1 own1 H1) (b : ExtF fx q2 Z1 own1 H1 Z2 own2 H2) : ExtF fx (q1 && q2) Z own H Z2 own2 H2 where
  z := fun c h => b.z c (a.z c h)
  zn := fun c h => by
    rcases b.zn c h with h | h | ⟨i, h, hf⟩
    · exact a.zn c h
    · exact .inr (.inl (a.back h))
    · exact (a.on c i h).elim (fun z => .inr (.inr ⟨i, z, hf⟩)) fun z => .inr (.inl z)
  on := fun c i h => (b.on c i h).elim (a.on c i) fun e => .inr (a.back e)
  keep := fun c o e h => by
    rcases h with h | h
    · refine b.keep c o (a.keep c o e (.inl h)) (.inl (Classical.byContradiction fun n => ?_))
      cases ho : own1 c with
      | none => exact n ho
      | some i =>
        rcases a.on c i ho with z | z
        · rw [h] at z; cases z
        · rw [e] at z; cases z
    · simp only [Bool.and_eq_true] at h
      exact b.keep c o (a.keep c o e (.inr h.1)) (.inr h.2)
  live := fun c h => b.live c (a.live c h)
theorem ExtF.weak (a : ExtF fx q Z own H Z1 own1 H1) : ExtF fx false Z own H Z1 own1 H1 := ⟨a.z, a.zn, a.on, fun c o e h => a.keep c o e (h.elim .inl fun z => nomatch z), a.live⟩
theorem ExtF.transF (a : ExtF fx q1 Z own H Z1 own1 H1) (b : ExtF fx q2 Z1 own1 H1 Z2 own2 H2) : ExtF fx false Z own H Z2 own2 H2 := (a.trans b).weak
theorem ExtF.any (a : Ext q Z own H Z1 own1 H1) : ExtF fx q Z own H Z1 own1 H1 := ⟨a.z, fun c h => (a.zn c h).elim .inl (fun h => h.elim (fun z => .inr (.inl z)) (fun ⟨_, _, z⟩ => absurd z (by simp))), a.on, a.keep, a.live⟩
theorem RS.nl (h : RS K τ Z own H ρ σ) (e : ExtF fx q Z own H Z1 own1 H1) : NL H H1 := fun a u hu hn => e.keep a u hu (.inl (by
    cases ho : own a with
    | none => rfl
    | some i =>
      obtain ⟨ys, hy, hm⟩ := h.ls a i ho
      rw [hu] at hy
      cases hy
      exact absurd hm hn))
theorem RS.sqT (h : RS K τ Z own H ρ σ) (e : ExtF fx q Z own H Z1 own1 H1) {a : Addr} {xs : List V} (s : SqT K H a xs) : SqT K H1 a xs := NL.sqT (h.nl e) s
theorem RS.kz (h : RS K τ Z own H ρ σ) (e : ExtF fx q Z own H Z1 own1 H1) {a : Addr} {u : HO} (z : Z a ∨ q = true) (hu : H a = some u) : H1 a = some u := e.keep a u hu (z.elim (fun z => .inl (by
    cases ho : own a with
    | none => rfl
    | some i => exact absurd z (h.dz a i ho))) .inr)
theorem RS.sh (h : RS K τ Z own H ρ σ) (e : ExtF fx q Z own H Z1 own1 H1) {d : D} {v : V} (r : RSh K Z H d v) : RSh K Z1 H1 d v :=
  RSh.pres e.z (h.nl e) (fun _ _ z s => h.kz e (.inl z) s) d v r
theorem RS.shL (h : RS K τ Z own H ρ σ) (e : ExtF fx q Z own H Z1 own1 H1) {d : List D} {v : List V} (r : RShL K Z H d v) : RShL K Z1 H1 d v :=
  RShL.pres e.z (h.nl e) (fun _ _ z s => h.kz e (.inl z) s) d v r
/-- a value that is owned by none of the slots -/
theorem RS.apart (h : RS K τ Z own H ρ σ) (e : ExtF fx q Z own H Z1 own1 H1) {t : OT} {d : D} {v : V} {S : Addr → Prop} (hS : ∀ a, S a → own a = none) (r : R K Z H t d v S) : R K Z1 H1 t d v S :=
  R.pres e.z (h.nl e) (fun _ _ z s => h.kz e (.inl z) s) (fun a xs s hx => e.keep a _ hx (.inl (hS a s))) r
end

/-- a value at hand: shared, or a list that a slot owns whose items are shared -/
def RPk (K : PySem.W.Frag) (Z : Addr → Prop) (own : Addr → Option Nat) (H : Hp) (d : D) (v : V) : Prop :=
  RSh K Z H d v ∨ ∃ l a xs, d = .lst l ∧ v = .ref a ∧ H a = some (.lst xs) ∧ own a ≠ none ∧ RShL K Z H l xs
/-- what is known of a value just told -/
def Rm (K : PySem.W.Frag) (Z : Addr → Prop) (own : Addr → Option Nat) (H : Hp) : Md → D → V → (Addr → Prop) → Prop
  | .pk, d, v, _ => RPk K Z own H d v
  | .ow t, d, v, S => R K Z H t d v S
/-- a region of new lists -/
def NewR (H : Hp) (Z' : Addr → Prop) (own' : Addr → Option Nat) (H' : Hp) (S : Addr → Prop) : Prop := ∀ a, S a → H a = none ∧ own' a = none ∧ ¬ Z' a ∧ ∃ o, H' a = some o ∧ Mut o
def tE (K : PySem.W.Frag) (τ : Nat → OT) (q : Bool) (md : Md) (m : M D) : TE := fun σ H Q => ∃ Z own ρ d ρ', RS K τ Z own H ρ σ ∧ m ρ = .ok (d, ρ') ∧
  ∀ v Z' own' H' S, RS K τ Z' own' H' ρ' σ → Rm K Z' own' H' md d v S → NewR H Z' own' H' S → Ext q Z own H Z' own' H' → Q v H'
theorem _root_.L2.PE.mono {X : Cx} {e : Expr} {t t' : TE} (h : PE X e t) (f : ∀ σ H Q, t' σ H Q → t σ H Q) : PE X e t' := ⟨fun pins s σ H Q I hw => h.run pins s σ H Q I (f σ H Q hw)⟩
theorem _root_.L2.PT.mono {X : Cx} {e : Expr} {t t' : TT} (h : PT X e t) (f : ∀ σ H Q, t' σ H Q → t σ H Q) : PT X e t' := ⟨fun pins s σ H Q I hw => h.run pins s σ H Q I (f σ H Q hw)⟩
theorem _root_.L2.PA.mono {X : Cx} {e : List Expr} {t t' : TA} (h : PA X e t) (f : ∀ σ H Q, t' σ H Q → t σ H Q) : PA X e t' := ⟨fun pins n s σ H Q I hw => h.run pins n s σ H Q I (f σ H Q hw)⟩
theorem _root_.L2.PS.mono {X : Cx} {e : Stmt} {t t' : TS} (h : PS X e t) (f : ∀ D σ H, t' D σ H → t D σ H) : PS X e t' := ⟨fun pins s σ H Q I hw => h.run pins s σ H Q I (f Q σ H hw)⟩
theorem _root_.L2.PSs.mono {X : Cx} {e : List Stmt} {t t' : TS} (h : PSs X e t) (f : ∀ D σ H, t' D σ H → t D σ H) : PSs X e t' := ⟨fun pins s σ H Q I hw => h.run pins s σ H Q I (f Q σ H hw)⟩
theorem _root_.L2.PI.mono {X : Cx} {tg e : Expr} {t t' : TI} (h : PI X tg e t) (f : ∀ σ H Q, t' σ H Q → t σ H Q) : PI X tg e t' := ⟨fun pins s σ H Q I hw => h.run pins s σ H Q I (f σ H Q hw)⟩
end CL

namespace CL
open PySem PySem.Spec L2
set_option autoImplicit false
/-! ### functions of data -/
def bind {α β : Type} (m : M α) (f : α → M β) : M β := fun ρ => match m ρ with | .ok (a, ρ') => f a ρ' | .exc e => .exc e | .bad => .bad
def ofO (o : Option D) : M D := fun ρ => match o with | some d => .ok (d, ρ) | none => .bad
def mC (d : D) : M D := fun ρ => .ok (d, ρ)
def mV (i : Nat) : M D := fun ρ => match ρ[i]? with | some (some d) => .ok (d, ρ) | _ => .bad
def m1 (f : D → Option D) (a : M D) : M D := bind a fun x => ofO (f x)
def m2 (f : D → D → Option D) (a b : M D) : M D := bind a fun x => bind b fun y => ofO (f x y)
def mNil : M (List D) := fun ρ => .ok ([], ρ)
def mCons (a : M D) (r : M (List D)) : M (List D) := bind a fun x => bind r fun xs => fun ρ => .ok (x :: xs, ρ)
def mN (f : List D → Option D) (as : M (List D)) : M D := bind as fun xs => ofO (f xs)
theorem bind_ok {α β : Type} {m : M α} {f : α → M β} {ρ ρ'' : Sl} {b : β} (h : bind m f ρ = .ok (b, ρ'')) : ∃ a ρ', m ρ = .ok (a, ρ') ∧ f a ρ' = .ok (b, ρ'') := by
  unfold bind at h
  split at h
  · rename_i a ρ' e; exact ⟨a, ρ', e, h⟩
  · cases h
  · cases h
theorem bind_of {α β : Type} {m : M α} {f : α → M β} {ρ ρ' : Sl} {a : α} (h : m ρ = .ok (a, ρ')) : bind m f ρ = f a ρ' := by unfold bind; rw [h]
theorem ofO_ok {o : Option D} {ρ ρ' : Sl} {d : D} (h : ofO o ρ = .ok (d, ρ')) : o = some d ∧ ρ' = ρ := by
  unfold ofO at h
  split at h
  · cases h; exact ⟨rfl, rfl⟩
  · cases h

/-! ### operations on values -/
/-- a value at hand, whoever owns it -/
def Pk0 (K : PySem.W.Frag) (Z : Addr → Prop) (H : Hp) (d : D) (v : V) : Prop :=
  RSh K Z H d v ∨ ∃ l a xs, d = .lst l ∧ v = .ref a ∧ H a = some (.lst xs) ∧ RShL K Z H l xs
def Pk0L (K : PySem.W.Frag) (Z : Addr → Prop) (H : Hp) : List D → List V → Prop
  | [], vs => vs = []
  | d :: ds, vs => ∃ w ws, vs = w :: ws ∧ Pk0 K Z H d w ∧ Pk0L K Z H ds ws
def Grow (H H' : Hp) : Prop := ∀ a o, H a = some o → H' a = some o
def NewS (H H' : Hp) (S : Addr → Prop) : Prop := ∀ a, S a → H a = none ∧ ∃ o, H' a = some o ∧ Mut o
/-- a shared value, or a new list of shared ones -/
def RF (K : PySem.W.Frag) (Z : Addr → Prop) (H : Hp) (d : D) (v : V) (S : Addr → Prop) : Prop := RSh K Z H d v ∨ R K Z H (.ol .sh .sh) d v S
def rF1 (K : PySem.W.Frag) (f : D → Option D) : V → Hp → VK → Prop := fun x H Q => ∃ Z a d, Pk0 K Z H a x ∧ f a = some d ∧ ∀ v H' S, Grow H H' → RF K Z H' d v S → NewS H H' S → Q v H'
def rF2 (K : PySem.W.Frag) (f : D → D → Option D) : R2 := fun x y H Q => ∃ Z a b d, Pk0 K Z H a x ∧ Pk0 K Z H b y ∧ f a b = some d ∧ ∀ v H' S, Grow H H' → RF K Z H' d v S → NewS H H' S → Q v H'
def rFn (K : PySem.W.Frag) (f : List D → Option D) : List V → Hp → VK → Prop := fun xs H Q => ∃ Z ds d, Pk0L K Z H ds xs ∧ f ds = some d ∧ ∀ v H' S, Grow H H' → RF K Z H' d v S → NewS H H' S → Q v H'
theorem Grow.refl {H : Hp} : Grow H H := fun _ _ e => e
theorem Grow.trans {H H1 H2 : Hp} (a : Grow H H1) (b : Grow H1 H2) : Grow H H2 := fun c o e => b c o (a c o e)
theorem Grow.new {H : Hp} {p : Addr} {o : HO} (h : H p = none) : Grow H (upd H p o) := fun a u e => by rw [upd_ne (ne_of_none e h)]; exact e
theorem NewS.none {H H' : Hp} : NewS H H' fun _ => False := fun _ h => h.elim
theorem NewS.one {H : Hp} {p : Addr} {o : HO} (hm : Mut o) (h : H p = .none) : NewS H (upd H p o) (fun a => a = p) := fun a e => by subst e; exact ⟨h, o, upd_same, hm⟩
section
variable {K : PySem.W.Frag} {τ : Nat → OT} {Z Z1 Z2 : Addr → Prop} {own own1 own2 : Addr → Option Nat} {H H' H1 H2 : Hp} {ρ : Sl} {σ : St} {q q1 q2 : Bool} {S : Addr → Prop}
theorem Grow.sqT (g : Grow H H') {a : Addr} {xs : List V} (s : SqT K H a xs) : SqT K H' a xs := by
  rcases s with (s | ⟨o, s⟩) | s
  · exact .inl (.inl (g _ _ s))
  · exact .inl (.inr ⟨o, g _ _ s⟩)
  · exact .inr s
theorem Grow.sqL (g : Grow H H') {a : Addr} {xs : List V} (s : SqL K H a xs) : SqL K H' a xs := by
  rcases s with (s | ⟨o, s⟩) | s
  · exact .inl (.inl (g _ _ s))
  · exact .inl (.inr ⟨o, g _ _ s⟩)
  · exact .inr s
theorem Grow.sh (g : Grow H H') {d : D} {v : V} (h : RSh K Z H d v) : RSh K Z H' d v := RSh.pres (fun _ z => z) (fun a o e _ => g a o e) (fun a o _ e => g a o e) d v h
theorem Grow.shL (g : Grow H H') {d : List D} {v : List V} (h : RShL K Z H d v) : RShL K Z H' d v := RShL.pres (fun _ z => z) (fun a o e _ => g a o e) (fun a o _ e => g a o e) d v h
theorem Grow.r (g : Grow H H') {t : OT} {d : D} {v : V} (h : R K Z H t d v S) : R K Z H' t d v S := R.pres (fun _ z => z) (fun a o e _ => g a o e) (fun a o _ e => g a o e) (fun a xs _ e => g a _ e) h
theorem RF.freeze {d : D} {v : V} (h : RF K Z H d v S) : RSh K (fun a => Z a ∨ S a) H d v := h.elim (RSh.monoZ fun _ => .inl) R.freeze
theorem RF.list {l : List D} {p : Addr} {xs : List V} (h : RShL K Z H l xs) (e : H p = some (.lst xs)) : RF K Z H (.lst l) (.ref p) (fun a => a = p) :=
  .inr ⟨l, p, xs, fun a => if a = p then Option.none else some 0, rfl, rfl, e, rfl, by simp, h.len, fun d v e1 e2 => by
    obtain ⟨w, a, b⟩ := h.get e1
    rw [e2] at a; cases a; exact b, fun k d v e1 e2 => by
    obtain ⟨w, a, b⟩ := h.get e1
    rw [e2] at a; cases a; exact b⟩
theorem RF.tup {l : List D} {p : Addr} {xs : List V} (h : RShL K Z H l xs) (e : SqT K H p xs) : RF K Z H (.tup l) (.ref p) (fun _ => False) := .inl (by simp only [RSh]; exact ⟨p, xs, rfl, e, h⟩)
theorem RPk.pk0 {d : D} {v : V} (h : RPk K Z own H d v) : Pk0 K Z H d v := h.elim .inl fun ⟨l, a, xs, e1, e2, e3, _, e5⟩ => .inr ⟨l, a, xs, e1, e2, e3, e5⟩
theorem RS.grow (h : RS K τ Z own H ρ σ) (g : Grow H H') (n : NewS H H' S) : RS K τ (fun a => Z a ∨ S a) own H' ρ σ where
  sl := fun i d e => by
    obtain ⟨v, e1, e2⟩ := h.sl i d e
    exact ⟨v, e1, R.pres (fun _ z => .inl z) (fun a o e _ => g a o e) (fun a o _ e => g a o e) (fun a xs _ e => g a _ e) e2⟩
  ls := fun a i e => by
    obtain ⟨xs, hx, hm⟩ := h.ls a i e
    exact ⟨xs, g a _ hx, hm⟩
  dz := fun a i e z => by
    rcases z with z | z
    · exact h.dz a i e z
    · obtain ⟨xs, hx, _⟩ := h.ls a i e
      rw [(n a z).1] at hx; cases hx
  zt := fun a z => z.elim (fun z e => by
    cases he : H a with
    | none => exact h.zt a z he
    | some o => rw [g a o he] at e; cases e) fun z e => by obtain ⟨xs, hx, _⟩ := (n a z).2; rw [hx] at e; cases e
  len := h.len
theorem ExtF.grow {fx : Nat → Bool} (g : Grow H H') (n : NewS H H' S) : ExtF fx q Z own H (fun a => Z a ∨ S a) own H' :=
  ⟨fun _ z => .inl z, fun a z => z.elim .inl fun z => .inr (.inl (n a z).1), fun _ _ z => .inl z, fun a o e _ => g a o e, fun a e z => by
    cases he : H a with
    | none => exact e he
    | some o => rw [g a o he] at z; cases z⟩
theorem ExtF.growO {fx : Nat → Bool} (g : Grow H H') : ExtF fx q Z own H Z own H' :=
  ⟨fun _ z => z, fun a z => .inl z, fun _ _ z => .inl z, fun a o e _ => g a o e, fun a e z => by
    cases he : H a with
    | none => exact e he
    | some o => rw [g a o he] at z; cases z⟩
theorem RS.growO (h : RS K τ Z own H ρ σ) (g : Grow H H') : RS K τ Z own H' ρ σ where
  sl := fun i d e => by
    obtain ⟨v, e1, e2⟩ := h.sl i d e
    exact ⟨v, e1, R.pres (fun _ z => z) (fun a o e _ => g a o e) (fun a o _ e => g a o e) (fun a xs _ e => g a _ e) e2⟩
  ls := fun a i e => by
    obtain ⟨xs, hx, hm⟩ := h.ls a i e
    exact ⟨xs, g a _ hx, hm⟩
  dz := h.dz
  zt := fun a z e => by
    cases he : H a with
    | none => exact h.zt a z he
    | some o => rw [g a o he] at e; cases e
  len := h.len
/-- what is at hand stays at hand -/
def Hand : Md → Prop
  | .pk => True
  | .ow .sh => True
  | .ow (.ol _ _) => False
theorem Rm.pk0 {md : Md} {d : D} {v : V} (hm : Hand md) (h : Rm K Z own H md d v S) : Pk0 K Z H d v := by
  cases md with
  | pk => exact RPk.pk0 h
  | ow t =>
    cases t with
    | sh => exact .inl h
    | ol _ _ => exact hm.elim
/-- at hand, behind another step -/
theorem RS.pk0 {fx : Nat → Bool} (h : RS K τ Z own H ρ σ) (e : ExtF fx q Z own H Z1 own1 H1) {md : Md} {d : D} {v : V} (hm : Hand md) (hq : md = .sh ∨ q = true) (r : Rm K Z own H md d v S) : Pk0 K Z1 H1 d v := by
  cases md with
  | pk =>
    rcases r with r | ⟨l, a, xs, e1, e2, e3, e4, e5⟩
    · exact .inl (h.sh e r)
    · exact .inr ⟨l, a, xs, e1, e2, e.keep a _ e3 (.inr (hq.elim (fun z => nomatch z) fun z => z)), h.shL e e5⟩
  | ow t =>
    cases t with
    | sh => exact .inl (h.sh e r)
    | ol _ _ => exact hm.elim
end
/-- arguments from the left -/
def tA (K : PySem.W.Frag) (τ : Nat → OT) (q : Bool) (m : M (List D)) : TA := fun σ H Q => ∃ Z own ρ ds ρ', RS K τ Z own H ρ σ ∧ m ρ = .ok (ds, ρ') ∧
  ∀ vs Z' own' H', RS K τ Z' own' H' ρ' σ → Pk0L K Z' H' ds vs → Ext q Z own H Z' own' H' → Q vs H'
/-- .. all of them shared -/
def tAs (K : PySem.W.Frag) (τ : Nat → OT) (q : Bool) (m : M (List D)) : TA := fun σ H Q => ∃ Z own ρ ds ρ', RS K τ Z own H ρ σ ∧ m ρ = .ok (ds, ρ') ∧
  ∀ vs Z' own' H', RS K τ Z' own' H' ρ' σ → RShL K Z' H' ds vs → Ext q Z own H Z' own' H' → Q vs H'
section
variable {X : Cx} {τ : Nat → OT} {q q1 q2 : Bool} {md md1 md2 : Md} {a b c e : Expr} {es : List Expr} {ma mb : M D} {ms : M (List D)} {pos : Pos}
theorem e_weak (h : PE X a (tE X.K τ q md ma)) : PE X a (tE X.K τ false md ma) := h.mono fun σ H Q ⟨Z, own, ρ, d, ρ', rs, e, k⟩ =>
  ⟨Z, own, ρ, d, ρ', rs, e, fun v Z' own' H' S r1 r2 r3 r4 => k v Z' own' H' S r1 r2 r3 r4.weak⟩
/-- shared, so at hand -/
theorem e_pk (h : PE X a (tE X.K τ q .sh ma)) : PE X a (tE X.K τ q .pk ma) := h.mono fun σ H Q ⟨Z, own, ρ, d, ρ', rs, e, k⟩ =>
  ⟨Z, own, ρ, d, ρ', rs, e, fun v Z' own' H' S r1 r2 r3 r4 => k v Z' own' H' S r1 (.inl r2) r3 r4⟩
/-- a new list, from now on shared -/
theorem e_sh {t : OT} (h : PE X a (tE X.K τ q (.ow t) ma)) : PE X a (tE X.K τ q .sh ma) := h.mono fun σ H Q ⟨Z, own, ρ, d, ρ', rs, e, k⟩ =>
  ⟨Z, own, ρ, d, ρ', rs, e, fun v Z' own' H' S r1 r2 r3 r4 => by
    refine k v (fun a => Z' a ∨ S a) own' H' (fun _ => False) ⟨fun i d e => ?_, r1.ls, fun a i e z => ?_, fun a z => z.elim (r1.zt a) (fun z e => by obtain ⟨xs, hx, _⟩ := (r3 a z).2.2.2; rw [hx] at e; cases e), r1.len⟩ (R.freeze r2) (fun _ z => z.elim) ⟨fun a z => .inl (r4.z a z), fun a z => z.elim (r4.zn a) fun z => .inr (.inl (r3 a z).1), r4.on, r4.keep, r4.live⟩
    · obtain ⟨v, e1, e2⟩ := r1.sl i d e
      exact ⟨v, e1, R.pres (fun _ z => .inl z) (fun _ _ s _ => s) (fun _ _ _ s => s) (fun _ _ _ e => e) e2⟩
    · rcases z with z | z
      · exact r1.dz a i e z
      · rw [(r3 a z).2.1] at e; cases e⟩
/-- the end of an operation: shared -/
theorem fin_sh {K : PySem.W.Frag} {Z Z1 : Addr → Prop} {own own1 : Addr → Option Nat} {H H1 H2 : Hp} {ρ1 : Sl} {σ : St} {d : D} {v : V} {S : Addr → Prop} {Q : VK} (rs : RS K τ Z1 own1 H1 ρ1 σ) (x : Ext q Z own H Z1 own1 H1) (g : Grow H1 H2) (r : RF K Z1 H2 d v S) (n : NewS H1 H2 S)
    (k : ∀ v Z' own' H' S, RS K τ Z' own' H' ρ1 σ → Rm K Z' own' H' .sh d v S → NewR H Z' own' H' S → Ext q Z own H Z' own' H' → Q v H') : Q v H2 :=
  k v _ own1 H2 (fun _ => False) (rs.grow g n) r.freeze (fun _ z => z.elim) (by have := x.trans (ExtF.grow (q := q) (Z := Z1) (own := own1) g n); rwa [Bool.and_self] at this)
/-- .. a new list of one's own -/
theorem fin_ol {K : PySem.W.Frag} {Z Z1 : Addr → Prop} {own own1 : Addr → Option Nat} {H H1 : Hp} {ρ1 : Sl} {σ : St} {l : List D} {vs : List V} {p : Addr} {Q : VK} (rs : RS K τ Z1 own1 H1 ρ1 σ) (x : Ext q Z own H Z1 own1 H1) (hp : H1 p = none) (rl : RShL K Z1 (upd H1 p (.lst vs)) l vs)
    (k : ∀ v Z' own' H' S, RS K τ Z' own' H' ρ1 σ → Rm K Z' own' H' (.ow (.ol .sh .sh)) (.lst l) v S → NewR H Z' own' H' S → Ext q Z own H Z' own' H' → Q v H') : Q (.ref p) (upd H1 p (.lst vs)) := by
  have g : Grow H1 (upd H1 p (.lst vs)) := Grow.new hp
  have nl : H p = none := Classical.byContradiction fun n => x.live p n hp
  refine k _ Z1 own1 _ (fun a => a = p) (rs.growO g) ?_ (fun a e => ?_) (by have := x.trans (ExtF.growO (q := q) (Z := Z1) (own := own1) g); rwa [Bool.and_self] at this)
  · refine ⟨l, p, vs, fun a => if a = p then Option.none else some 0, rfl, rfl, upd_same, rfl, by simp, rl.len, fun d v e1 e2 => ?_, fun k d v e1 e2 => ?_⟩
    · obtain ⟨w, a, b⟩ := rl.get e1
      rw [e2] at a; cases a; exact b
    · obtain ⟨w, a, b⟩ := rl.get e1
      rw [e2] at a; cases a; exact b
  · subst e
    refine ⟨nl, Classical.byContradiction fun n => ?_, fun z => rs.zt a z hp, _, upd_same, trivial⟩
    cases ho : own1 a with
    | none => exact n ho
    | some i => obtain ⟨ys, hy, _⟩ := rs.ls a i ho; rw [hp] at hy; cases hy
theorem e_1 {f : D → Option D} {op : UnaryOp} (ho : UnR X (unaryOp op) (rF1 X.K f)) (ha : PE X a (tE X.K τ q md ma)) (hm : Hand md := by trivial) : PE X (.UnaryOp op a pos) (tE X.K τ q .sh (m1 f ma)) :=
  (pe_un ho ha).mono fun σ H Q ⟨Z, own, ρ, d, ρ', rs, e, k⟩ => by
    obtain ⟨x, ρ1, e1, e⟩ := bind_ok e
    obtain ⟨e3, rfl⟩ := ofO_ok e
    exact ⟨Z, own, ρ, x, ρ', rs, e1, fun v Z1 own1 H1 S1 rs1 rm1 _ x1 => ⟨Z1, x, d, rm1.pk0 hm, e3, fun w H2 S g r n => fin_sh rs1 x1 g r n k⟩⟩
theorem two {f : D → D → Option D} (hm1 : Hand md1) (hm2 : Hand md2) (hq : md1 = .sh ∨ q2 = true) : ∀ σ H Q, tE X.K τ (q1 && q2) .sh (m2 f ma mb) σ H Q → tOp (rF2 X.K f) (tE X.K τ q1 md1 ma) (tE X.K τ q2 md2 mb) σ H Q := fun σ H Q ⟨Z, own, ρ, d, ρ', rs, e, k⟩ => by
  obtain ⟨x, ρ1, e1, e⟩ := bind_ok e
  obtain ⟨y, ρ2, e2, e⟩ := bind_ok e
  obtain ⟨e3, rfl⟩ := ofO_ok e
  exact ⟨Z, own, ρ, x, ρ1, rs, e1, fun v Z1 own1 H1 S1 rs1 rm1 _ x1 => ⟨Z1, own1, ρ1, y, ρ', rs1, e2, fun w Z2 own2 H2 S2 rs2 rm2 _ x2 =>
    ⟨Z2, x, y, d, rs1.pk0 x2 hm1 hq rm1, rm2.pk0 hm2, e3, fun u H3 S g r n => fin_sh rs2 (x1.trans x2) g r n k⟩⟩⟩
theorem e_2 {f : D → D → Option D} {op : Operator} (ho : OpR X (binaryOp op) (rF2 X.K f)) (ha : PE X a (tE X.K τ q1 md1 ma)) (hb : PE X b (tE X.K τ q2 md2 mb)) (hm1 : Hand md1 := by trivial) (hm2 : Hand md2 := by trivial) (hq : md1 = .sh ∨ q2 = true := by first | exact .inl rfl | exact .inr rfl) :
    PE X (.BinOp a op b pos) (tE X.K τ (q1 && q2) .sh (m2 f ma mb)) := (pe_op ho ha hb).mono (two hm1 hm2 hq)
theorem e_cmp {f : D → D → Option D} {op : CmpOp} (ho : OpR X (compareOp op) (rF2 X.K f)) (ha : PE X a (tE X.K τ q1 md1 ma)) (hb : PE X b (tE X.K τ q2 md2 mb)) (hm1 : Hand md1 := by trivial) (hm2 : Hand md2 := by trivial) (hq : md1 = .sh ∨ q2 = true := by first | exact .inl rfl | exact .inr rfl) (hm : behindInMarks op b = false := by first | exact nomark _ | rfl) :
    PE X (.Compare a [op] [b] pos) (tE X.K τ (q1 && q2) .sh (m2 f ma mb)) := (pe_cmpR ho ha hb hm).mono (two hm1 hm2 hq)
theorem e_ix {f : D → D → Option D} (hr : IxR X (rF2 X.K f)) (ha : PE X a (tE X.K τ q1 md1 ma)) (hb : PE X b (tE X.K τ q2 md2 mb)) (hm1 : Hand md1 := by trivial) (hm2 : Hand md2 := by trivial) (hq : md1 = .sh ∨ q2 = true := by first | exact .inl rfl | exact .inr rfl) (hs : PlainIx b := by exact fun _ _ => rfl) :
    PE X (.Subscript a b pos) (tE X.K τ (q1 && q2) .sh (m2 f ma mb)) := (pe_ix hr ha hb hs).mono (two hm1 hm2 hq)
theorem Pk0L.len {K : PySem.W.Frag} {Z : Addr → Prop} {H : Hp} : ∀ {ds : List D} {vs : List V}, Pk0L K Z H ds vs → ds.length = vs.length
  | [], _, h => by simp only [Pk0L] at h; subst h; rfl
  | d :: ds, _, h => by
    obtain ⟨w, ws, rfl, _, h2⟩ := h
    simp [Pk0L.len h2]
theorem a_nil : PA X [] (tA X.K τ true mNil) := pa_nil.mono fun σ H Q ⟨Z, own, ρ, ds, ρ', rs, e, k⟩ => by
  have e := e
  unfold mNil at e
  cases e
  exact k [] Z own H rs rfl ExtF.refl
theorem a_cons (ha : PE X a (tE X.K τ q1 md1 ma)) (hr : PA X es (tA X.K τ q2 ms)) (hm1 : Hand md1 := by trivial) (hq : md1 = .sh ∨ q2 = true := by first | exact .inl rfl | exact .inr rfl) (hs : starEach (a :: es) X.env = (false, eval a X.env) :: starEach es X.env := by rfl) :
    PA X (a :: es) (tA X.K τ (q1 && q2) (mCons ma ms)) := (pa_cons ha hr hs).mono fun σ H Q ⟨Z, own, ρ, ds, ρ', rs, e, k⟩ => by
  obtain ⟨x, ρ1, e1, e⟩ := bind_ok e
  obtain ⟨xs, ρ2, e2, e⟩ := bind_ok e
  cases e
  exact ⟨Z, own, ρ, x, ρ1, rs, e1, fun v Z1 own1 H1 S1 rs1 rm1 _ x1 => ⟨Z1, own1, ρ1, xs, ρ', rs1, e2, fun ws Z2 own2 H2 rs2 rl x2 =>
    k (v :: ws) Z2 own2 H2 rs2 ⟨v, ws, rfl, rs1.pk0 x2 hm1 hq rm1, rl⟩ (x1.trans x2)⟩⟩
theorem as_nil : PA X [] (tAs X.K τ true mNil) := pa_nil.mono fun σ H Q ⟨Z, own, ρ, ds, ρ', rs, e, k⟩ => by
  have e := e
  unfold mNil at e
  cases e
  exact k [] Z own H rs (by simp only [RShL]) ExtF.refl
theorem as_cons (ha : PE X a (tE X.K τ q1 .sh ma)) (hr : PA X es (tAs X.K τ q2 ms)) (hs : starEach (a :: es) X.env = (false, eval a X.env) :: starEach es X.env := by rfl) :
    PA X (a :: es) (tAs X.K τ (q1 && q2) (mCons ma ms)) := (pa_cons ha hr hs).mono fun σ H Q ⟨Z, own, ρ, ds, ρ', rs, e, k⟩ => by
  obtain ⟨x, ρ1, e1, e⟩ := bind_ok e
  obtain ⟨xs, ρ2, e2, e⟩ := bind_ok e
  cases e
  exact ⟨Z, own, ρ, x, ρ1, rs, e1, fun v Z1 own1 H1 S1 rs1 rm1 _ x1 => ⟨Z1, own1, ρ1, xs, ρ', rs1, e2, fun ws Z2 own2 H2 rs2 rl x2 =>
    k (v :: ws) Z2 own2 H2 rs2 (by simp only [RShL]; exact ⟨v, ws, rfl, rs1.sh x2 rm1, rl⟩) (x1.trans x2)⟩⟩
theorem nary {f : List D → Option D} : ∀ σ H Q, tE X.K τ q .sh (mN f ms) σ H Q → tCB (rFn X.K f) (tA X.K τ q ms) σ H Q := fun σ H Q ⟨Z, own, ρ, d, ρ', rs, e, k⟩ => by
  obtain ⟨xs, ρ1, e1, e⟩ := bind_ok e
  obtain ⟨e3, rfl⟩ := ofO_ok e
  exact ⟨Z, own, ρ, xs, ρ', rs, e1, fun vs Z1 own1 H1 rs1 rl x1 => ⟨Z1, xs, d, rl, e3, fun u H3 S g r n => fin_sh rs1 x1 g r n k⟩⟩
theorem e_callB {f : List D → Option D} {x : Str} {id : String} {p : Pos} (hc : CallR X (.builtin id) (rFn X.K f)) (ha : PA X (e :: es) (tA X.K τ q ms)) (hg : Gl X x := by rfl) (hm : X.mg x = none := by assumption) (hv : bootBuiltins x = some (.builtin id) := by decide +kernel) (hn : x ≠ "__name__" := by decide) (hdb : (x == ("__debug__" : Str)) = false := by decide) (hst : starEach (e :: es) X.env = (false, eval e X.env) :: starEach es X.env := by rfl) (hpl : (backTo pos (starEach es X.env)).any (·.1) = false := by rfl) :
    PE X (.Call (.Name x p) (e :: es) [] pos) (tE X.K τ q .sh (mN f ms)) := (pe_callB hc hg hm hv ha hn hdb hst hpl).mono nary
theorem e_callTy {f : List D → Option D} {x : Str} {T : String} {p : Pos} (hc : CallR X (.type T) (rFn X.K f)) (ha : PA X (e :: es) (tA X.K τ q ms)) (hg : Gl X x := by rfl) (hm : X.mg x = none := by assumption) (hv : bootBuiltins x = some (.type T) := by decide +kernel) (hn : x ≠ "__name__" := by decide) (hdb : (x == ("__debug__" : Str)) = false := by decide) (hst : starEach (e :: es) X.env = (false, eval e X.env) :: starEach es X.env := by rfl) (hpl : (backTo pos (starEach es X.env)).any (·.1) = false := by rfl) :
    PE X (.Call (.Name x p) (e :: es) [] pos) (tE X.K τ q .sh (mN f ms)) := (pe_callTy hc hg hm hv ha hn hdb hst hpl).mono nary
/-! constants, names -/
theorem e_int {i : Int} {j : Nat} : PE X (.Constant (.int i) j pos) (tE X.K τ true .sh (mC (.int i))) := pe_int.mono fun σ H Q ⟨Z, own, ρ, d, ρ', rs, e, k⟩ => by
  unfold mC at e; cases e
  exact k _ Z own H (fun _ => False) rs (by simp only [Rm, R, RSh]) (fun _ z => z.elim) ExtF.refl
theorem e_bl {i : Bool} {j : Nat} : PE X (.Constant (.bool i) j pos) (tE X.K τ true .sh (mC (.bl i))) := pe_bl.mono fun σ H Q ⟨Z, own, ρ, d, ρ', rs, e, k⟩ => by
  unfold mC at e; cases e
  exact k _ Z own H (fun _ => False) rs (by simp only [Rm, R, RSh]) (fun _ z => z.elim) ExtF.refl
theorem e_str {i : Str} {j : Nat} : PE X (.Constant (.str i) j pos) (tE X.K τ true .sh (mC (.str i))) := pe_str.mono fun σ H Q ⟨Z, own, ρ, d, ρ', rs, e, k⟩ => by
  unfold mC at e; cases e
  exact k _ Z own H (fun _ => False) rs (by simp only [Rm, R, RSh]) (fun _ z => z.elim) ExtF.refl
theorem e_non {j : Nat} : PE X (.Constant .none j pos) (tE X.K τ true .sh (mC .non)) := pe_non.mono fun σ H Q ⟨Z, own, ρ, d, ρ', rs, e, k⟩ => by
  unfold mC at e; cases e
  exact k _ Z own H (fun _ => False) rs (by simp only [Rm, R, RSh]) (fun _ z => z.elim) ExtF.refl
theorem mV_ok {i : Nat} {ρ ρ' : Sl} {d : D} (h : mV i ρ = .ok (d, ρ')) : ρ[i]? = some (some d) ∧ ρ' = ρ := by
  unfold mV at h
  split at h
  · rename_i e; cases h; exact ⟨e, rfl⟩
  · cases h
theorem e_v (i : Nat) {x : Str} (ht : τ i = .sh := by rfl) (hN : X.N[i]? = some x := by rfl) (hv : Vis X.env.scope x := by first | exact Or.inl rfl | exact Or.inr (Or.inl rfl) | exact Or.inr (Or.inr rfl)) (hd : (x == ("__debug__" : Str)) = false := by decide)
    (hcd : (x == ("__classdict__" : Str)) = false := by decide) : PE X (.Name x pos) (tE X.K τ true .sh (mV i)) := (pv i hN hv hd hcd).mono fun σ H Q ⟨Z, own, ρ, d, ρ', rs, e, k⟩ => by
  obtain ⟨e, rfl⟩ := mV_ok e
  obtain ⟨v, e1, e2⟩ := rs.sl i d e
  rw [ht] at e2
  exact ⟨v, e1, k v Z own H (fun _ => False) rs e2 (fun _ z => z.elim) ExtF.refl⟩
/-- a slot's own list, at hand -/
theorem e_vp (i : Nat) {x : Str} (ht : τ i = .ol .sh .sh := by rfl) (hN : X.N[i]? = some x := by rfl) (hv : Vis X.env.scope x := by first | exact Or.inl rfl | exact Or.inr (Or.inl rfl) | exact Or.inr (Or.inr rfl)) (hd : (x == ("__debug__" : Str)) = false := by decide)
    (hcd : (x == ("__classdict__" : Str)) = false := by decide) : PE X (.Name x pos) (tE X.K τ true .pk (mV i)) := (pv i hN hv hd hcd).mono fun σ H Q ⟨Z, own, ρ, d, ρ', rs, e, k⟩ => by
  obtain ⟨e, rfl⟩ := mV_ok e
  obtain ⟨v, e1, e2⟩ := rs.sl i d e
  rw [ht] at e2
  obtain ⟨l, a, xs, ow, e1', e2', e3, e4, e5, e6, e7, e8⟩ := e2
  exact ⟨v, e1, k v Z own H (fun _ => False) rs (.inr ⟨l, a, xs, e1', e2', e3, by rw [e4]; simp, .of_get e6 fun i d v p q => by
    cases i with
    | zero => exact e7 d v p q
    | succ n => exact e8 n d v p q⟩) (fun _ z => z.elim) ExtF.refl⟩
/-- a module's constant -/
theorem e_gl {x : Str} {v : V} {u : Value} {d : D} (hm : X.mg x = some u) (r : RelV v u) (hr : ∀ Z H, RSh X.K Z H d v) (hg : Gl X x := by rfl) (hd : (x == ("__debug__" : Str)) = false := by decide) : PE X (.Name x pos) (tE X.K τ true .sh (mC d)) :=
  (pe_glob hg hm r hd).mono fun σ H Q ⟨Z, own, ρ, d', ρ', rs, e, k⟩ => by
    unfold mC at e; cases e
    exact k _ Z own H (fun _ => False) rs (hr _ _) (fun _ z => z.elim) ExtF.refl
/-! displays -/
theorem szl {m n : Nat} (h : m ≤ 16777216) (e : m = n) : n ≤ sizeLine := by
  have : sizeLine = 16777216 := by decide
  omega
def bTup (l : List D) : Option D := if l.length ≤ 16777216 then some (.tup l) else none
def bLst (l : List D) : Option D := if l.length ≤ 16777216 then some (.lst l) else none
theorem e_tup {x1 : Nat} (h : PA X es (tAs X.K τ q ms)) : PE X (.Tuple es x1 pos) (tE X.K τ q .sh (mN bTup ms)) := (pe_tup h).mono fun σ H Q ⟨Z, own, ρ, d, ρ', rs, e, k⟩ => by
  obtain ⟨xs, ρ1, e1, e⟩ := bind_ok e
  obtain ⟨e3, rfl⟩ := ofO_ok e
  unfold bTup at e3
  split at e3
  · rename_i hl
    cases e3
    refine ⟨Z, own, ρ, xs, ρ', rs, e1, fun vs Z1 own1 H1 rs1 rl x1 => ⟨szl hl rl.len, fun p hp => ?_⟩⟩
    have g : Grow H1 (upd H1 p (.tup vs)) := Grow.new hp
    exact fin_sh rs1 x1 g (RF.tup (g.shL rl) (SqT.of upd_same)) NewS.none k
  · cases e3
theorem e_lstO (h : PA X es (tAs X.K τ q ms)) : PE X (.List es pos) (tE X.K τ q (.ow (.ol .sh .sh)) (mN bLst ms)) := (pe_lst h).mono fun σ H Q ⟨Z, own, ρ, d, ρ', rs, e, k⟩ => by
  obtain ⟨xs, ρ1, e1, e⟩ := bind_ok e
  obtain ⟨e3, rfl⟩ := ofO_ok e
  unfold bLst at e3
  split at e3
  · rename_i hl
    cases e3
    refine ⟨Z, own, ρ, xs, ρ', rs, e1, fun vs Z1 own1 H1 rs1 rl x1 => ⟨szl hl rl.len, fun p hp => ?_⟩⟩
    have g : Grow H1 (upd H1 p (.lst vs)) := Grow.new hp
    exact fin_ol rs1 x1 hp (g.shL rl) k
  · cases e3
end
end CL

namespace CL
open PySem PySem.Spec L2
set_option autoImplicit false
/-! ### tests -/
def tT (K : PySem.W.Frag) (τ : Nat → OT) (q : Bool) (m : M D) : TT := fun σ H Q => ∃ Z own ρ b ρ', RS K τ Z own H ρ σ ∧ m ρ = .ok (.bl b, ρ') ∧
  ∀ Z' own' H', RS K τ Z' own' H' ρ' σ → Ext q Z own H Z' own' H' → Q b H'
def mAnd (a b : M D) : M D := bind a fun x => match x with | .bl true => b | .bl false => mC (.bl false) | _ => fun _ => .bad
def mOr (a b : M D) : M D := bind a fun x => match x with | .bl true => mC (.bl true) | .bl false => b | _ => fun _ => .bad
def bNot : D → Option D
  | .bl b => some (.bl (!b))
  | _ => none
def mIf (c a b : M D) : M D := bind c fun x => match x with | .bl true => a | .bl false => b | _ => fun _ => .bad
def mChain (f g : D → D → Option D) (a b c : M D) : M D := bind a fun x => bind b fun y => bind (ofO (f x y)) fun z => match z with
  | .bl true => bind c fun w => ofO (g y w) | .bl false => mC (.bl false) | _ => fun _ => .bad
theorem Pk0.bl {K : PySem.W.Frag} {Z : Addr → Prop} {H : Hp} {b : Bool} {v : V} (h : Pk0 K Z H (.bl b) v) : v = .bl b := by
  rcases h with h | ⟨l, a, xs, e, _⟩
  · simpa only [RSh] using h
  · cases e
theorem Rm.bl {K : PySem.W.Frag} {Z : Addr → Prop} {own : Addr → Option Nat} {H : Hp} {S : Addr → Prop} {b : Bool} {v : V} (h : Rm K Z own H .sh (.bl b) v S) : v = .bl b := by simpa only [Rm, R, RSh] using h
section
variable {X : Cx} {τ : Nat → OT} {q q1 q2 q3 : Bool} {md md1 md2 : Md} {a b c e : Expr} {es : List Expr} {ma mb mc : M D} {ms : M (List D)} {pos : Pos}
theorem tT_of : ∀ σ H Q, tT X.K τ q ma σ H Q → tTest (tE X.K τ q .sh ma) σ H Q := fun σ H Q ⟨Z, own, ρ, d, ρ', rs, e, k⟩ =>
  ⟨Z, own, ρ, .bl d, ρ', rs, e, fun v Z1 own1 H1 S1 rs1 rm1 _ x1 => ⟨d, rm1.bl, k Z1 own1 H1 rs1 x1⟩⟩
theorem t_val (h : PE X e (tE X.K τ q .sh ma)) (he : ∀ whole, isTrue e X.env whole = (do let v ← whole; standAt e.pos; holding [v] (truthy v)) := by intro _; rfl) : PT X e (tT X.K τ q ma) := (pt_val h he).mono tT_of
theorem t_cmp {f : D → D → Option D} {op : CmpOp} (ho : OpR X (compareOp op) (rF2 X.K f)) (ha : PE X a (tE X.K τ q1 md1 ma)) (hb : PE X b (tE X.K τ q2 md2 mb)) (hm1 : Hand md1 := by trivial) (hm2 : Hand md2 := by trivial) (hq : md1 = .sh ∨ q2 = true := by first | exact .inl rfl | exact .inr rfl) (hm : behindInMarks op b = false := by first | exact nomark _ | rfl) :
    PT X (.Compare a [op] [b] pos) (tT X.K τ (q1 && q2) (m2 f ma mb)) := (pt_cmpR ho ha hb hm).mono fun σ H Q h => two hm1 hm2 hq σ H _ (tT_of σ H Q h)
theorem t_not (ha : PT X a (tT X.K τ q ma)) : PT X (.UnaryOp .Not a pos) (tT X.K τ q (m1 bNot ma)) := (pt_not ha).mono fun σ H Q ⟨Z, own, ρ, d, ρ', rs, e, k⟩ => by
  obtain ⟨x, ρ1, e1, e⟩ := bind_ok e
  obtain ⟨e3, rfl⟩ := ofO_ok e
  cases x with
  | bl c =>
    cases e3
    exact ⟨Z, own, ρ, c, ρ', rs, e1, k⟩
  | _ => cases e3
theorem ExtF.trans' {fx : Nat → Bool} {Z Z1 Z2 : Addr → Prop} {own own1 own2 : Addr → Option Nat} {H H1 H2 : Hp} {q q1 q2 : Bool} (hq : q = true → q1 = true ∧ q2 = true) (a : ExtF fx q1 Z own H Z1 own1 H1) (b : ExtF fx q2 Z1 own1 H1 Z2 own2 H2) : ExtF fx q Z own H Z2 own2 H2 := by
  have x := a.trans b
  exact ⟨x.z, x.zn, x.on, fun c o e h => x.keep c o e (h.elim .inl fun z => .inr (by have := hq z; simp [this.1, this.2])), x.live⟩
theorem ExtF.of {fx : Nat → Bool} {Z Z1 : Addr → Prop} {own own1 : Addr → Option Nat} {H H1 : Hp} {q q1 : Bool} (hq : q = true → q1 = true) (a : ExtF fx q1 Z own H Z1 own1 H1) : ExtF fx q Z own H Z1 own1 H1 :=
  ⟨a.z, a.zn, a.on, fun c o e h => a.keep c o e (h.elim .inl fun z => .inr (hq z)), a.live⟩
theorem and1 {a b : Bool} (h : (a && b) = true) : a = true := by cases a <;> simp_all
theorem and2 {a b : Bool} (h : (a && b) = true) : a = true ∧ b = true := by cases a <;> simp_all
theorem tAnd_of : ∀ σ H Q, tT X.K τ (q1 && q2) (mAnd ma mb) σ H Q → tAnd (tT X.K τ q1 ma) (tT X.K τ q2 mb) σ H Q := fun σ H Q ⟨Z, own, ρ, d, ρ', rs, e, k⟩ => by
  obtain ⟨x, ρ1, e1, e⟩ := bind_ok e
  match x, e1, e with
  | .bl true, e1, e => exact ⟨Z, own, ρ, true, ρ1, rs, e1, fun Z1 own1 H1 rs1 x1 => iteT ⟨Z1, own1, ρ1, d, ρ', rs1, e, fun Z2 own2 H2 rs2 x2 => k Z2 own2 H2 rs2 (x1.trans x2)⟩⟩
  | .bl false, e1, e =>
    unfold mC at e; cases e
    exact ⟨Z, own, ρ, false, _, rs, e1, fun Z1 own1 H1 rs1 x1 => iteF (k Z1 own1 H1 rs1 (x1.of and1))⟩
theorem tOr_of : ∀ σ H Q, tT X.K τ (q1 && q2) (mOr ma mb) σ H Q → tOr (tT X.K τ q1 ma) (tT X.K τ q2 mb) σ H Q := fun σ H Q ⟨Z, own, ρ, d, ρ', rs, e, k⟩ => by
  obtain ⟨x, ρ1, e1, e⟩ := bind_ok e
  match x, e1, e with
  | .bl false, e1, e => exact ⟨Z, own, ρ, false, ρ1, rs, e1, fun Z1 own1 H1 rs1 x1 => iteF ⟨Z1, own1, ρ1, d, ρ', rs1, e, fun Z2 own2 H2 rs2 x2 => k Z2 own2 H2 rs2 (x1.trans x2)⟩⟩
  | .bl true, e1, e =>
    unfold mC at e; cases e
    exact ⟨Z, own, ρ, true, _, rs, e1, fun Z1 own1 H1 rs1 x1 => iteT (k Z1 own1 H1 rs1 (x1.of and1))⟩
theorem _root_.L2.PW.mono {X : Cx} {e : Expr} {t t' : TT} (h : PW X e t) (f : ∀ σ H Q, t' σ H Q → t σ H Q) : PW X e t' := ⟨fun w pins s σ H Q I hw => h.run w pins s σ H Q I (f σ H Q hw)⟩
theorem w_and1 (ha : PT X a (tT X.K τ q ma)) : PW X (.BoolOp .And [a] pos) (tT X.K τ q ma) := pw_and1 ha
theorem w_or1 (ha : PT X a (tT X.K τ q ma)) : PW X (.BoolOp .Or [a] pos) (tT X.K τ q ma) := pw_or1 ha
theorem w_and (ha : PT X a (tT X.K τ q1 ma)) (hb : PW X (.BoolOp .And (b :: es) pos) (tT X.K τ q2 mb)) : PW X (.BoolOp .And (a :: b :: es) pos) (tT X.K τ (q1 && q2) (mAnd ma mb)) := (pw_and ha hb).mono tAnd_of
theorem w_or (ha : PT X a (tT X.K τ q1 ma)) (hb : PW X (.BoolOp .Or (b :: es) pos) (tT X.K τ q2 mb)) : PW X (.BoolOp .Or (a :: b :: es) pos) (tT X.K τ (q1 && q2) (mOr ma mb)) := (pw_or ha hb).mono tOr_of
/-! and, or, not as values -/
theorem e_one {op : BoolOp} (h : PE X a (tE X.K τ q md ma)) : PE X (.BoolOp op [a] pos) (tE X.K τ q md ma) := pe_one h
theorem e_and (ha : PE X a (tE X.K τ q1 .sh ma)) (hb : PE X (.BoolOp .And (b :: es) pos) (tE X.K τ q2 .sh mb)) : PE X (.BoolOp .And (a :: b :: es) pos) (tE X.K τ (q1 && q2) .sh (mAnd ma mb)) := (pe_and ha hb).mono fun σ H Q ⟨Z, own, ρ, d, ρ', rs, e, k⟩ => by
  obtain ⟨x, ρ1, e1, e⟩ := bind_ok e
  match x, e1, e with
  | .bl true, e1, e => exact ⟨Z, own, ρ, _, ρ1, rs, e1, fun v Z1 own1 H1 S1 rs1 rm1 _ x1 => ⟨true, rm1.bl, iteT ⟨Z1, own1, ρ1, d, ρ', rs1, e, fun v Z2 own2 H2 S2 rs2 rm2 n2 x2 => k v Z2 own2 H2 S2 rs2 rm2 (fun a z => ⟨Classical.byContradiction fun n => x1.live a n (n2 a z).1, (n2 a z).2⟩) (x1.trans x2)⟩⟩⟩
  | .bl false, e1, e =>
    unfold mC at e; cases e
    exact ⟨Z, own, ρ, _, _, rs, e1, fun v Z1 own1 H1 S1 rs1 rm1 n1 x1 => ⟨false, rm1.bl, iteF (k _ Z1 own1 H1 S1 rs1 (by simp only [Rm, R, RSh]) n1 (x1.of and1))⟩⟩
theorem e_or (ha : PE X a (tE X.K τ q1 .sh ma)) (hb : PE X (.BoolOp .Or (b :: es) pos) (tE X.K τ q2 .sh mb)) : PE X (.BoolOp .Or (a :: b :: es) pos) (tE X.K τ (q1 && q2) .sh (mOr ma mb)) := (pe_or ha hb).mono fun σ H Q ⟨Z, own, ρ, d, ρ', rs, e, k⟩ => by
  obtain ⟨x, ρ1, e1, e⟩ := bind_ok e
  match x, e1, e with
  | .bl false, e1, e => exact ⟨Z, own, ρ, _, ρ1, rs, e1, fun v Z1 own1 H1 S1 rs1 rm1 _ x1 => ⟨false, rm1.bl, iteF ⟨Z1, own1, ρ1, d, ρ', rs1, e, fun v Z2 own2 H2 S2 rs2 rm2 n2 x2 => k v Z2 own2 H2 S2 rs2 rm2 (fun a z => ⟨Classical.byContradiction fun n => x1.live a n (n2 a z).1, (n2 a z).2⟩) (x1.trans x2)⟩⟩⟩
  | .bl true, e1, e =>
    unfold mC at e; cases e
    exact ⟨Z, own, ρ, _, _, rs, e1, fun v Z1 own1 H1 S1 rs1 rm1 n1 x1 => ⟨true, rm1.bl, iteT (k _ Z1 own1 H1 S1 rs1 (by simp only [Rm, R, RSh]) n1 (x1.of and1))⟩⟩
theorem e_not (ha : PE X a (tE X.K τ q .sh ma)) : PE X (.UnaryOp .Not a pos) (tE X.K τ q .sh (m1 bNot ma)) := (pe_not ha).mono fun σ H Q ⟨Z, own, ρ, d, ρ', rs, e, k⟩ => by
  obtain ⟨x, ρ1, e1, e⟩ := bind_ok e
  obtain ⟨e3, rfl⟩ := ofO_ok e
  cases x with
  | bl c =>
    cases e3
    exact ⟨Z, own, ρ, _, ρ', rs, e1, fun v Z1 own1 H1 S1 rs1 rm1 n1 x1 => ⟨c, rm1.bl, k _ Z1 own1 H1 S1 rs1 (by simp only [Rm, R, RSh]) n1 x1⟩⟩
  | _ => cases e3
theorem e_if (hc : PT X c (tT X.K τ q1 mc)) (ha : PE X a (tE X.K τ q2 md ma)) (hb : PE X b (tE X.K τ q3 md mb)) : PE X (.IfExp c a b pos) (tE X.K τ (q1 && (q2 && q3)) md (mIf mc ma mb)) := (pe_ifExp hc ha hb).mono fun σ H Q ⟨Z, own, ρ, d, ρ', rs, e, k⟩ => by
  obtain ⟨x, ρ1, e1, e⟩ := bind_ok e
  match x, e1, e with
  | .bl true, e1, e => exact ⟨Z, own, ρ, _, ρ1, rs, e1, fun Z1 own1 H1 rs1 x1 => iteT ⟨Z1, own1, ρ1, d, ρ', rs1, e, fun v Z2 own2 H2 S2 rs2 rm2 n2 x2 => k v Z2 own2 H2 S2 rs2 rm2 (fun a z => ⟨Classical.byContradiction fun n => x1.live a n (n2 a z).1, (n2 a z).2⟩) (x1.trans' (fun z => ⟨and1 z, and1 (and2 z).2⟩) x2)⟩⟩
  | .bl false, e1, e => exact ⟨Z, own, ρ, _, ρ1, rs, e1, fun Z1 own1 H1 rs1 x1 => iteF ⟨Z1, own1, ρ1, d, ρ', rs1, e, fun v Z2 own2 H2 S2 rs2 rm2 n2 x2 => k v Z2 own2 H2 S2 rs2 rm2 (fun a z => ⟨Classical.byContradiction fun n => x1.live a n (n2 a z).1, (n2 a z).2⟩) (x1.trans' (fun z => ⟨and1 z, (and2 (and2 z).2).2⟩) x2)⟩⟩
theorem chain_of {f g : D → D → Option D} : ∀ σ H Q, tE X.K τ (q1 && (q2 && q3)) .sh (mChain f g ma mb mc) σ H Q → tChain (rF2 X.K f) (rF2 X.K g) (tE X.K τ q1 .sh ma) (tE X.K τ q2 .sh mb) (tE X.K τ q3 .sh mc) σ H Q := fun σ H Q h => by
  obtain ⟨Z, own, ρ, d, ρ', rs, e, k⟩ := h
  obtain ⟨x, ρ1, e1, e⟩ := bind_ok e
  obtain ⟨y, ρ2, e2, e⟩ := bind_ok e
  obtain ⟨z, ρ3, e0, e⟩ := bind_ok e
  obtain ⟨e3, rfl⟩ := ofO_ok e0
  unfold tChain
  refine ⟨Z, own, ρ, x, ρ1, rs, e1, ?_⟩
  intro v Z1 own1 H1 S1 rs1 rm1 _ x1
  refine ⟨Z1, own1, ρ1, y, ρ3, rs1, e2, ?_⟩
  intro w Z2 own2 H2 S2 rs2 rm2 _ x2
  refine ⟨Z2, x, y, z, .inl (rs1.sh x2 rm1), .inl rm2, e3, ?_⟩
  intro u H3 S g3 r n3
  have rs3 := rs2.grow g3 n3
  have x3 : Ext true Z2 own2 H2 (fun a => Z2 a ∨ S a) own2 H3 := ExtF.grow g3 n3
  have x13 : Ext (q1 && (q2 && q3)) Z own H (fun a => Z2 a ∨ S a) own2 H3 := (x1.trans' (q := q1 && (q2 && q3)) (fun z => ⟨and1 z, and1 (and2 z).2⟩) x2).trans' (fun z => ⟨z, rfl⟩) x3
  cases z with
  | bl c =>
    have ru : u = .bl c := by have := r.freeze; simpa only [RSh] using this
    refine ⟨c, ru, ?_⟩
    cases c with
    | true =>
      obtain ⟨w3, ρ4, e4, e⟩ := bind_ok e
      obtain ⟨e5, rfl⟩ := ofO_ok e
      rw [if_pos rfl]
      refine ⟨_, own2, ρ3, w3, ρ', rs3, e4, ?_⟩
      intro v4 Z4 own4 H4 S4 rs4 rm4 _ x4
      refine ⟨Z4, y, w3, d, .inl (rs3.sh x4 (rs2.sh x3 rm2)), .inl rm4, e5, ?_⟩
      intro u H5 S5 g5 r5 n5
      exact fin_sh rs4 (x13.trans' (fun z => ⟨z, (and2 (and2 z).2).2⟩) x4) g5 r5 n5 k
    | false =>
      cases e
      rw [if_neg Bool.false_ne_true]
      exact k _ _ own2 H3 (fun _ => False) rs3 (by simp only [Rm, R, RSh]) (fun _ z => z.elim) x13
  | _ => cases e
theorem e_chain {f g : D → D → Option D} {op op' : CmpOp} (ho : OpR X (compareOp op) (rF2 X.K f)) (ho' : OpR X (compareOp op') (rF2 X.K g)) (ha : PE X a (tE X.K τ q1 .sh ma)) (hb : PE X b (tE X.K τ q2 .sh mb)) (hc : PE X c (tE X.K τ q3 .sh mc))
    (h1 : lastMarks [op, op'] [b, c] = false := by with_unfolding_all rfl) : PE X (.Compare a [op, op'] [b, c] pos) (tE X.K τ (q1 && (q2 && q3)) .sh (mChain f g ma mb mc)) := (pe_chain ho ho' ha hb hc h1).mono chain_of
theorem t_chain {f g : D → D → Option D} {op op' : CmpOp} (ho : OpR X (compareOp op) (rF2 X.K f)) (ho' : OpR X (compareOp op') (rF2 X.K g)) (ha : PE X a (tE X.K τ q1 .sh ma)) (hb : PE X b (tE X.K τ q2 .sh mb)) (hc : PE X c (tE X.K τ q3 .sh mc))
    (h1 : lastMarks [op, op'] [b, c] = false := by with_unfolding_all rfl) : PT X (.Compare a [op, op'] [b, c] pos) (tT X.K τ (q1 && (q2 && q3)) (mChain f g ma mb mc)) := (pt_chain ho ho' ha hb hc h1).mono fun σ H Q h => chain_of σ H _ (tT_of σ H Q h)
end

/-! ### statements -/
inductive Fl where
  | nx | ret (d : D) | brk | cnt
abbrev MS := M Fl
def Fix (fx : Nat → Bool) (σ σ' : St) : Prop := σ'.length = σ.length ∧ ∀ k, fx k = true → σ'[k]? = σ[k]?
theorem Fix.refl {fx : Nat → Bool} {σ : St} : Fix fx σ σ := ⟨rfl, fun _ _ => rfl⟩
theorem Fix.trans {fx : Nat → Bool} {σ σ1 σ2 : St} (a : Fix fx σ σ1) (b : Fix fx σ1 σ2) : Fix fx σ σ2 := ⟨b.1.trans a.1, fun k h => (b.2 k h).trans (a.2 k h)⟩
structure Fr where
  τ : Nat → OT
  fx : Nat → Bool
  rt : OT
/-- what is handed back: new, or given up by a slot -/
def GivR (fx : Nat → Bool) (own : Addr → Option Nat) (H : Hp) (Z' : Addr → Prop) (own' : Addr → Option Nat) (H' : Hp) (S : Addr → Prop) : Prop :=
  ∀ a, S a → (H a = none ∨ ∃ i, own a = some i ∧ fx i = false) ∧ own' a = none ∧ ¬ Z' a ∧ ∃ o, H' a = some o ∧ Mut o
def Out (K : PySem.W.Frag) (F : Fr) (Z : Addr → Prop) (own : Addr → Option Nat) (H : Hp) (σ : St) (ρ' : Sl) (E : Ends) : Fl → Prop
  | .nx => ∀ σ' Z' own' H', RS K F.τ Z' own' H' ρ' σ' → Fix F.fx σ σ' → ExtF F.fx false Z own H Z' own' H' → E.nx σ' H'
  | .brk => ∀ σ' Z' own' H', RS K F.τ Z' own' H' ρ' σ' → Fix F.fx σ σ' → ExtF F.fx false Z own H Z' own' H' → E.bk σ' H'
  | .cnt => ∀ σ' Z' own' H', RS K F.τ Z' own' H' ρ' σ' → Fix F.fx σ σ' → ExtF F.fx false Z own H Z' own' H' → E.ct σ' H'
  | .ret d => ∀ v σ' Z' own' H' S, RS K F.τ Z' own' H' ρ' σ' → Fix F.fx σ σ' → R K Z' H' F.rt d v S → GivR F.fx own H Z' own' H' S → ExtF F.fx false Z own H Z' own' H' → E.rt v H'
def tS (K : PySem.W.Frag) (F : Fr) (m : MS) : TS := fun E σ H => ∃ Z own ρ f ρ', RS K F.τ Z own H ρ σ ∧ m ρ = .ok (f, ρ') ∧ Out K F Z own H σ ρ' E f
def sK (f : Fl) : MS := fun ρ => .ok (f, ρ)
def sSeq (a b : MS) : MS := bind a fun f => match f with | .nx => b | f => sK f
def sIf (c : M D) (a b : MS) : MS := bind c fun x => match x with | .bl true => a | .bl false => b | _ => fun _ => .bad
def sRet (e : M D) : MS := bind e fun d => sK (.ret d)
def sExp (e : M D) : MS := bind e fun _ => sK .nx
abbrev Pt := D → Sl → Option Sl
def pN (i : Nat) : Pt := fun d ρ => some (ρ.set i (some d))
abbrev Pts := List D → Sl → Option Sl
def psN : Pts := fun l ρ => match l with | [] => some ρ | _ => none
def psC (p : Pt) (r : Pts) : Pts := fun l ρ => match l with | d :: ds => (p d ρ).bind (r ds) | [] => none
def pT (n : Nat) (ps : Pts) : Pt := fun d ρ => match d with | .tup l => if l.length = n then ps l ρ else none | .lst l => if l.length = n then ps l ρ else none | _ => none
def sAsg (p : Pt) (e : M D) : MS := bind e fun d => fun ρ => match p d ρ with | some ρ' => .ok (.nx, ρ') | none => .bad
def sPar (i j : Nat) (es : M (List D)) : MS := bind es fun vs => fun ρ => match vs with | [v, w] => .ok (.nx, (ρ.set i (some v)).set j (some w)) | _ => .bad
section
variable {K : PySem.W.Frag} {τ : Nat → OT} {Z Z1 Z2 : Addr → Prop} {own own1 own2 : Addr → Option Nat} {H H1 H2 : Hp} {ρ : Sl} {σ : St} {S : Addr → Prop}
theorem NewR.back {fx : Nat → Bool} {q : Bool} (x : ExtF fx q Z own H Z1 own1 H1) (n : NewR H1 Z2 own2 H2 S) : NewR H Z2 own2 H2 S := fun a z => ⟨x.back (n a z).1, (n a z).2⟩
theorem NewR.giv {fx : Nat → Bool} (n : NewR H Z2 own2 H2 S) : GivR fx own H Z2 own2 H2 S := fun a z => ⟨.inl (n a z).1, (n a z).2⟩
theorem GivR.back {fx : Nat → Bool} {q : Bool} (x : ExtF fx q Z own H Z1 own1 H1) (n : GivR fx own1 H1 Z2 own2 H2 S) : GivR fx own H Z2 own2 H2 S := fun a z => by
  refine ⟨?_, (n a z).2⟩
  rcases (n a z).1 with h | ⟨i, h, hf⟩
  · exact .inl (x.back h)
  · exact (x.on a i h).elim (fun z => .inr ⟨i, z, hf⟩) .inl
theorem Out.back {F : Fr} {σ1 : St} {ρ' : Sl} {E : Ends} {q : Bool} (x : ExtF F.fx q Z own H Z1 own1 H1) (fx : Fix F.fx σ σ1) {f : Fl} (o : Out K F Z own H σ ρ' E f) : Out K F Z1 own1 H1 σ1 ρ' E f := by
  cases f with
  | nx => exact fun σ' Z' own' H' r1 r2 r3 => o σ' Z' own' H' r1 (fx.trans r2) (x.transF r3)
  | brk => exact fun σ' Z' own' H' r1 r2 r3 => o σ' Z' own' H' r1 (fx.trans r2) (x.transF r3)
  | cnt => exact fun σ' Z' own' H' r1 r2 r3 => o σ' Z' own' H' r1 (fx.trans r2) (x.transF r3)
  | ret d => exact fun v σ' Z' own' H' S r1 r2 r3 r4 r5 => o v σ' Z' own' H' S r1 (fx.trans r2) r3 (r4.back x) (x.transF r5)
/-- a slot's shared value -/
theorem RS.set (h : RS K τ Z own H ρ σ) {i : Nat} {d : D} {v : V} (ht : τ i = .sh) (r : RSh K Z H d v) : RS K τ Z own H (ρ.set i (some d)) (σ.set i (some v)) where
  sl := fun j d' e => by
    by_cases hij : i = j
    · subst hij
      rw [List.getElem?_set] at e
      split at e
      · split at e
        · rename_i hl
          cases e
          refine ⟨v, ?_, by rw [ht]; exact r⟩
          rw [List.getElem?_set]
          have := h.len
          simp; omega
        · cases e
      · rename_i n; exact absurd rfl n
    · rw [List.getElem?_set_ne hij] at e
      obtain ⟨w, e1, e2⟩ := h.sl j d' e
      exact ⟨w, by rw [List.getElem?_set_ne hij]; exact e1, e2⟩
  ls := h.ls
  dz := h.dz
  zt := h.zt
  len := by simpa using h.len
/-- a slot's own new list -/
theorem RS.setO (h : RS K τ Z own H ρ σ) {i : Nat} {d : D} {v : V} {t0 t : OT} (ht : τ i = .ol t0 t) (r : R K Z H (.ol t0 t) d v S) (hS : ∀ a, S a → own a = none ∧ ¬ Z a ∧ ∃ o, H a = some o ∧ Mut o) :
    ∃ own', RS K τ Z own' H (ρ.set i (some d)) (σ.set i (some v)) ∧ ∀ a j, own' a = some j → own a = some j ∨ S a := by
  classical
  refine ⟨fun a => if S a then some i else if own a = some i then none else own a, ⟨fun j d' e => ?_, fun a j e => ?_, fun a j e => ?_, h.zt, by simpa using h.len⟩, fun a j e => ?_⟩
  · by_cases hij : i = j
    · subst hij
      rw [List.getElem?_set] at e
      split at e
      · split at e
        · rename_i hl
          cases e
          refine ⟨v, ?_, by rw [ht]; exact R.mono r fun a s => if_pos s⟩
          rw [List.getElem?_set]
          have := h.len
          simp; omega
        · cases e
      · rename_i n; exact absurd rfl n
    · rw [List.getElem?_set_ne hij] at e
      obtain ⟨w, e1, e2⟩ := h.sl j d' e
      refine ⟨w, by rw [List.getElem?_set_ne hij]; exact e1, R.mono e2 fun a ha => ?_⟩
      have n1 : ¬ S a := fun s => by rw [(hS a s).1] at ha; cases ha
      have n2 : ¬ own a = some i := fun z => by rw [ha] at z; cases z; exact hij rfl
      show (if S a then some i else if own a = some i then none else own a) = some j
      rw [if_neg n1, if_neg n2]; exact ha
  · by_cases s : S a
    · exact (hS a s).2.2
    · rw [if_neg s] at e
      split at e
      · cases e
      · exact h.ls a j e
  · by_cases s : S a
    · exact (hS a s).2.1
    · rw [if_neg s] at e
      split at e
      · cases e
      · exact h.dz a j e
  · by_cases s : S a
    · exact .inr s
    · dsimp only at e
      rw [if_neg s] at e
      split at e
      · cases e
      · exact .inl e
end
/-- a target -/
def tG (K : PySem.W.Frag) (τ : Nat → OT) (fx : Nat → Bool) (p : Pt) : TG := fun v σ H Q => ∃ Z own ρ d ρ', RS K τ Z own H ρ σ ∧ RSh K Z H d v ∧ p d ρ = some ρ' ∧ ∀ σ', RS K τ Z own H ρ' σ' → Fix fx σ σ' → Q σ' H
def tGs (K : PySem.W.Frag) (τ : Nat → OT) (fx : Nat → Bool) (p : Pts) : TGs := fun vs σ H Q => ∃ Z own ρ ds ρ', RS K τ Z own H ρ σ ∧ RShL K Z H ds vs ∧ p ds ρ = some ρ' ∧ ∀ σ', RS K τ Z own H ρ' σ' → Fix fx σ σ' → Q σ' H
theorem _root_.L2.PG.mono {X : Cx} {tg : Expr} {t t' : TG} (h : PG X tg t) (f : ∀ v σ H Q, t' v σ H Q → t v σ H Q) : PG X tg t' := ⟨fun pins s σ H v u Q I r hw => h.run pins s σ H v u Q I r (f v σ H Q hw)⟩
theorem _root_.L2.PGs.mono {X : Cx} {tg : List Expr} {t t' : TGs} (h : PGs X tg t) (f : ∀ v σ H Q, t' v σ H Q → t v σ H Q) : PGs X tg t' := ⟨fun pins s σ H v u Q I r hw => h.run pins s σ H v u Q I r (f v σ H Q hw)⟩
theorem Fix.set {fx : Nat → Bool} {σ : St} {i : Nat} {v : Option V} (h : fx i = false) : Fix fx σ (σ.set i v) := ⟨by simp, fun k hk => by
  rw [List.getElem?_set_ne]
  rintro rfl
  rw [h] at hk; cases hk⟩
section
variable {X : Cx} {τ : Nat → OT} {fx : Nat → Bool} {tg e : Expr} {tgs : List Expr} {pos : Pos} {p : Pt} {ps : Pts}
theorem g_n (i : Nat) {x : Str} (hN : X.N.Nodup) (ht : τ i = .sh := by rfl) (hfx : fx i = false := by rfl) (hi : X.N[i]? = some x := by rfl) (hx : Loc X.env.scope x := by first | exact Or.inl rfl | exact Or.inr rfl) (hf : X.fn x = true ∨ X.env.scope.names.lookup x = some .local := by first | exact .inl rfl | exact .inr rfl | assumption) :
    PG X (.Name x pos) (tG X.K τ fx (pN i)) := (pg_name hN hi hx hf).mono fun v σ H Q ⟨Z, own, ρ, d, ρ', rs, r, e, k⟩ => by
  unfold pN at e; cases e
  exact k _ (rs.set ht r) (.set hfx)
theorem gs_nil : PGs X [] (tGs X.K τ fx psN) := pgs_nil.mono fun vs σ H Q ⟨Z, own, ρ, ds, ρ', rs, r, e, k⟩ => by
  cases ds with
  | nil => simp only [RShL] at r; unfold psN at e; cases e; exact ⟨r, k σ rs Fix.refl⟩
  | cons _ _ => unfold psN at e; cases e
theorem tGs_cons : ∀ v σ H Q, tGs X.K τ fx (psC p ps) v σ H Q → gCons (tG X.K τ fx p) (tGs X.K τ fx ps) v σ H Q := fun vs σ H Q ⟨Z, own, ρ, ds, ρ', rs, r, e, k⟩ => by
  cases ds with
  | nil => unfold psC at e; cases e
  | cons d ds =>
    simp only [RShL] at r
    obtain ⟨w, ws, rfl, r1, r2⟩ := r
    have e : (p d ρ).bind (ps ds) = some ρ' := e
    obtain ⟨ρ1, e1, e2⟩ := Option.bind_eq_some_iff.mp e
    exact ⟨w, ws, rfl, Z, own, ρ, d, ρ1, rs, r1, e1, fun σ1 rs1 f1 => ⟨Z, own, ρ1, ds, ρ', rs1, r2, e2, fun σ2 rs2 f2 => k σ2 rs2 (f1.trans f2)⟩⟩
end
end CL

namespace CL
open PySem PySem.Spec L2
set_option autoImplicit false
section
variable {X : Cx} {F : Fr} {q q1 q2 q3 : Bool} {md md1 md2 : Md} {a b c e tg : Expr} {es tgs : List Expr} {ma mb mc : M D} {ms : M (List D)} {pos : Pos} {st : Stmt} {sts sts2 : List Stmt} {sa sb : MS} {p : Pt} {ps : Pts} {τ : Nat → OT} {fx : Nat → Bool}
theorem gs_cons (h1 : PG X e (tG X.K τ fx p)) (h2 : PGs X es (tGs X.K τ fx ps)) (hs : (assignEach (e :: es) X.env).map (·.2) = assign e X.env :: (assignEach es X.env).map (·.2) := by rfl) : PGs X (e :: es) (tGs X.K τ fx (psC p ps)) := (pgs_cons h1 h2 hs).mono tGs_cons
theorem g_t {n k : Nat} (h : PGs X es (tGs X.K τ fx ps)) (hc : X.calm = true := by rfl) (hn : (assignEach es X.env).length = n := by rfl) (hst : (assignEach es X.env).findIdx? (·.1) = none := by rfl) : PG X (.Tuple es k pos) (tG X.K τ fx (pT n ps)) := by
  refine ⟨fun pins s σ H v u Q I rv ⟨Z, own, ρ, d, ρ', rs, r, e, k⟩ => ?_⟩
  cases d with
  | tup l =>
    have e : (if l.length = n then ps l ρ else none) = some ρ' := e
    split at e
    · rename_i hl
      simp only [RSh] at r
      obtain ⟨a, xs, rfl, s1, rl⟩ := r
      exact (pg_tup hc h hn hst).run pins s σ H _ u Q I rv ⟨a, xs, rfl, s1, by rw [← rl.len]; exact hl, Z, own, ρ, l, ρ', rs, rl, e, k⟩
    · cases e
  | lst l =>
    have e : (if l.length = n then ps l ρ else none) = some ρ' := e
    split at e
    · rename_i hl
      simp only [RSh] at r
      obtain ⟨a, xs, rfl, z, s1, rl⟩ := r
      exact (pg_unl hc h hn hst).run pins s σ H _ u Q I rv ⟨a, xs, rfl, SqL.of s1, by rw [← rl.len]; exact hl, Z, own, ρ, l, ρ', rs, rl, e, k⟩
    · cases e
  | _ => cases e
/-! blocks -/
theorem ss_nil : PSs X [] (tS X.K F (sK .nx)) := pss_nil.mono fun E σ H ⟨Z, own, ρ, f, ρ', rs, e, o⟩ => by
  unfold sK at e; cases e
  exact o σ Z own H rs Fix.refl ExtF.refl
theorem ss_one (h : PS X st (tS X.K F sa)) : PSs X [st] (tS X.K F sa) := pss_one h
theorem ss_cons (h : PS X st (tS X.K F sa)) (hr : PSs X sts (tS X.K F sb)) : PSs X (st :: sts) (tS X.K F (sSeq sa sb)) := (pss_cons h hr).mono fun E σ H ⟨Z, own, ρ, f, ρ', rs, e, o⟩ => by
  obtain ⟨f1, ρ1, e1, e⟩ := bind_ok e
  cases f1 with
  | nx => exact ⟨Z, own, ρ, .nx, ρ1, rs, e1, fun σ1 Z1 own1 H1 rs1 f1 x1 => ⟨Z1, own1, ρ1, f, ρ', rs1, e, o.back x1 f1⟩⟩
  | ret d => cases e; exact ⟨Z, own, ρ, _, _, rs, e1, o⟩
  | brk => cases e; exact ⟨Z, own, ρ, _, _, rs, e1, o⟩
  | cnt => cases e; exact ⟨Z, own, ρ, _, _, rs, e1, o⟩
theorem s_pass : PS X (.Pass pos) (tS X.K F (sK .nx)) := ps_pass.mono fun E σ H ⟨Z, own, ρ, f, ρ', rs, e, o⟩ => by
  unfold sK at e; cases e
  exact o σ Z own H rs Fix.refl ExtF.refl
theorem s_brk : PS X (.Break pos) (tS X.K F (sK .brk)) := ps_break.mono fun E σ H ⟨Z, own, ρ, f, ρ', rs, e, o⟩ => by
  unfold sK at e; cases e
  exact o σ Z own H rs Fix.refl ExtF.refl
theorem s_cnt : PS X (.Continue pos) (tS X.K F (sK .cnt)) := ps_continue.mono fun E σ H ⟨Z, own, ρ, f, ρ', rs, e, o⟩ => by
  unfold sK at e; cases e
  exact o σ Z own H rs Fix.refl ExtF.refl
theorem s_if (hc : PT X c (tT X.K F.τ q mc)) (ha : PSs X sts (tS X.K F sa)) (hb : PSs X sts2 (tS X.K F sb)) : PS X (.If c sts sts2 pos) (tS X.K F (sIf mc sa sb)) := (ps_if hc ha hb).mono fun E σ H ⟨Z, own, ρ, f, ρ', rs, e, o⟩ => by
  obtain ⟨x, ρ1, e1, e⟩ := bind_ok e
  cases x with
  | bl b =>
    cases b with
    | true => exact ⟨Z, own, ρ, true, ρ1, rs, e1, fun Z1 own1 H1 rs1 x1 => iteT ⟨Z1, own1, ρ1, f, ρ', rs1, e, o.back x1.any Fix.refl⟩⟩
    | false => exact ⟨Z, own, ρ, false, ρ1, rs, e1, fun Z1 own1 H1 rs1 x1 => iteF ⟨Z1, own1, ρ1, f, ρ', rs1, e, o.back x1.any Fix.refl⟩⟩
  | _ => cases e
theorem s_ret (he : PE X e (tE X.K F.τ q (.ow F.rt) ma)) : PS X (.Return (some e) pos) (tS X.K F (sRet ma)) := (ps_ret he).mono fun E σ H ⟨Z, own, ρ, f, ρ', rs, e, o⟩ => by
  obtain ⟨x, ρ1, e1, e⟩ := bind_ok e
  cases e
  exact ⟨Z, own, ρ, x, _, rs, e1, fun v Z1 own1 H1 S rs1 rm n x1 => o v σ Z1 own1 H1 S rs1 Fix.refl rm n.giv x1.weak.any⟩
theorem s_retN (h : F.rt = .sh := by rfl) : PS X (.Return none pos) (tS X.K F (sK (.ret .non))) := ps_retN.mono fun E σ H ⟨Z, own, ρ, f, ρ', rs, e, o⟩ => by
  unfold sK at e; cases e
  exact o _ σ Z own H (fun _ => False) rs Fix.refl (by rw [h]; simp only [R, RSh]) (fun _ z => z.elim) ExtF.refl
/-- return x: x's own list is handed back -/
def sRetV (i : Nat) : MS := fun ρ => match ρ[i]? with | some (some d) => .ok (.ret d, ρ.set i none) | _ => .bad
theorem s_retV (i : Nat) {x : Str} {p : Pos} (ht : F.τ i = F.rt := by rfl) (hfx : F.fx i = false := by rfl) (hN : X.N[i]? = some x := by rfl) (hv : Vis X.env.scope x := by first | exact Or.inl rfl | exact Or.inr (Or.inl rfl) | exact Or.inr (Or.inr rfl)) (hd : (x == ("__debug__" : Str)) = false := by decide)
    (hcd : (x == ("__classdict__" : Str)) = false := by decide) : PS X (.Return (some (.Name x p)) pos) (tS X.K F (sRetV i)) := (ps_ret (pv i hN hv hd hcd)).mono fun E σ H ⟨Z, own, ρ, f, ρ', rs, e, o⟩ => by
  unfold sRetV at e
  split at e
  · rename_i d hd
    cases e
    obtain ⟨v, e1, e2⟩ := rs.sl i d hd
    rw [ht] at e2
    classical
    refine ⟨v, e1, o v σ Z (fun a => if own a = some i then none else own a) H (fun a => own a = some i) ⟨fun j d' e => ?_, fun a j e => ?_, fun a j e => ?_, rs.zt, by simpa using rs.len⟩ Fix.refl e2 (fun a z => ⟨.inr ⟨i, z, hfx⟩, if_pos z, rs.dz a i z, rs.ls a i z⟩) ⟨fun _ z => z, fun _ z => .inl z, fun a j e => ?_, fun _ _ e _ => e, fun _ e => e⟩⟩
    · by_cases hij : i = j
      · subst hij
        rw [List.getElem?_set] at e
        split at e
        · split at e <;> cases e
        · rename_i n; exact absurd rfl n
      · rw [List.getElem?_set_ne hij] at e
        obtain ⟨w, e1, e2⟩ := rs.sl j d' e
        refine ⟨w, e1, R.mono e2 fun a ha => ?_⟩
        show (if own a = some i then none else own a) = some j
        rw [if_neg (fun z => by rw [ha] at z; cases z; exact hij rfl)]; exact ha
    · split at e
      · cases e
      · exact rs.ls a j e
    · split at e
      · cases e
      · exact rs.dz a j e
    · split at e
      · cases e
      · exact .inl e
  · cases e
theorem s_exp (he : PE X e (tE X.K F.τ q .pk ma)) (hs : swapsWith e none pos.line X.env = pure false := by rfl) : PS X (.Expr e pos) (tS X.K F (sExp ma)) := (ps_expr he hs).mono fun E σ H ⟨Z, own, ρ, f, ρ', rs, e, o⟩ => by
  obtain ⟨x, ρ1, e1, e⟩ := bind_ok e
  cases e
  exact ⟨Z, own, ρ, x, _, rs, e1, fun v Z1 own1 H1 S rs1 rm n x1 => o σ Z1 own1 H1 rs1 Fix.refl x1.weak.any⟩
theorem asg_of : ∀ E σ H, tS X.K F (sAsg p ma) E σ H → tAsg (tE X.K F.τ q .sh ma) (tG X.K F.τ F.fx p) E σ H := fun E σ H ⟨Z, own, ρ, f, ρ', rs, e, o⟩ => by
  obtain ⟨x, ρ1, e1, e⟩ := bind_ok e
  split at e
  · rename_i ρ2 e2
    cases e
    exact ⟨Z, own, ρ, x, ρ1, rs, e1, fun v Z1 own1 H1 S rs1 rm n x1 => ⟨Z1, own1, ρ1, x, ρ', rs1, rm, e2, fun σ' rs' fx' => o σ' Z1 own1 H1 rs' fx' x1.weak.any⟩⟩
  · cases e
theorem s_asg (he : PE X e (tE X.K F.τ q .sh ma)) (hg : PG X tg (tG X.K F.τ F.fx p)) (hs : swapsWithSole [tg] e pos.line X.env = pure false := by rfl) (hw : swappedStores [tg] e X.env = pure none := by rfl)
    (h1 : (assignEach [tg] X.env).map (·.2) = [assign tg X.env] := by rfl) : PS X (.Assign [tg] e pos) (tS X.K F (sAsg p ma)) := (ps_asg he hg hs hw h1).mono asg_of
theorem name_of {i : Nat} (ht : F.τ i = .sh) (hfx : F.fx i = false) : ∀ E σ H, tS X.K F (sAsg (pN i) ma) E σ H → tAsg (tE X.K F.τ q .sh ma) (gName i) E σ H := fun E σ H ⟨Z, own, ρ, f, ρ', rs, e, o⟩ => by
  obtain ⟨x, ρ1, e1, e⟩ := bind_ok e
  cases e
  exact ⟨Z, own, ρ, x, ρ1, rs, e1, fun v Z1 own1 H1 S rs1 rm n x1 => o _ Z1 own1 H1 (rs1.set ht rm) (.set hfx) x1.weak.any⟩
theorem nameO_of {i : Nat} {t0 t : OT} (ht : F.τ i = .ol t0 t) (hfx : F.fx i = false) : ∀ E σ H, tS X.K F (sAsg (pN i) ma) E σ H → tAsg (tE X.K F.τ q (.ow (.ol t0 t)) ma) (gName i) E σ H := fun E σ H ⟨Z, own, ρ, f, ρ', rs, e, o⟩ => by
  obtain ⟨x, ρ1, e1, e⟩ := bind_ok e
  cases e
  refine ⟨Z, own, ρ, x, ρ1, rs, e1, fun v Z1 own1 H1 S rs1 rm n x1 => ?_⟩
  obtain ⟨own2, rs2, h2⟩ := rs1.setO ht rm fun a s => (n a s).2
  refine o _ Z1 own2 H1 rs2 (.set hfx) ⟨x1.z, fun a z => (ExtF.any (fx := F.fx) x1).zn a z, fun a j e => ?_, fun a o e h => x1.weak.keep a o e h, x1.live⟩
  rcases h2 a j e with h | h
  · exact x1.on a j h
  · exact .inr (n a h).1
/-- name = e -/
theorem s_set (i : Nat) {x : Str} {pos' : Pos} (hN : X.N.Nodup) (he : PE X e (tE X.K F.τ q .sh ma)) (ht : F.τ i = .sh := by rfl) (hfx : F.fx i = false := by rfl) (hi : X.N[i]? = some x := by rfl) (hx : Loc X.env.scope x := by first | exact Or.inl rfl | exact Or.inr rfl) (hs : swapsWith e (some (.Name x pos')) pos.line X.env = pure false := by rfl)
    (hf : X.fn x = true ∨ X.env.scope.names.lookup x = some .local := by first | exact .inl rfl | exact .inr rfl | assumption) : PS X (.Assign [.Name x pos'] e pos) (tS X.K F (sAsg (pN i) ma)) := (ps_set hN hi hx he hs hf).mono (name_of ht hfx)
/-- name = a new list of its own -/
theorem s_setO (i : Nat) {t0 t : OT} {x : Str} {pos' : Pos} (hN : X.N.Nodup) (he : PE X e (tE X.K F.τ q (.ow (.ol t0 t)) ma)) (ht : F.τ i = .ol t0 t := by rfl) (hfx : F.fx i = false := by rfl) (hi : X.N[i]? = some x := by rfl) (hx : Loc X.env.scope x := by first | exact Or.inl rfl | exact Or.inr rfl) (hs : swapsWith e (some (.Name x pos')) pos.line X.env = pure false := by rfl)
    (hf : X.fn x = true ∨ X.env.scope.names.lookup x = some .local := by first | exact .inl rfl | exact .inr rfl | assumption) : PS X (.Assign [.Name x pos'] e pos) (tS X.K F (sAsg (pN i) ma)) := (ps_set hN hi hx he hs hf).mono (nameO_of ht hfx)
/-- a, b = e1, e2 -/
theorem s_par (i j : Nat) {x y : Str} {px py pt pt2 : Pos} {kt k2 : Nat} (hN : X.N.Nodup) (ha : PA X [a, b] (tAs X.K F.τ q ms)) (hti : F.τ i = .sh := by rfl) (htj : F.τ j = .sh := by rfl) (hfi : F.fx i = false := by rfl) (hfj : F.fx j = false := by rfl) (hi : X.N[i]? = some x := by rfl) (hj : X.N[j]? = some y := by rfl) (hij : i ≠ j := by decide)
    (hx : X.env.scope.names.lookup x = some .local := by rfl) (hy : X.env.scope.names.lookup y = some .local := by rfl) (hc : X.calm = true := by rfl)
    (hw : swappedStores [.Tuple [.Name x px, .Name y py] kt pt] (.Tuple [a, b] k2 pt2) X.env = pure (some [x, y]) := by rfl)
    (hs : swapsWithSole [.Tuple [.Name x px, .Name y py] kt pt] (.Tuple [a, b] k2 pt2) pos.line X.env = pure false := by rfl) :
    PS X (.Assign [.Tuple [.Name x px, .Name y py] kt pt] (.Tuple [a, b] k2 pt2) pos) (tS X.K F (sPar i j ms)) := (ps_par hc hN hi hj hij hx hy ha hw hs).mono fun E σ H ⟨Z, own, ρ, f, ρ', rs, e, o⟩ => by
  obtain ⟨xs, ρ1, e1, e⟩ := bind_ok e
  match xs, e1, e with
  | [v, w], e1, e =>
    cases e
    refine ⟨Z, own, ρ, _, ρ1, rs, e1, fun vs Z1 own1 H1 rs1 rl x1 => ?_⟩
    simp only [RShL] at rl
    obtain ⟨v1, w1, rfl, r1, v2, w2, rfl, r2, rfl⟩ := rl
    exact ⟨v1, v2, rfl, o _ Z1 own1 H1 ((rs1.set hti r1).set htj r2) ((Fix.set hfi).trans (Fix.set hfj)) x1.weak.any⟩
/-! name op= e -/
theorem s_aug (i : Nat) {f : D → D → Option D} {op : Operator} {x : Str} {pos' : Pos} (hN : X.N.Nodup) (ho : PIp X op (rF2 X.K f)) (he : PE X e (tE X.K F.τ q .sh ma)) (ht : F.τ i = .sh := by rfl) (hfx : F.fx i = false := by rfl) (hi : X.N[i]? = some x := by rfl) (hx : Loc X.env.scope x := by first | exact Or.inl rfl | exact Or.inr rfl)
    (hf : X.fn x = true ∨ X.env.scope.names.lookup x = some .local := by first | exact .inl rfl | exact .inr rfl | assumption) : PS X (.AugAssign (.Name x pos') op e pos) (tS X.K F (sAsg (pN i) (m2 f (mV i) ma))) := (ps_aug hN hi hx he ho hf).mono fun E σ H ⟨Z, own, ρ, f', ρ', rs, e, o⟩ => by
  obtain ⟨d, ρ1, e1, e⟩ := bind_ok e
  cases e
  obtain ⟨y, ρ2, e2, e5⟩ := bind_ok e1
  obtain ⟨e2, rfl⟩ := mV_ok e2
  obtain ⟨w, ρ3, e3, e6⟩ := bind_ok e5
  obtain ⟨e4, rfl⟩ := ofO_ok e6
  obtain ⟨v, h1, h2⟩ := rs.sl i y e2
  rw [ht] at h2
  refine ⟨v, h1, Z, own, ρ2, w, ρ1, rs, e3, fun u Z1 own1 H1 S rs1 rm n x1 => ⟨Z1, y, w, d, .inl (rs.sh x1 h2), .inl rm, e4, fun z H2 S2 g r n2 => ?_⟩⟩
  exact o _ _ own1 H2 ((rs1.grow g n2).set ht r.freeze) (.set hfx) ((x1.weak.any).transF (ExtF.grow (q := true) g n2))
/-! a slot's list is shared from now on; the slot is forgotten behind the block -/
def sFz (i : Nat) (m : MS) : MS := fun ρ => match m ρ with | .ok (f, ρ') => .ok (f, ρ'.set i none) | .exc e => .exc e | .bad => .bad
def Fr.fz (F : Fr) (i : Nat) : Fr := { F with τ := fun j => if j = i then .sh else F.τ j }
theorem RS.forget {K : PySem.W.Frag} {τ τ' : Nat → OT} {Z : Addr → Prop} {own : Addr → Option Nat} {H : Hp} {ρ : Sl} {σ : St} {i : Nat} (h : RS K τ Z own H ρ σ) (ht : ∀ j, j ≠ i → τ' j = τ j) : RS K τ' Z own H (ρ.set i none) σ where
  sl := fun j d e => by
    by_cases hij : i = j
    · subst hij
      rw [List.getElem?_set] at e
      split at e
      · split at e <;> cases e
      · rename_i n; exact absurd rfl n
    · rw [List.getElem?_set_ne hij] at e
      obtain ⟨w, e1, e2⟩ := h.sl j d e
      exact ⟨w, e1, by rw [ht j (Ne.symm hij)]; exact e2⟩
  ls := h.ls
  dz := h.dz
  zt := h.zt
  len := by simpa using h.len
theorem ss_fz (i : Nat) (hfx : F.fx i = false := by rfl) (hr : PSs X sts (tS X.K (F.fz i) sa)) : PSs X sts (tS X.K F (sFz i sa)) := hr.mono fun E σ H ⟨Z, own, ρ, f, ρ', rs, e, o⟩ => by
  unfold sFz at e
  split at e
  · rename_i f1 ρ1 e1
    cases e
    classical
    have rs' : RS X.K (F.fz i).τ (fun a => Z a ∨ own a = some i) (fun a => if own a = some i then none else own a) H ρ σ := by
      refine ⟨fun j d e => ?_, fun a j e => ?_, fun a j e z => ?_, fun a z => z.elim (rs.zt a) fun z e => ?_, rs.len⟩
      · obtain ⟨v, h1, h2⟩ := rs.sl j d e
        refine ⟨v, h1, ?_⟩
        show R X.K _ H (if j = i then .sh else F.τ j) d v _
        by_cases hij : j = i
        · rw [if_pos hij]; subst hij; exact R.freeze h2
        · rw [if_neg hij]
          refine R.pres (fun _ z => .inl z) (fun _ _ s _ => s) (fun _ _ _ s => s) (fun _ _ _ e => e) (R.mono h2 fun a ha => ?_)
          show (if own a = some i then none else own a) = some j
          rw [if_neg (fun z => by rw [ha] at z; cases z; exact hij rfl)]; exact ha
      · split at e
        · cases e
        · exact rs.ls a j e
      · split at e
        · cases e
        · rename_i n
          rcases z with z | z
          · exact rs.dz a j e z
          · exact n z
      · obtain ⟨xs, hx, _⟩ := rs.ls a i z
        rw [hx] at e; cases e
    have x0 : ExtF F.fx true Z own H (fun a => Z a ∨ own a = some i) (fun a => if own a = some i then none else own a) H :=
      ⟨fun _ z => .inl z, fun a z => z.elim .inl fun z => .inr (.inr ⟨i, z, hfx⟩), fun a j e => by
        split at e
        · cases e
        · exact .inl e, fun _ _ e _ => e, fun _ e => e⟩
    have ht : ∀ j, j ≠ i → F.τ j = (F.fz i).τ j := fun j hj => (if_neg hj).symm
    refine ⟨_, _, ρ, f, ρ1, rs', e1, ?_⟩
    cases f with
    | nx => exact fun σ' Z' own' H' r1 r2 r3 => o σ' Z' own' H' (r1.forget ht) r2 (x0.transF r3)
    | brk => exact fun σ' Z' own' H' r1 r2 r3 => o σ' Z' own' H' (r1.forget ht) r2 (x0.transF r3)
    | cnt => exact fun σ' Z' own' H' r1 r2 r3 => o σ' Z' own' H' (r1.forget ht) r2 (x0.transF r3)
    | ret d => exact fun v σ' Z' own' H' S r1 r2 r3 r4 r5 => o v σ' Z' own' H' S (r1.forget ht) r2 r3 (r4.back x0) (x0.transF r5)
  · cases e
  · cases e
end

/-! ### loops -/
def LaterH (K : PySem.W.Frag) (Z : Addr → Prop) (H : Hp) (Z1 : Addr → Prop) (H1 : Hp) : Prop := (∀ a, Z a → Z1 a) ∧ NL H H1 ∧ ∀ a o, Z a → H a = some o → H1 a = some o
structure WalkD (K : PySem.W.Frag) (Z : Addr → Prop) (H : Hp) (J : It) (ds : List D) : Prop where
  go : ∀ Z1 H1, LaterH K Z H Z1 H1 → ∀ i, i < ds.length → J.go i H1
  yl : ∀ Z1 H1, LaterH K Z H Z1 H1 → ∀ i d, ds[i]? = some d → ∀ x H2, J.yld i H1 x H2 → Grow H1 H2 ∧ RSh K Z1 H2 d x
  st : ∀ Z1 H1, LaterH K Z H Z1 H1 → J.stop ds.length H1
  sz : ds.length ≤ sizeLine
def tI (K : PySem.W.Frag) (τ : Nat → OT) (q : Bool) (m : M (List D)) : TI := fun σ H R => ∃ Z own ρ ds ρ', RS K τ Z own H ρ σ ∧ m ρ = .ok (ds, ρ') ∧
  ∀ J Z' own' H', RS K τ Z' own' H' ρ' σ → WalkD K Z' H' J ds → Ext q Z own H Z' own' H' → R J H'
theorem RS.later {K : PySem.W.Frag} {τ : Nat → OT} {Z Z1 : Addr → Prop} {own own1 : Addr → Option Nat} {H H1 : Hp} {ρ : Sl} {σ : St} {q : Bool} {fx : Nat → Bool} (h : RS K τ Z own H ρ σ) (e : ExtF fx q Z own H Z1 own1 H1) : LaterH K Z H Z1 H1 := ⟨e.z, h.nl e, fun _ _ z s => h.kz e (.inl z) s⟩
def forL (p : Pt) (b : MS) : List D → MS
  | [] => sK .nx
  | x :: xs => fun ρ => match p x ρ with
    | none => .bad
    | some ρ1 => match b ρ1 with
      | .ok (.nx, ρ2) => forL p b xs ρ2
      | .ok (.cnt, ρ2) => forL p b xs ρ2
      | .ok (.brk, ρ2) => .ok (.nx, ρ2)
      | .ok (.ret d, ρ2) => .ok (.ret d, ρ2)
      | .exc e => .exc e
      | .bad => .bad
def sFor (p : Pt) (it : M (List D)) (b : MS) : MS := bind it fun xs => forL p b xs
def whileN : Nat → M D → MS → MS
  | 0, _, _ => fun _ => .bad
  | n + 1, c, b => fun ρ => match c ρ with
    | .ok (.bl true, ρ1) => (match b ρ1 with
      | .ok (.nx, ρ2) => whileN n c b ρ2
      | .ok (.cnt, ρ2) => whileN n c b ρ2
      | .ok (.brk, ρ2) => .ok (.nx, ρ2)
      | .ok (.ret d, ρ2) => .ok (.ret d, ρ2)
      | .exc e => .exc e
      | .bad => .bad)
    | .ok (.bl false, ρ1) => .ok (.nx, ρ1)
    | .exc e => .exc e
    | _ => .bad
section
variable {X : Cx} {F : Fr} {q q1 q2 q3 : Bool} {c iter tg : Expr} {mc : M D} {mi : M (List D)} {pos : Pos} {sts : List Stmt} {sb : MS} {p : Pt}
theorem s_for (hi : PI X tg iter (tI X.K F.τ q mi)) (hg : PG X tg (tG X.K F.τ F.fx p)) (hb : PSs X sts (tS X.K F sb)) (hp : PassesOwn (model X.prog X.w) X.A X.env X.xe := by exact PassesOwn.never) (hc : X.calm = true := by rfl)
    (hs : ∀ x, foldedSetIterable iter X.env x = pure x := by intro _; rfl) : PS X (.For tg iter sts [] pos) (tS X.K F (sFor p mi sb)) := (ps_for hp hc hi hg hb hs).mono fun E σ H ⟨Z, own, ρ, f, ρ', rs, e, o⟩ => by
  obtain ⟨ds, ρ0, e0, e⟩ := bind_ok e
  refine ⟨Z, own, ρ, ds, ρ0, rs, e0, fun J Z1 own1 H1 rs1 w x1 => ?_⟩
  refine ⟨fun i m σ' H' => m = ds.length - i ∧ i ≤ ds.length ∧ ∃ Z2 own2 ρ2, RS X.K F.τ Z2 own2 H' ρ2 σ' ∧ Fix F.fx σ σ' ∧ ExtF F.fx false Z1 own1 H1 Z2 own2 H' ∧ forL p sb (ds.drop i) ρ2 = .ok (f, ρ'),
    ⟨ds.length, by simp, Nat.zero_le _, Z1, own1, ρ0, rs1, Fix.refl, ExtF.refl, by simpa using e⟩, ?_⟩
  rintro i m σ2 H2 ⟨rfl, hi, Z2, own2, ρ2, rs2, f2, x2, e2⟩
  have lt := rs1.later x2
  by_cases hlt : i < ds.length
  · refine .inr ⟨w.go Z2 H2 lt i hlt, fun σ' H' => ∃ Z3 own3 ρ3, RS X.K F.τ Z3 own3 H' ρ3 σ' ∧ Fix F.fx σ σ' ∧ ExtF F.fx false Z1 own1 H1 Z3 own3 H' ∧ forL p sb (ds.drop (i + 1)) ρ3 = .ok (f, ρ'),
      fun σ' H' h => ⟨ds.length - (i + 1), by omega, rfl, hlt, h⟩, fun x H3 y => ?_⟩
    obtain ⟨d, hd⟩ : ∃ d, ds[i]? = some d := ⟨ds[i], by simp [hlt]⟩
    obtain ⟨g, r⟩ := w.yl Z2 H2 lt i d hd x H3 y
    have ed : ds.drop i = d :: ds.drop (i + 1) := by
      rw [List.drop_eq_getElem_cons hlt]
      have : ds[i] = d := by
        have := List.getElem?_eq_getElem hlt
        rw [hd] at this; exact (Option.some.inj this).symm
      rw [this]
    rw [ed] at e2
    unfold forL at e2
    split at e2
    · cases e2
    · rename_i ρ4 e4
      have rs3 := rs2.growO g
      have x3 : ExtF F.fx false Z1 own1 H1 Z2 own2 H3 := x2.transF (ExtF.growO (q := false) g)
      refine ⟨Z2, own2, ρ2, d, ρ4, rs3, r, e4, fun σ4 rs4 f4 => ?_⟩
      split at e2
      · rename_i ρ5 e5
        exact ⟨Z2, own2, ρ4, .nx, ρ5, rs4, e5, fun σ5 Z5 own5 H5 rs5 f5 x5 => ⟨Z5, own5, ρ5, rs5, (f2.trans f4).trans f5, x3.transF x5, e2⟩⟩
      · rename_i ρ5 e5
        exact ⟨Z2, own2, ρ4, .cnt, ρ5, rs4, e5, fun σ5 Z5 own5 H5 rs5 f5 x5 => ⟨Z5, own5, ρ5, rs5, (f2.trans f4).trans f5, x3.transF x5, e2⟩⟩
      · rename_i ρ5 e5
        cases e2
        exact ⟨Z2, own2, ρ4, .brk, _, rs4, e5, fun σ5 Z5 own5 H5 rs5 f5 x5 => o σ5 Z5 own5 H5 rs5 ((f2.trans f4).trans f5) ((x1.any).transF (x3.transF x5))⟩
      · rename_i d' ρ5 e5
        cases e2
        exact ⟨Z2, own2, ρ4, .ret d', _, rs4, e5, (o.back (x1.any) Fix.refl).back (x3) (f2.trans f4)⟩
      · cases e2
      · cases e2
  · have ei : i = ds.length := by omega
    subst ei
    refine .inl ⟨w.st Z2 H2 lt, ?_⟩
    rw [List.drop_length] at e2
    unfold forL sK at e2
    cases e2
    exact o σ2 Z2 own2 H2 rs2 f2 ((x1.any).transF x2)
theorem s_while {n : Nat} (hc : PT X c (tT X.K F.τ q mc)) (hb : PSs X sts (tS X.K F sb)) (hp : PassesOwn (model X.prog X.w) X.A X.env X.xe := by exact PassesOwn.never) : PS X (.While c sts [] pos) (tS X.K F (whileN n mc sb)) := (ps_while hp hc hb).mono fun E σ H ⟨Z, own, ρ, f, ρ', rs, e, o⟩ => by
  refine ⟨fun m σ' H' => ∃ Z2 own2 ρ2, RS X.K F.τ Z2 own2 H' ρ2 σ' ∧ Fix F.fx σ σ' ∧ ExtF F.fx false Z own H Z2 own2 H' ∧ whileN m mc sb ρ2 = .ok (f, ρ'),
    ⟨n, Z, own, ρ, rs, Fix.refl, ExtF.refl, e⟩, ?_⟩
  rintro m σ2 H2 ⟨Z2, own2, ρ2, rs2, f2, x2, e2⟩
  cases m with
  | zero => unfold whileN at e2; cases e2
  | succ m =>
    unfold whileN at e2
    split at e2
    · rename_i ρ3 e3
      refine ⟨Z2, own2, ρ2, true, ρ3, rs2, e3, fun Z3 own3 H3 rs3 x3 => iteT ⟨fun σ' H' => ∃ Z4 own4 ρ4, RS X.K F.τ Z4 own4 H' ρ4 σ' ∧ Fix F.fx σ σ' ∧ ExtF F.fx false Z own H Z4 own4 H' ∧ whileN m mc sb ρ4 = .ok (f, ρ'), fun σ' H' h => ⟨m, Nat.lt_succ_self _, h⟩, ?_⟩⟩
      have x3' : ExtF F.fx false Z own H Z3 own3 H3 := x2.transF x3.any
      split at e2
      · rename_i ρ5 e5
        exact ⟨Z3, own3, ρ3, .nx, ρ5, rs3, e5, fun σ5 Z5 own5 H5 rs5 f5 x5 => ⟨Z5, own5, ρ5, rs5, f2.trans f5, x3'.transF x5, e2⟩⟩
      · rename_i ρ5 e5
        exact ⟨Z3, own3, ρ3, .cnt, ρ5, rs3, e5, fun σ5 Z5 own5 H5 rs5 f5 x5 => ⟨Z5, own5, ρ5, rs5, f2.trans f5, x3'.transF x5, e2⟩⟩
      · rename_i ρ5 e5
        cases e2
        exact ⟨Z3, own3, ρ3, .brk, _, rs3, e5, fun σ5 Z5 own5 H5 rs5 f5 x5 => o σ5 Z5 own5 H5 rs5 (f2.trans f5) (x3'.transF x5)⟩
      · rename_i d' ρ5 e5
        cases e2
        exact ⟨Z3, own3, ρ3, .ret d', _, rs3, e5, o.back x3' f2⟩
      · cases e2
      · cases e2
    · rename_i ρ3 e3
      cases e2
      exact ⟨Z2, own2, ρ2, false, _, rs2, e3, fun Z3 own3 H3 rs3 x3 => iteF (o σ2 Z3 own3 H3 rs3 f2 (x2.transF x3.any))⟩
    · cases e2
    · cases e2
end
end CL

namespace CL
open PySem PySem.Spec L2
set_option autoImplicit false
/-! ### what is walked -/
theorem ints_rel {K : PySem.W.Frag} {Z : Addr → Prop} {H : Hp} : ∀ ns : List Int, RShL K Z H (ns.map D.int) (ns.map V.int)
  | [] => by simp only [List.map_nil, RShL]
  | n :: ns => by simp only [List.map_cons, RShL]; exact ⟨_, _, rfl, by simp only [RSh], ints_rel ns⟩
def signs (z : Str) : List D := z.cps.toList.map fun c => .str ⟨#[c]⟩
def itemsOf : D → Option (List D)
  | .tup l => some l
  | .lst l => some l
  | .scr ns => some (ns.map D.int)
  | .str z => if z.cps.size ≤ 16777216 then some (signs z) else none
  | _ => none
def ofL (o : Option (List D)) : M (List D) := fun ρ => match o with | some d => .ok (d, ρ) | none => .bad
theorem ofL_ok {o : Option (List D)} {ρ ρ' : Sl} {d : List D} (h : ofL o ρ = .ok (d, ρ')) : o = some d ∧ ρ' = ρ := by
  unfold ofL at h
  split at h
  · cases h; exact ⟨rfl, rfl⟩
  · cases h
def mIt (m : M D) : M (List D) := bind m fun d => ofL (itemsOf d)
def rangeL (a b : Int) : List D := (List.range (b - a).toNat).map fun i => .int (a + (i : Nat))
def range1 : List D → Option (List D)
  | [.int b] => if b ≤ 16777216 ∧ -(2 ^ 62) ≤ b then some (rangeL 0 b) else none
  | _ => none
def range2 : List D → Option (List D)
  | [.int a, .int b] => if (-(2 ^ 62) ≤ a ∧ a < 2 ^ 62 ∧ -(2 ^ 62) ≤ b ∧ b < 2 ^ 62) ∧ b - a ≤ 16777216 then some (rangeL a b) else none
  | _ => none
def mItN (f : List D → Option (List D)) (m : M (List D)) : M (List D) := bind m fun ds => ofL (f ds)
theorem szL : sizeLine = 16777216 := by decide
section
variable {X : Cx} {τ : Nat → OT} {q : Bool} {tg e a b : Expr} {es : List Expr} {m : M D} {ms : M (List D)} {pos : Pos}
/-- a list, a tuple or a text that is walked -/
theorem pi_any {te : TE} (he : PE X e te) : PI X tg e (fun σ H Rk => te σ H fun x H1 => (∃ l xs, x = .ref l ∧ SqL X.K H1 l xs ∧ (xs.length ≤ sizeLine → Rk (Itl X.K l) H1)) ∨
    (∃ l xs, x = .ref l ∧ SqT X.K H1 l xs ∧ (xs.length ≤ sizeLine → Rk (Itt X.K l) H1)) ∨ ∃ z, x = .str z ∧ Rk (Its z) H1) := by
  constructor
  intro pins s0 σ H Rk I0 hw
  apply thn (he.run pins s0 σ H _ I0 hw)
  rintro val s2 ⟨x, H2, I2, rel, hx⟩
  rcases hx with ⟨l, xs, rfl, hs, k⟩ | ⟨l, xs, rfl, hs, k⟩ | ⟨z, rfl, k⟩
  · cases rel
    obtain ⟨vals, rvs, pl, sz⟩ := I2.list hs
    exact wpAny_pyIter_list pl.isList (pi_one (tk := s2.toks) I2 _ (turn_list l _) ⟨_, Heap.get?_push_size _ rfl, rfl, rfl⟩ (k sz))
  · cases rel
    obtain ⟨vals, rvs, pl, sz⟩ := I2.tuple hs
    exact wpAny_pyIter_tuple (show s2.heap.IsTuple l vals.toArray from pl) (pi_one (tk := s2.toks) I2 _ (turn_tuple l _) ⟨_, Heap.get?_push_size _ rfl, rfl, rfl⟩ (k sz))
  · obtain ⟨tok, rfl⟩ := rel
    cases hall : z.cps.all (· < 128) with
    | false => exact wpAny_pyIter_wide hall (pi_one (tk := s2.toks) I2 _ (turn_str _ z tok "str_iterator" (Or.inr rfl)) ⟨_, Heap.get?_push_size _ rfl, rfl, rfl⟩ k)
    | true => exact wpAny_pyIter_ascii hall (pi_one (tk := s2.toks) I2 _ (turn_str _ z tok "str_ascii_iterator" (Or.inl rfl)) ⟨_, Heap.get?_push_size _ rfl, rfl, rfl⟩ k)
theorem WalkD.list {K : PySem.W.Frag} {Z : Addr → Prop} {H : Hp} {l : Addr} {ds : List D} {xs : List V} (z : Z l ∨ KL K l xs) (s : SqL K H l xs) (r : RShL K Z H ds xs) (sz : xs.length ≤ sizeLine) : WalkD K Z H (Itl K l) ds where
  go := fun Z1 H1 lt i hi => ⟨xs, xs[i]'(by rw [← r.len]; exact hi), z.elim (fun z => sqL_keep (fun o => lt.2.2 l o z) s) (fun z => z _), List.getElem?_eq_getElem _⟩
  yl := fun Z1 H1 lt i d hd x H2 y => by
    obtain ⟨v, hv, rv⟩ := r.get hd
    obtain ⟨rfl, hy⟩ := y
    have := hy xs (z.elim (fun z => sqL_keep (fun o => lt.2.2 l o z) s) (fun z => z _))
    rw [hv] at this; cases this
    exact ⟨Grow.refl, RSh.pres lt.1 lt.2.1 lt.2.2 d _ rv⟩
  st := fun Z1 H1 lt => ⟨xs, z.elim (fun z => sqL_keep (fun o => lt.2.2 l o z) s) (fun z => z _), by rw [r.len]; exact Nat.le_refl _⟩
  sz := by rw [r.len]; exact sz
theorem WalkD.tuple {K : PySem.W.Frag} {Z : Addr → Prop} {H : Hp} {l : Addr} {ds : List D} {xs : List V} (s : SqT K H l xs) (r : RShL K Z H ds xs) (sz : xs.length ≤ sizeLine) : WalkD K Z H (Itt K l) ds where
  go := fun Z1 H1 lt i hi => ⟨xs, xs[i]'(by rw [← r.len]; exact hi), NL.sqT lt.2.1 s, List.getElem?_eq_getElem _⟩
  yl := fun Z1 H1 lt i d hd x H2 y => by
    obtain ⟨v, hv, rv⟩ := r.get hd
    obtain ⟨rfl, hy⟩ := y
    have := hy xs (NL.sqT lt.2.1 s)
    rw [hv] at this; cases this
    exact ⟨Grow.refl, RSh.pres lt.1 lt.2.1 lt.2.2 d _ rv⟩
  st := fun Z1 H1 lt => ⟨xs, NL.sqT lt.2.1 s, by rw [r.len]; exact Nat.le_refl _⟩
  sz := by rw [r.len]; exact sz
theorem i_any (he : PE X e (tE X.K τ q .sh m)) : PI X tg e (tI X.K τ q (mIt m)) := (pi_any he).mono fun σ H Rk ⟨Z, own, ρ, ds, ρ', rs, e, k⟩ => by
  obtain ⟨d, ρ1, e1, e⟩ := bind_ok e
  obtain ⟨e3, rfl⟩ := ofL_ok e
  refine ⟨Z, own, ρ, d, ρ', rs, e1, fun v Z1 own1 H1 S rs1 rm n x1 => ?_⟩
  cases d with
  | tup l =>
    cases e3
    simp only [Rm, R, RSh] at rm
    obtain ⟨a, xs, rfl, s, rl⟩ := rm
    exact .inr (.inl ⟨a, xs, rfl, s, fun sz => k _ Z1 own1 H1 rs1 (.tuple s rl sz) x1⟩)
  | lst l =>
    cases e3
    simp only [Rm, R, RSh] at rm
    obtain ⟨a, xs, rfl, z, s, rl⟩ := rm
    exact .inl ⟨a, xs, rfl, SqL.of s, fun sz => k _ Z1 own1 H1 rs1 (.list (.inl z) (SqL.of s) rl sz) x1⟩
  | scr ns =>
    cases e3
    simp only [Rm, R, RSh] at rm
    obtain ⟨a, rfl, z, s⟩ := rm
    exact .inl ⟨a, _, rfl, s, fun sz => k _ Z1 own1 H1 rs1 (.list z s (ints_rel ns) sz) x1⟩
  | str z =>
    simp only [itemsOf] at e3
    split at e3
    · rename_i hz
      cases e3
      simp only [Rm, R, RSh] at rm
      subst rm
      refine .inr (.inr ⟨z, rfl, k _ Z1 own1 H1 rs1 ⟨fun Z2 H2 lt i hi => ?_, fun Z2 H2 lt i d hd x H3 y => ?_, fun Z2 H2 lt => ?_, ?_⟩ x1⟩)
      · show i < z.cps.size
        simpa [signs] using hi
      · obtain ⟨rfl, c, hc, rfl⟩ := y
        refine ⟨Grow.refl, ?_⟩
        simp only [signs, List.getElem?_map, Array.getElem?_toList] at hd
        rw [hc] at hd
        cases hd
        simp only [RSh]
      · show z.cps.size ≤ (signs z).length
        simp [signs]
      · rw [szL]; simpa [signs] using hz
    · cases e3
  | _ => cases e3
theorem WalkD.range {K : PySem.W.Frag} {Z : Addr → Prop} {H : Hp} {a b : Int} (h : b - a ≤ 16777216) : WalkD K Z H (Itr a (b - a).toNat) (rangeL a b) where
  go := fun Z1 H1 lt i hi => by show i < (b - a).toNat; simpa [rangeL] using hi
  yl := fun Z1 H1 lt i d hd x H2 y => by
    obtain ⟨rfl, rfl⟩ := y
    refine ⟨Grow.refl, ?_⟩
    simp only [rangeL, List.getElem?_map] at hd
    obtain ⟨j, hj, rfl⟩ := Option.map_eq_some_iff.mp hd
    rw [List.getElem?_range (by
      have := (List.getElem?_eq_some_iff.mp hj).1
      simpa using this)] at hj
    cases hj
    simp only [RSh]
  st := fun Z1 H1 lt => by show (b - a).toNat ≤ _; simp [rangeL]
  sz := by rw [szL]; simp [rangeL]; omega
theorem Pk0.int {K : PySem.W.Frag} {Z : Addr → Prop} {H : Hp} {i : Int} {v : V} (h : Pk0 K Z H (.int i) v) : v = .int i := by
  rcases h with h | ⟨l, a, xs, e, _⟩
  · simpa only [RSh] using h
  · cases e
theorem i_range1 {p : Pos} (ha : PA X [a] (tA X.K τ q ms)) (hg : Gl X "range" := by rfl) (hm : X.mg "range" = none := by assumption) (hs : starEach [a] X.env = [(false, eval a X.env)] := by rfl) : PI X tg (.Call (.Name "range" p) [a] [] pos) (tI X.K τ q (mItN range1 ms)) := (pi_range1 hg hm ha hs).mono fun σ H Rk ⟨Z, own, ρ, ds, ρ', rs, e, k⟩ => by
  obtain ⟨d, ρ1, e1, e⟩ := bind_ok e
  obtain ⟨e3, rfl⟩ := ofL_ok e
  refine ⟨Z, own, ρ, d, ρ', rs, e1, fun vs Z1 own1 H1 rs1 rl x1 => ?_⟩
  unfold range1 at e3
  split at e3
  · rename_i b
    split at e3
    · rename_i hb
      cases e3
      obtain ⟨w, ws, rfl, r1, r2⟩ := rl
      have r2 : ws = [] := r2
      subst r2
      rw [r1.int]
      refine ⟨b, rfl, hb.2, by omega, ?_⟩
      have := k (Itr 0 (b - 0).toNat) Z1 own1 H1 rs1 (.range (by omega)) x1
      simpa using this
    · cases e3
  · cases e3
theorem i_range2 {p : Pos} (ha : PA X [a, b] (tA X.K τ q ms)) (hg : Gl X "range" := by rfl) (hm : X.mg "range" = none := by assumption) (hs : starEach [a, b] X.env = [(false, eval a X.env), (false, eval b X.env)] := by rfl) (hs2 : starEach [b] X.env = [(false, eval b X.env)] := by rfl) : PI X tg (.Call (.Name "range" p) [a, b] [] pos) (tI X.K τ q (mItN range2 ms)) := (pi_range2 hg hm ha hs hs2).mono fun σ H Rk ⟨Z, own, ρ, ds, ρ', rs, e, k⟩ => by
  obtain ⟨d, ρ1, e1, e⟩ := bind_ok e
  obtain ⟨e3, rfl⟩ := ofL_ok e
  refine ⟨Z, own, ρ, d, ρ', rs, e1, fun vs Z1 own1 H1 rs1 rl x1 => ?_⟩
  unfold range2 at e3
  split at e3
  · rename_i i j
    split at e3
    · rename_i hb
      cases e3
      obtain ⟨w, ws, rfl, r1, w2, ws2, rfl, r2, r3⟩ := rl
      have r3 : ws2 = [] := r3
      subst r3
      rw [r1.int, r2.int]
      exact ⟨i, j, rfl, hb.1, k _ Z1 own1 H1 rs1 (.range hb.2) x1⟩
    · cases e3
  · cases e3
end
/-! ### comprehensions -/
def wipeD (ρ : Sl) : List Nat → Sl
  | [] => ρ
  | v :: vs => (wipeD ρ vs).set v none
def compL (vs : List Nat) (p : Pt) (c e : M D) : List D → M (List D)
  | [] => fun ρ => .ok ([], ρ)
  | x :: xs => fun ρ => match p x ρ with
    | none => .bad
    | some ρ1 => match c ρ1 with
      | .ok (.bl true, ρ2) => (match e ρ2 with
        | .ok (d, ρ3) => (match compL vs p c e xs (wipeD ρ3 vs) with
          | .ok (ds, ρ4) => .ok (d :: ds, ρ4)
          | .exc x => .exc x
          | .bad => .bad)
        | .exc x => .exc x
        | .bad => .bad)
      | .ok (.bl false, ρ2) => compL vs p c e xs (wipeD ρ2 vs)
      | .exc x => .exc x
      | _ => .bad
def mComp (vs : List Nat) (p : Pt) (it : M (List D)) (c e : M D) : M D := bind it fun xs => fun ρ => match compL vs p c e xs (wipeD ρ vs) with
  | .ok (ds, ρ') => .ok (.lst ds, ρ')
  | .exc x => .exc x
  | .bad => .bad
def gxOf (vs : List Nat) : Nat → Bool := fun k => !vs.contains k
theorem wipeD_some {ρ : Sl} {i : Nat} {x : D} : ∀ {vs : List Nat}, (wipeD ρ vs)[i]? = some (some x) → ρ[i]? = some (some x) ∧ i ∉ vs
  | [], h => ⟨h, by simp⟩
  | v :: vs, h => by
    unfold wipeD at h
    by_cases hi : v = i
    · subst hi
      rw [List.getElem?_set] at h
      split at h
      · split at h <;> cases h
      · rename_i n; exact absurd rfl n
    · rw [List.getElem?_set_ne hi] at h
      obtain ⟨a1, a2⟩ := wipeD_some h
      exact ⟨a1, by simp only [List.mem_cons, not_or]; exact ⟨fun e => hi e.symm, a2⟩⟩
theorem wipeD_len (ρ : Sl) : ∀ vs : List Nat, (wipeD ρ vs).length = ρ.length
  | [] => rfl
  | v :: vs => by unfold wipeD; rw [List.length_set]; exact wipeD_len ρ vs
theorem wipe_at (σ : St) (k : Nat) : ∀ vs : List Nat, (wipe σ vs)[k]? = if k ∈ vs then (if k < σ.length then some none else none) else σ[k]?
  | [] => by simp [wipe]
  | v :: vs => by
    unfold wipe
    by_cases hi : v = k
    · subst hi
      rw [List.getElem?_set, wipe_length]
      simp
    · rw [List.getElem?_set_ne hi, wipe_at σ k vs]
      have : (k ∈ v :: vs) ↔ k ∈ vs := by simp [List.mem_cons, Ne.symm hi]
      simp only [this]
theorem wipe_fix {σ σ2 : St} {vs : List Nat} (h : Fix (gxOf vs) (wipe σ vs) σ2) : wipe σ2 vs = wipe σ vs := by
  apply List.ext_getElem?
  intro k
  rw [wipe_at, wipe_at]
  have hl : σ2.length = σ.length := by rw [h.1, wipe_length]
  rw [hl]
  by_cases hk : k ∈ vs
  · rw [if_pos hk, if_pos hk]
  · rw [if_neg hk, if_neg hk]
    have := h.2 k (by simp [gxOf, hk])
    rw [this, wipe_at, if_neg hk]
section
variable {K : PySem.W.Frag} {τ : Nat → OT} {Z Z1 : Addr → Prop} {own own1 : Addr → Option Nat} {H H1 : Hp} {ρ : Sl} {σ : St} {q : Bool}
theorem RS.wipe (h : RS K τ Z own H ρ σ) (vs : List Nat) : RS K τ Z own H (wipeD ρ vs) (L2.wipe σ vs) where
  sl := fun i d e => by
    obtain ⟨e1, n⟩ := wipeD_some e
    obtain ⟨v, a1, a2⟩ := h.sl i d e1
    exact ⟨v, by rw [wipe_at, if_neg n]; exact a1, a2⟩
  ls := h.ls
  dz := h.dz
  zt := h.zt
  len := by rw [wipeD_len, wipe_length]; exact h.len
theorem RS.unwipe {vs : List Nat} (h : RS K τ Z own H ρ (L2.wipe σ vs)) : RS K τ Z own H ρ σ where
  sl := fun i d e => by
    obtain ⟨v, a1, a2⟩ := h.sl i d e
    exact ⟨v, (wipe_some a1).1, a2⟩
  ls := h.ls
  dz := h.dz
  zt := h.zt
  len := by have := h.len; rwa [wipe_length] at this
/-- a list that nothing owns and nothing shares is changed -/
theorem upd_nl {H : Hp} {p : Addr} {o o' : HO} (hp : H p = some o) (hm : Mut o) : NL H (upd H p o') := fun a u hu hn => by
  rw [upd_ne (fun e => by subst e; rw [hp] at hu; cases hu; exact hn hm)]; exact hu
theorem RS.updD {p : Addr} {xs ys : List V} (h : RS K τ Z own H ρ σ) (hp : H p = some (.lst xs)) (ho : own p = none) (hz : ¬ Z p) : RS K τ Z own (upd H p (.lst ys)) ρ σ := by
  have ht : NL H (upd H p (.lst ys)) := upd_nl hp trivial
  have hl : ∀ a o, Z a → H a = some o → upd H p (.lst ys) a = some o := fun a o z s => by
    rw [upd_ne (fun e => by subst e; exact hz z)]; exact s
  refine ⟨fun i d e => ?_, fun a i e => ?_, h.dz, fun a z e => ?_, h.len⟩
  · obtain ⟨v, a1, a2⟩ := h.sl i d e
    refine ⟨v, a1, R.pres (fun _ z => z) ht hl (fun a zs s e => ?_) a2⟩
    rw [upd_ne (fun z => by subst z; rw [ho] at s; cases s)]; exact e
  · obtain ⟨zs, hx, hm⟩ := h.ls a i e
    exact ⟨zs, by rw [upd_ne (fun z => by subst z; rw [ho] at e; cases e)]; exact hx, hm⟩
  · rw [upd_ne (fun w => by subst w; exact hz z)] at e
    exact h.zt a z e
theorem RS.updShL {p : Addr} {xs ys : List V} {ds : List D} {vs : List V} (hp : H p = some (.lst xs)) (hz : ¬ Z p) (r : RShL K Z H ds vs) : RShL K Z (upd H p (.lst ys)) ds vs := by
  refine RShL.pres (fun _ z => z) (upd_nl hp trivial) (fun a zs z s => ?_) ds vs r
  rw [upd_ne (fun e => by subst e; exact hz z)]; exact s
theorem ExtF.updN {fx : Nat → Bool} {p : Addr} {o : HO} (x : ExtF fx q Z own H Z1 own1 H1) (hp : H p = none) : ExtF fx q Z own H Z1 own1 (upd H1 p o) :=
  ⟨x.z, x.zn, x.on, fun a u e h => by rw [upd_ne (ne_of_none e hp)]; exact x.keep a u e h, fun a e n => by
    have ne : a ≠ p := fun z => by subst z; exact e hp
    rw [upd_ne ne] at n; exact x.live a e n⟩
end
def mYes : M D := mC (.bl true)
theorem _root_.L2.PTs.mono {X : Cx} {ifs : List Expr} {t t' : TT} (h : PTs X ifs t) (f : ∀ σ H Q, t' σ H Q → t σ H Q) : PTs X ifs t' := ⟨fun pins s σ H Q I hw => h.run pins s σ H Q I (f σ H Q hw)⟩
section
variable {X : Cx} {τ : Nat → OT} {q q1 q2 : Bool} {elt tg iter c : Expr} {ifs : List Expr} {pos : Pos} {mi : M (List D)} {mc me : M D} {p : Pt}
theorem ts_nil : PTs X [] (tT X.K τ true mYes) := pts_nil.mono fun σ H Q ⟨Z, own, ρ, b, ρ', rs, e, k⟩ => by
  unfold mYes mC at e; cases e
  exact k Z own H rs ExtF.refl
theorem ts_one (h : PT X c (tT X.K τ q mc)) : PTs X [c] (tT X.K τ q mc) := pts_one h
/-- [elt for tg in iter if ..] -/
theorem lc_of {own' : List (Str × Nat)} {vs : List Nat} {qi : Bool} (hv : own'.map (·.2) = vs) : ∀ σ H Q, tE X.K τ (qi && (q1 && q2)) (.ow (.ol .sh .sh)) (mComp vs p mi mc me) σ H Q →
    tLc (tI X.K τ qi mi) (tG X.K τ (gxOf vs) p) (tT X.K τ q1 mc) (tE X.K τ q2 .sh me) (own'.map (·.2)) σ H Q := fun σ H Q ⟨Z, own, ρ, d, ρ', rs, e, k⟩ => by
  rw [hv]
  obtain ⟨ds, ρ0, e0, e⟩ := bind_ok e
  split at e
  case h_2 => cases e
  case h_3 => cases e
  rename_i out ρe ee
  cases e
  refine ⟨Z, own, ρ, ds, ρ0, rs, e0, fun J Z1 own1 H1 rs1 w x1 L hL => ?_⟩
  have hLo : own1 L = none := by
    cases ho : own1 L with
    | none => rfl
    | some i => obtain ⟨ys, hy, _⟩ := rs1.ls L i ho; rw [hL] at hy; cases hy
  have hLz : ¬ Z1 L := fun z => rs1.zt L z hL
  refine ⟨fun i m H' => m = ds.length - i ∧ i ≤ ds.length ∧ ∃ Z2 own2 ρ2 acc dacc rest, RS X.K τ Z2 own2 H' ρ2 (wipe σ vs) ∧ Ext (q1 && q2) Z1 own1 H1 Z2 own2 H' ∧ H' L = some (.lst acc) ∧ own2 L = none ∧ ¬ Z2 L ∧ RShL X.K Z2 H' dacc acc ∧ acc.length ≤ i ∧
      compL vs p mc me (ds.drop i) ρ2 = .ok (rest, ρ') ∧ dacc ++ rest = out,
    ⟨ds.length, by simp, Nat.zero_le _, Z1, own1, wipeD ρ0 vs, [], [], out, (rs1.growO (Grow.new hL)).wipe vs, ExtF.growO (Grow.new hL), upd_same, hLo, hLz, by simp only [RShL], Nat.zero_le _, by simpa using ee, rfl⟩, ?_⟩
  rintro i m H2 ⟨rfl, hi, Z2, own2, ρ2, acc, dacc, rest, rs2, x2, hacc, ho2, hz2, rl, hal, ec, eo⟩
  have lt := rs1.later x2
  by_cases hlt : i < ds.length
  · refine .inr ⟨w.go Z2 H2 lt i hlt, fun H' => ∃ Z3 own3 ρ3 acc3 dacc3 rest3, RS X.K τ Z3 own3 H' ρ3 (wipe σ vs) ∧ Ext (q1 && q2) Z1 own1 H1 Z3 own3 H' ∧ H' L = some (.lst acc3) ∧ own3 L = none ∧ ¬ Z3 L ∧ RShL X.K Z3 H' dacc3 acc3 ∧ acc3.length ≤ i + 1 ∧
      compL vs p mc me (ds.drop (i + 1)) ρ3 = .ok (rest3, ρ') ∧ dacc3 ++ rest3 = out, fun H' h => ⟨ds.length - (i + 1), by omega, rfl, hlt, h⟩, fun x H3 y => ?_⟩
    obtain ⟨d, hd⟩ : ∃ d, ds[i]? = some d := ⟨ds[i], by simp [hlt]⟩
    obtain ⟨g, r⟩ := w.yl Z2 H2 lt i d hd x H3 y
    have ed : ds.drop i = d :: ds.drop (i + 1) := by
      rw [List.drop_eq_getElem_cons hlt]
      have : ds[i] = d := by
        have := List.getElem?_eq_getElem hlt
        rw [hd] at this; exact (Option.some.inj this).symm
      rw [this]
    rw [ed] at ec
    unfold compL at ec
    split at ec
    · cases ec
    · rename_i ρ4 e4
      have rs3 : RS X.K τ Z2 own2 H3 ρ2 (wipe σ vs) := rs2.growO g
      have x3 : Ext (q1 && q2) Z1 own1 H1 Z2 own2 H3 := by have := x2.trans (ExtF.growO (q := q1 && q2) (Z := Z2) (own := own2) g); rwa [Bool.and_self] at this
      have hacc3 := g L _ hacc
      have rl3 := g.shL rl
      refine ⟨Z2, own2, ρ2, d, ρ4, rs3, r, e4, fun σ4 rs4 f4 => ⟨wipe_fix f4, ?_⟩⟩
      have hw := wipe_fix f4
      split at ec
      · rename_i ρ5 e5
        refine ⟨Z2, own2, ρ4, true, ρ5, rs4, e5, fun Z5 own5 H5 rs5 x5 => iteT ?_⟩
        split at ec
        · rename_i d6 ρ6 e6
          split at ec
          · rename_i ds7 ρ7 e7
            cases ec
            refine ⟨Z5, own5, ρ5, d6, ρ6, rs5, e6, fun v Z6 own6 H6 S6 rs6 rm6 n6 x6 => ?_⟩
            have x56 : ExtF fxT false Z2 own2 H3 Z6 own6 H6 := x5.transF x6
            have hL6 : H6 L = some (.lst acc) := x56.keep L _ hacc3 (.inl ho2)
            have ho6 : own6 L = none := by
              cases h : own6 L with
              | none => rfl
              | some j =>
                rcases x56.on L j h with z | z
                · rw [ho2] at z; cases z
                · rw [hacc3] at z; cases z
            have hz6 : ¬ Z6 L := fun z => by
              rcases x56.zn L z with z | z | ⟨j, z, _⟩
              · exact hz2 z
              · rw [hacc3] at z; cases z
              · rw [ho2] at z; cases z
            have rl6 : RShL X.K Z6 H6 dacc acc := rs4.shL x56 rl3
            refine ⟨acc, hL6, by have := w.sz; omega, Z6, own6, wipeD ρ6 vs, acc ++ [v], dacc ++ [d6], ds7, ?_, ?_, upd_same, ho6, hz6, ?_, by simp; omega, e7, by rw [← eo]; simp⟩
            · have := (rs6.updD (ys := acc ++ [v]) hL6 ho6 hz6).wipe vs
              rwa [hw] at this
            · have x : Ext (q1 && q2) Z1 own1 H1 Z6 own6 H6 := x3.trans' (fun z => ⟨z, z⟩) (x5.trans x6)
              exact x.updN hL
            · exact RS.updShL hL6 hz6 (rl6.append (.one rm6))
          · cases ec
          · cases ec
        · cases ec
        · cases ec
      · rename_i ρ5 e5
        refine ⟨Z2, own2, ρ4, false, ρ5, rs4, e5, fun Z5 own5 H5 rs5 x5 => iteF ?_⟩
        have hL6 : H5 L = some (.lst acc) := x5.keep L _ hacc3 (.inl ho2)
        have ho6 : own5 L = none := by
          cases h : own5 L with
          | none => rfl
          | some j =>
            rcases x5.on L j h with z | z
            · rw [ho2] at z; cases z
            · rw [hacc3] at z; cases z
        have hz6 : ¬ Z5 L := fun z => by
          rcases x5.zn L z with z | z | ⟨j, z, _⟩
          · exact hz2 z
          · rw [hacc3] at z; cases z
          · rw [ho2] at z; cases z
        refine ⟨Z5, own5, wipeD ρ5 vs, acc, dacc, rest, ?_, x3.trans' (fun z => ⟨z, and1 z⟩) x5, hL6, ho6, hz6, rs4.shL x5 rl3, by omega, ec, eo⟩
        have := rs5.wipe vs
        rwa [hw] at this
      · cases ec
      · cases ec
  · have ei : i = ds.length := by omega
    subst ei
    refine .inl ⟨w.st Z2 H2 lt, ?_⟩
    rw [List.drop_length] at ec
    unfold compL at ec
    cases ec
    have eo' : dacc = out := by simpa using eo
    subst eo'
    refine k _ Z2 own2 H2 (fun a => a = L) rs2.unwipe ?_ (fun a e => ?_) (x1.trans x2)
    · refine ⟨dacc, L, acc, fun a => if a = L then none else some 0, rfl, rfl, hacc, rfl, by simp, rl.len, fun d v e1 e2 => ?_, fun k d v e1 e2 => ?_⟩
      · obtain ⟨w, a, b⟩ := rl.get e1
        rw [e2] at a; cases a; exact b
      · obtain ⟨w, a, b⟩ := rl.get e1
        rw [e2] at a; cases a; exact b
    · subst e
      exact ⟨x1.back hL, ho2, hz2, _, hacc, trivial⟩
end
end CL

namespace CL
open PySem PySem.Spec L2
set_option autoImplicit false
section
variable {X : Cx} {τ : Nat → OT} {q q1 q2 : Bool} {elt tg iter c : Expr} {ifs : List Expr} {pos : Pos} {mi : M (List D)} {mc me : M D} {p : Pt}
theorem e_lcO {own' : List (Str × Nat)} {vs : List Nat} {qi : Bool} {scope : Scope} (hN : X.N.Nodup) (ok : BlkOk X.N X.env.scope scope own') (hi : PI X tg iter (tI X.K τ qi mi))
    (hg : ∀ (s : Shared) (H : Hp) (C : Addr) (cl : List (Str × Addr)) (fp : List Addr), PG (X.blk s H scope (compEnvC scope cl C X.env) fp) tg (tG X.K τ (gxOf vs) p)) (ht : ∀ (s : Shared) (H : Hp) (C : Addr) (cl : List (Str × Addr)) (fp : List Addr), PTs (X.blk s H scope (compEnvC scope cl C X.env) fp) ifs (tT X.K τ q1 mc))
    (he : ∀ (s : Shared) (H : Hp) (C : Addr) (cl : List (Str × Addr)) (fp : List Addr), PE (X.blk s H scope (compEnvC scope cl C X.env) fp) elt (tE X.K τ q2 .sh me)) (hv : own'.map (·.2) = vs := by rfl) (hc : X.calm = true := by rfl) (hs : ∀ x, foldedSetIterable iter X.env x = pure x := by intro _; rfl) :
    PE X (.ListComp elt [⟨tg, iter, ifs, 0⟩] scope pos) (tE X.K τ (qi && (q1 && q2)) (.ow (.ol .sh .sh)) (mComp vs p mi mc me)) := (pe_lc hc hN hi ok hg ht he hs).mono (lc_of hv)
/-- name = [..] on one line -/
theorem s_lc {F : Fr} (i : Nat) {y : Str} {py spos : Pos} {own' : List (Str × Nat)} {vs : List Nat} {qi : Bool} {scope : Scope} (hN : X.N.Nodup) (ok : BlkOk X.N X.env.scope scope own') (hi : PI X tg iter (tI X.K F.τ qi mi))
    (hg : ∀ (s : Shared) (H : Hp) (C : Addr) (cl : List (Str × Addr)) (fp : List Addr), PG (X.blk s H scope (compEnvC scope cl C X.env) fp) tg (tG X.K F.τ (gxOf vs) p)) (ht : ∀ (s : Shared) (H : Hp) (C : Addr) (cl : List (Str × Addr)) (fp : List Addr), PTs (X.blk s H scope (compEnvC scope cl C X.env) fp) ifs (tT X.K F.τ q1 mc))
    (he : ∀ (s : Shared) (H : Hp) (C : Addr) (cl : List (Str × Addr)) (fp : List Addr), PE (X.blk s H scope (compEnvC scope cl C X.env) fp) elt (tE X.K F.τ q2 .sh me))
    (hsw : swapsWith (.ListComp elt [⟨tg, iter, ifs, 0⟩] scope pos) (some (.Name y py)) spos.line X.env = pure true) (ht' : F.τ i = .sh ∨ F.τ i = .ol .sh .sh := by first | exact .inl rfl | exact .inr rfl) (hfx : F.fx i = false := by rfl) (hy : X.N[i]? = some y := by rfl) (hyl : X.env.scope.names.lookup y = some .local := by rfl)
    (hv : own'.map (·.2) = vs := by rfl) (hc : X.calm = true := by rfl) (hs : ∀ x, foldedSetIterable iter X.env x = pure x := by intro _; rfl) :
    PS X (.Assign [.Name y py] (.ListComp elt [⟨tg, iter, ifs, 0⟩] scope pos) spos) (tS X.K F (sAsg (pN i) (mComp vs p mi mc me))) := (ps_setLc (i := i) hc hN hy hyl hsw hi ok hg ht he hs).mono fun E σ H h => by
  rcases ht' with t | t
  · obtain ⟨Z, own, ρ, f, ρ', rs, e, o⟩ := h
    obtain ⟨x, ρ1, e1, e⟩ := bind_ok e
    cases e
    refine lc_of hv σ H _ ⟨Z, own, ρ, x, ρ1, rs, e1, fun v Z1 own1 H1 S rs1 rm n x1 => ?_⟩
    have rs2 : RS X.K F.τ (fun a => Z1 a ∨ S a) own1 H1 ρ1 σ := by
      refine ⟨fun i d e => ?_, rs1.ls, fun a i e z => ?_, fun a z => z.elim (rs1.zt a) fun z e => ?_, rs1.len⟩
      · obtain ⟨v, a1, a2⟩ := rs1.sl i d e
        exact ⟨v, a1, R.pres (fun _ z => .inl z) (fun _ _ s _ => s) (fun _ _ _ s => s) (fun _ _ _ e => e) a2⟩
      · rcases z with z | z
        · exact rs1.dz a i e z
        · rw [(n a z).2.1] at e; cases e
      · obtain ⟨xs, hx, _⟩ := (n a z).2.2.2
        rw [hx] at e; cases e
    exact o _ _ own1 H1 (rs2.set t (R.freeze rm)) (.set hfx) ⟨fun a z => .inl (x1.z a z), fun a z => z.elim ((ExtF.any (fx := F.fx) x1).zn a) fun z => .inr (.inl (n a z).1), x1.on, fun a o e h => x1.weak.keep a o e h, x1.live⟩
  · have := nameO_of (X := X) (q := qi && (q1 && q2)) (ma := mComp vs p mi mc me) t hfx E σ H h
    exact lc_of hv σ H _ this
end

/-! ### defs -/
/-- a def keeps its promise where no repr is under way -/
structure FnG (P : Program) (w : World) (K : PySem.W.Frag) (mg : Str → Option Value) (base : Heap) (k : Nat) (f : Addr) (fd : FuncData) (ps : List Str) (sp : Sp) : Prop where
  len : ∀ vs H Q E, sp vs H Q E → vs.length = ps.length
  run : ∀ (A : Around) (outer : List Env) (s0 : Shared) (H : Hp) (ar : Args) (us : List Value) (vs : List V) (Q : VK) (E : XK), Room k A → A.guards = some [] → Env0 P w K mg base A outer s0 H → BindsTo s0 fd ar (ps.zip us) → Vals vs us → sp vs H Q E →
    codeAny (model P w) A (.call (.ref f) ar) (CR CX0 outer P w H s0 Q E) s0
theorem FnG.mono {P : Program} {w : World} {K : PySem.W.Frag} {mg : Str → Option Value} {base : Heap} {j k : Nat} {f : Addr} {fd : FuncData} {ps : List Str} {sp : Sp} (F : FnG P w K mg base j f fd ps sp) (h : j ≤ k) : FnG P w K mg base k f fd ps sp := ⟨F.len, fun A o s0 H ar us vs Q E r => F.run A o s0 H ar us vs Q E (r.mono h)⟩
section
variable {P : Program} {w : World} {K : PySem.W.Frag} {mg : Str → Option Value} {base : Heap}
theorem fng_ok {x qual : Str} {st : Stmt} {f : Addr} {fd : FuncData} {N ps : List Str} {k : Nat} {sp : Sp} (Fu : Fun K x qual st f fd) (Sc : FnScope N ps (defScope st)) (len : ∀ vs H Q E, sp vs H Q E → vs.length = ps.length)
    (hbody : ∀ (cdv : Value) (A : Around) (outer : List Env) (s0 : Shared) (H : Hp) (vs : List V) (Q : VK) (E : XK), Room k (A.deeper (PyProof.Rows.envOfC qual (defScope st) s0.heap.objs.size f cdv)) → A.guards = some [] → sp vs H Q E →
      ∃ t, PSs (cxOf CX0 P w K mg base N qual (defScope st) f cdv A outer s0 H E).nox (defBody st) t ∧ t { nx := fun _ H' => Q .non H', rt := Q } (L2.start N vs) H) : FnG P w K mg base (k + 1) f fd ps sp := by
  obtain ⟨oc, od, kV, doc, pm, an, cdv, ct, osl, rfl, lk, hcd⟩ := Fu.ex
  constructor
  · exact len
  intro A outer s0 H ar us vs Q E room hgu e0 hbd rel hsp
  have KIn : K.In s0.heap := e0.mod.kin.keeps fun c ob ec => (e0.bs c ob ec).1
  have limit : s0.heap.NoLimit := e0.mod.nolimit.keeps fun c ob ec => (e0.bs c ob ec).1
  apply codeAny_call_function room.depth (KIn _ _ lk) rfl Sc.co Sc.gen rfl (PySem.W.codeRec_of KIn hcd)
  apply hbd
  apply wpAny_newFunctionEnv_cells Sc.kind
  · rintro ⟨nm, vl⟩ hm
    rcases Sc.par nm (List.of_mem_zip hm).1 with lc | lc
    · exact Or.inl lc
    · exact Or.inr ⟨lc, PySem.W.cellsFrom_some _ _ _ (Or.inl lc)⟩
  · intro env he s1 ic
    subst he
    refine ⟨limit.keeps ic.toInCall.keep, codeAny_func ?_⟩
    obtain ⟨t, ht, hq⟩ := hbody cdv A outer s0 H vs Q E (room.deeper _) hgu hsp
    have I0 : Inv (cxOf CX0 P w K mg base N qual (defScope st) f cdv A outer s0 H E) [] (L2.start N vs) H s1 := inv_start Sc room.hd e0 (len _ _ _ _ hsp) rel ic
    apply wpAny_mono (ht.nox.run [] s1 (L2.start N vs) H _ I0 hq)
    · intro fl s2 hs
      cases fl with
      | ret u =>
        obtain ⟨v, σ2, H2, J, rv, hv⟩ := hs
        exact ⟨v, H2, J.os, J.bare, J.base, J.hok, rv, hv⟩
      | next =>
        obtain ⟨σ2, H2, J, hv⟩ := hs
        exact ⟨V.non, H2, J.os, J.bare, J.base, J.hok, rfl, hv⟩
      | brk => obtain ⟨_, _, _, hv⟩ := hs; exact hv.elim
      | cont => obtain ⟨_, _, _, hv⟩ := hs; exact hv.elim
    · exact fun _ _ hs => hs
end
section
variable {X : Cx} {k : Nat} {f : Addr} {fd : FuncData} {ps : List Str} {sp : Sp} {x : Str} {p pos : Pos} {e : Expr} {es : List Expr} {t : TA}
theorem pe_callG (F : FnG X.prog X.w X.K X.mg X.base k f fd ps sp) (hr : Room k X.A) (hgu : X.A.guards = some []) (hg : Gl X x) (hm : X.mg x = some (.ref f)) (hk : PySem.W.keepIn X.K (.ref f) = true) (hb : Binds X.K fd ps [])
    (ha : PA X (e :: es) t) (hdb : (x == ("__debug__" : Str)) = false := by decide) (he : starEach (e :: es) X.env = (false, eval e X.env) :: starEach es X.env := by rfl) (hpl : (backTo pos (starEach es X.env)).any (·.1) = false := by rfl) :
    PE X (.Call (.Name x p) (e :: es) [] pos) (fun σ H Q => t σ H fun vs H1 => sp vs H1 Q E0) := by
  constructor
  intro pins s0 σ H Q I0 hw
  apply wpAny_Call_Name_kw (ld_glob I0 hg hm _ hdb)
  apply PySem.W.callWith_K (h₀ := X.base) I0.ok.mod.kin hk _ he hpl
  apply thn (ha.run pos pins s0 σ H _ I0 hw)
  rintro us s1 ⟨vs, H1, I1, rel, hsp⟩
  refine ⟨I1.kIn, ?_⟩
  have hl : (us ++ []).length = ps.length := by rw [List.append_nil, ← rel.length]; exact F.len _ _ _ _ hsp
  have hbd := hb s1 us I1.kIn hl
  rw [List.append_nil] at hbd
  apply wpAny_call
  apply codeAny_mono (F.run X.A X.stack s1 H1 ⟨us, []⟩ us vs Q E0 hr hgu I1.env0 hbd rel hsp)
  intro res s2 hres
  cases res with
  | error er => exact hres.elim
  | ok fl =>
    cases fl with
    | ret u => exact I1.after hres
    | next => exact hres.elim
    | brk => exact hres.elim
    | cont => exact hres.elim
end
abbrev Fn := List D → Res (D × List D)
inductive Ag where
  | e (m : M D) | io (i : Nat)
def evA : List Ag → M (List D)
  | [] => mNil
  | .e m :: r => mCons m (evA r)
  | .io i :: r => mCons (mV i) (evA r)
def fillA : List Ag → List D → Sl → Option (List D)
  | [], [], _ => some []
  | .e _ :: r, d :: ds, ρ => (fillA r ds ρ).map (d :: ·)
  | .io i :: r, _ :: ds, ρ => match ρ[i]? with | some (some d) => (fillA r ds ρ).map (d :: ·) | _ => none
  | _, _, _ => none
def backA : List Ag → List D → Sl → Sl
  | .io i :: r, d :: ds, ρ => backA r ds (ρ.set i (some d))
  | .e _ :: r, _ :: ds, ρ => backA r ds ρ
  | _, _, ρ => ρ
def mCall (F : Fn) (as : List Ag) : M D := bind (evA as) fun ds => fun ρ => match fillA as ds ρ with
  | none => .bad
  | some full => match F full with
    | .ok (d, out) => .ok (d, backA as out ρ)
    | .exc e => .exc e
    | .bad => .bad
def mCallP (F : List D → Res D) (ms : M (List D)) : M D := bind ms fun ds => fun ρ => match F ds with
  | .ok d => .ok (d, ρ)
  | .exc e => .exc e
  | .bad => .bad
/-- what a def that changes nothing promises -/
def spP (K : PySem.W.Frag) (n : Nat) (rt : OT) (F : List D → Res D) : Sp := fun vs H Q _ => ∃ Z ds d, vs.length = n ∧ RShL K Z H ds vs ∧ (∀ a, Z a → H a ≠ none) ∧ F ds = .ok d ∧
  ∀ v Z' H' S, (∀ a, Z a → Z' a) → (∀ a, Z' a → Z a ∨ H a = none) → (∀ a, Z' a → H' a ≠ none) → Grow H H' → R K Z' H' rt d v S → (∀ a, S a → H a = none ∧ ¬ Z' a ∧ ∃ o, H' a = some o ∧ Mut o) → Q v H'
def runP (nl : Nat) (b : MS) : List D → Res D := fun ds => match b (ds.map some ++ List.replicate nl none) with
  | .ok (.ret d, _) => .ok d
  | .ok (.nx, _) => .ok .non
  | .exc e => .exc e
  | _ => .bad
def ioOf (ts : List OT) : Nat → Bool := fun k => match ts[k]? with | some (.ol _ _) => true | _ => false
def τOf (ts : List OT) : Nat → OT := fun k => (ts[k]?).getD .sh
/-- what a def promises that may change the lists that are handed in -/
def spD (K : PySem.W.Frag) (ts : List OT) (rt : OT) (F : Fn) : Sp := fun vs H Q _ => ∃ Z own ds d out, vs.length = ts.length ∧ ds.length = ts.length ∧ RS K (τOf ts) Z own H (ds.map some) (vs.map some) ∧ (∀ a i, own a = some i → ioOf ts i = true) ∧ F ds = .ok (d, out) ∧
  ∀ v Z' own' H' S, RS K (τOf ts) Z' own' H' (out.map some) (vs.map some) → (∀ a i, own' a = some i → ioOf ts i = true) → R K Z' H' rt d v S → NewR H Z' own' H' S → Ext false Z own H Z' own' H' → Q v H'
/-- the lists that were handed in, as they are now -/
def outs : List OT → List D → Sl → Option (List D)
  | [], [], _ => some []
  | .sh :: ts, d :: ds, ρ => (outs ts ds ρ.tail).map (d :: ·)
  | .ol _ _ :: ts, _ :: ds, ρ => match ρ.head? with | some (some d) => (outs ts ds ρ.tail).map (d :: ·) | _ => none
  | _, _, _ => none
def runF (ts : List OT) (nl : Nat) (b : MS) : Fn := fun ds => match b (ds.map some ++ List.replicate nl none) with
  | .ok (.ret d, ρ) => (match outs ts ds ρ with | some out => .ok (d, out) | none => .bad)
  | .ok (.nx, ρ) => (match outs ts ds ρ with | some out => .ok (.non, out) | none => .bad)
  | .exc e => .exc e
  | _ => .bad
theorem getElem?_app {ds : List D} {nl i : Nat} {d : D} (h : (ds.map some ++ List.replicate nl none : Sl)[i]? = some (some d)) : ds[i]? = some d := by
  rw [List.getElem?_append] at h
  split at h
  · rw [List.getElem?_map] at h
    obtain ⟨x, hx, e⟩ := Option.map_eq_some_iff.mp h
    cases e; exact hx
  · rw [List.getElem?_replicate] at h
    split at h <;> cases h
theorem start_get {N : List Str} {vs : List V} {i : Nat} {v : V} (h : vs[i]? = some v) : (L2.start N vs)[i]? = some (some v) := by
  unfold L2.start
  rw [List.getElem?_append_left (by
    have := (List.getElem?_eq_some_iff.mp h).1
    simpa using this), List.getElem?_map, h]
  rfl
theorem start_len {N : List Str} {vs : List V} (h : vs.length ≤ N.length) : (L2.start N vs).length = N.length := by
  unfold L2.start
  simp; omega
section
variable {P : Program} {w : World} {K : PySem.W.Frag} {mg : Str → Option Value} {base : Heap}
/-- a def that changes nothing keeps its promise -/
theorem ok_p {x qual : Str} {st : Stmt} {f : Addr} {fd : FuncData} {N ps : List Str} {k n nl : Nat} {F : Fr} {b : MS} (Fu : Fun K x qual st f fd) (S : FnScope N ps (defScope st)) (hF : ∀ i, i < n → F.τ i = .sh) (hn : ps.length = n) (hl : n + nl = N.length) (hrt : F.rt = .sh ∨ ∀ (ds : List D) (ρ : Sl), b (ds.map some ++ List.replicate nl none) ≠ .ok (.nx, ρ))
    (hb : ∀ (cdv : Value) (A : Around) (outer : List Env) (s : Shared) (H : Hp) (E : XK), Room k (A.deeper (PyProof.Rows.envOfC qual (defScope st) s.heap.objs.size f cdv)) → A.guards = some [] → PSs (cxOf CX0 P w K mg base N qual (defScope st) f cdv A outer s H E).nox (defBody st) (tS K F b)) :
    FnG P w K mg base (k + 1) f fd ps (spP K n F.rt (runP nl b)) := by
  refine fng_ok Fu S (fun vs H Q E h => ?_) (fun cdv A outer s H vs Q E hr hgu h => ?_)
  · obtain ⟨Z, ds, d, h1, _⟩ := h
    rw [h1, hn]
  · obtain ⟨Z, ds, d, h1, rl, zt, e, kk⟩ := h
    refine ⟨_, hb cdv A outer s H E hr hgu, ?_⟩
    have hlen := rl.len
    have hvl : vs.length ≤ N.length := by omega
    have rs : RS K F.τ Z (fun _ => none) H (ds.map some ++ List.replicate nl none) (L2.start N vs) := by
      refine ⟨fun i d e => ?_, fun a i e => (by cases e), fun a i e => (by cases e), zt, by rw [start_len hvl]; simp; omega⟩
      have e := getElem?_app e
      obtain ⟨v, hv, r⟩ := rl.get e
      refine ⟨v, start_get hv, ?_⟩
      rw [hF i (by have := (List.getElem?_eq_some_iff.mp e).1; omega)]
      exact r
    unfold runP at e
    split at e
    · rename_i d' ρ' e'
      cases e
      refine ⟨Z, fun _ => none, _, _, ρ', rs, e', fun v σ' Z' own' H' S rs' fx r gv x => kk v Z' H' S x.z (fun a z => ?_) rs'.zt (fun a o e => x.keep a o e (.inl rfl)) r fun a s => ?_⟩
      · rcases x.zn a z with z | z | ⟨i, z, _⟩
        · exact .inl z
        · exact .inr z
        · cases z
      · obtain ⟨g1, g2, g3, g4⟩ := gv a s
        refine ⟨?_, g3, g4⟩
        rcases g1 with g | ⟨i, g, _⟩
        · exact g
        · cases g
    · rename_i ρ' e'
      cases e
      rcases hrt with hrt | hrt
      · refine ⟨Z, fun _ => none, _, _, ρ', rs, e', fun σ' Z' own' H' rs' fx x => kk .non Z' H' (fun _ => False) x.z (fun a z => ?_) rs'.zt (fun a o e => x.keep a o e (.inl rfl)) (by rw [hrt]; simp only [R, RSh]) fun a s => s.elim⟩
        rcases x.zn a z with z | z | ⟨i, z, _⟩
        · exact .inl z
        · exact .inr z
        · cases z
      · exact absurd e' (hrt ds ρ')
    · cases e
    · cases e
end
section
variable {X : Cx} {τ : Nat → OT} {q : Bool} {CX : CXT} {k : Nat} {f : Addr} {fd : FuncData} {ps : List Str} {x : Str} {p pos : Pos} {e : Expr} {es : List Expr} {ms : M (List D)} {rt : OT} {n : Nat} {G : List D → Res D}
theorem callP_of : ∀ σ H Q, tE X.K τ q (.ow rt) (mCallP G ms) σ H Q → (∀ ds (d : D) ρ ρ', ms ρ = .ok (ds, ρ') → ds.length = n) → tAs X.K τ q ms σ H fun vs H1 => spP X.K n rt G vs H1 Q E0 := fun σ H Q ⟨Z, own, ρ, d, ρ', rs, e, kk⟩ hn => by
  obtain ⟨ds, ρ1, e1, e⟩ := bind_ok e
  split at e
  · rename_i d' e2
    cases e
    refine ⟨Z, own, ρ, ds, _, rs, e1, fun vs Z1 own1 H1 rs1 rl x1 => ?_⟩
    refine ⟨Z1, ds, _, by rw [← rl.len]; exact hn ds d ρ _ e1, rl, rs1.zt, e2, fun v Z2 H2 S h1 h2 h3 g r hS => ?_⟩
    have ow : ∀ a, H1 a = none → own1 a = none := fun a e => by
      cases ho : own1 a with
      | none => rfl
      | some i => obtain ⟨ys, hy, _⟩ := rs1.ls a i ho; rw [e] at hy; cases hy
    refine kk v Z2 own1 H2 S ⟨fun i d e => ?_, fun a i e => ?_, fun a i e z => ?_, h3, rs1.len⟩ r (fun a s => ⟨x1.back (hS a s).1, ow a (hS a s).1, (hS a s).2⟩)
      (x1.trans' (fun z => ⟨z, rfl⟩) (⟨h1, fun a z => (h2 a z).elim .inl fun z => .inr (.inl z), fun a i z => .inl z, fun a o e _ => g a o e, fun a e z => by
        cases he : H1 a with
        | none => exact e he
        | some o => rw [g a o he] at z; cases z⟩ : ExtF fxT true Z1 own1 H1 Z2 own1 H2))
    · obtain ⟨w, a1, a2⟩ := rs1.sl i d e
      exact ⟨w, a1, R.pres h1 (fun a o e _ => g a o e) (fun a o _ e => g a o e) (fun a xs _ e => g a _ e) a2⟩
    · obtain ⟨xs, hx, hm⟩ := rs1.ls a i e
      exact ⟨xs, g a _ hx, hm⟩
    · rcases h2 a z with z | z
      · exact rs1.dz a i e z
      · obtain ⟨xs, hx, _⟩ := rs1.ls a i e
        rw [z] at hx; cases hx
  · cases e
  · cases e
theorem e_call (Fu : FnG X.prog X.w X.K X.mg X.base k f fd ps (spP X.K n rt G)) (hk : PySem.W.keepIn X.K (.ref f) = true) (hb : Binds X.K fd ps []) (hr : Room k X.A) (hgu : X.A.guards = some []) (hm : X.mg x = some (.ref f)) (ha : PA X (e :: es) (tAs X.K τ q ms)) (hn : ∀ ds (d : D) ρ ρ', ms ρ = .ok (ds, ρ') → ds.length = n) (hg : Gl X x := by rfl)
    (hdb : (x == ("__debug__" : Str)) = false := by decide) (he : starEach (e :: es) X.env = (false, eval e X.env) :: starEach es X.env := by rfl) (hpl : (backTo pos (starEach es X.env)).any (·.1) = false := by rfl) :
    PE X (.Call (.Name x p) (e :: es) [] pos) (tE X.K τ q (.ow rt) (mCallP G ms)) := (pe_callG Fu hr hgu hg hm hk hb ha hdb he hpl).mono fun σ H Q h => callP_of σ H Q h hn
end
theorem len_nil : ∀ ds (d : D) ρ ρ', mNil ρ = .ok (ds, ρ') → ds.length = 0 := fun ds d ρ ρ' e => by unfold mNil at e; cases e; rfl
theorem len_cons {m : M D} {ms : M (List D)} {n : Nat} (h : ∀ ds (d : D) ρ ρ', ms ρ = .ok (ds, ρ') → ds.length = n) : ∀ ds (d : D) ρ ρ', mCons m ms ρ = .ok (ds, ρ') → ds.length = n + 1 := fun ds d ρ ρ' e => by
  obtain ⟨x, ρ1, e1, e⟩ := bind_ok e
  obtain ⟨xs, ρ2, e2, e⟩ := bind_ok e
  cases e
  simp [h xs d _ _ e2]
end CL

namespace CL
open PySem PySem.Spec L2
set_option autoImplicit false
theorem outs_get : ∀ {ts : List OT} {ds : List D} {ρ : Sl} {out : List D}, outs ts ds ρ = some out → out.length = ts.length ∧ ∀ (k : Nat) (t : OT), ts[k]? = some t → (t = OT.sh → out[k]? = ds[k]?) ∧ (t ≠ OT.sh → ∃ d, ρ[k]? = some (some d) ∧ out[k]? = some d)
  | [], [], ρ, out, h => by simp only [outs] at h; cases h; exact ⟨rfl, fun k t e => by simp at e⟩
  | [], _ :: _, ρ, out, h => by simp [outs] at h
  | .sh :: ts, [], ρ, out, h => by simp [outs] at h
  | .ol _ _ :: ts, [], ρ, out, h => by simp [outs] at h
  | .sh :: ts, d :: ds, ρ, out, h => by
    simp only [outs] at h
    obtain ⟨o, ho, rfl⟩ := Option.map_eq_some_iff.mp h
    obtain ⟨h1, h2⟩ := outs_get ho
    refine ⟨by simp [h1], fun k t e => ?_⟩
    cases k with
    | zero => simp at e; subst e; exact ⟨fun _ => by simp, fun n => absurd rfl n⟩
    | succ k =>
      have e' : ts[k]? = some t := by simpa using e
      obtain ⟨a, b⟩ := h2 k t e'
      refine ⟨fun z => by simpa using a z, fun z => ?_⟩
      obtain ⟨d', b1, b2⟩ := b z
      exact ⟨d', by simpa using b1, by simpa using b2⟩
  | .ol t0 t1 :: ts, d :: ds, ρ, out, h => by
    simp only [outs] at h
    split at h
    · rename_i d' hd
      obtain ⟨o, ho, rfl⟩ := Option.map_eq_some_iff.mp h
      obtain ⟨h1, h2⟩ := outs_get ho
      refine ⟨by simp [h1], fun k t e => ?_⟩
      cases k with
      | zero =>
        simp at e; subst e
        refine ⟨fun z => (by cases z), fun _ => ⟨d', ?_, by simp⟩⟩
        cases ρ with
        | nil => simp at hd
        | cons x r => simpa using hd
      | succ k =>
        have e' : ts[k]? = some t := by simpa using e
        obtain ⟨a, b⟩ := h2 k t e'
        refine ⟨fun z => by simpa using a z, fun z => ?_⟩
        obtain ⟨d'', b1, b2⟩ := b z
        exact ⟨d'', by simpa using b1, by simpa using b2⟩
    · cases h
section
variable {P : Program} {w : World} {K : PySem.W.Frag} {mg : Str → Option Value} {base : Heap}
/-- a def that may change what is handed in keeps its promise -/
theorem ok_d {x qual : Str} {st : Stmt} {f : Addr} {fd : FuncData} {N ps : List Str} {k nl : Nat} {ts : List OT} {F : Fr} {b : MS} (Fu : Fun K x qual st f fd) (S : FnScope N ps (defScope st)) (hF : ∀ i, i < ts.length → F.τ i = τOf ts i) (hfx : ∀ i, ioOf ts i = true → F.fx i = true) (hn : ps.length = ts.length) (hl : ts.length + nl = N.length)
    (hrt : F.rt = .sh ∨ ∀ (ds : List D) (ρ : Sl), b (ds.map some ++ List.replicate nl none) ≠ .ok (.nx, ρ))
    (hb : ∀ (cdv : Value) (A : Around) (outer : List Env) (s : Shared) (H : Hp) (E : XK), Room k (A.deeper (PyProof.Rows.envOfC qual (defScope st) s.heap.objs.size f cdv)) → A.guards = some [] → PSs (cxOf CX0 P w K mg base N qual (defScope st) f cdv A outer s H E).nox (defBody st) (tS K F b)) :
    FnG P w K mg base (k + 1) f fd ps (spD K ts F.rt (runF ts nl b)) := by
  refine fng_ok Fu S (fun vs H Q E h => ?_) (fun cdv A outer s H vs Q E hr hgu h => ?_)
  · obtain ⟨Z, own, ds, d, out, h1, _⟩ := h
    rw [h1, hn]
  · obtain ⟨Z, own, ds, d, out, h1, hd, rs0, hio, e, kk⟩ := h
    refine ⟨_, hb cdv A outer s H E hr hgu, ?_⟩
    have hvl : vs.length ≤ N.length := by omega
    have rs : RS K F.τ Z own H (ds.map some ++ List.replicate nl none) (L2.start N vs) := by
      refine ⟨fun i d e => ?_, rs0.ls, rs0.dz, rs0.zt, by rw [start_len hvl]; simp; omega⟩
      have e := getElem?_app e
      have hi : i < ts.length := by have := (List.getElem?_eq_some_iff.mp e).1; omega
      obtain ⟨v, hv, r⟩ := rs0.sl i d (by rw [List.getElem?_map, e]; rfl)
      rw [List.getElem?_map] at hv
      obtain ⟨v', hv', ev⟩ := Option.map_eq_some_iff.mp hv
      cases ev
      exact ⟨v, start_get hv', by rw [hF i hi]; exact r⟩
    have fin : ∀ {ρ' : Sl} {d : D} {v : V} {σ' : St} {Z' : Addr → Prop} {own' : Addr → Option Nat} {H' : Hp} {S : Addr → Prop} {out : List D}, outs ts ds ρ' = some out →
        (∀ v Z' own' H' S, RS K (τOf ts) Z' own' H' (out.map some) (vs.map some) → (∀ a i, own' a = some i → ioOf ts i = true) → R K Z' H' F.rt d v S → NewR H Z' own' H' S → Ext false Z own H Z' own' H' → Q v H') →
        RS K F.τ Z' own' H' ρ' σ' → Fix F.fx (L2.start N vs) σ' → R K Z' H' F.rt d v S → GivR F.fx own H Z' own' H' S → ExtF F.fx false Z own H Z' own' H' → Q v H' := fun {ρ' d v σ' Z' own' H' S out} ho kk rs' fx r gv x => by
      obtain ⟨o1, o2⟩ := outs_get ho
      have nofx : ∀ a i, own a = some i → F.fx i = false → False := fun a i h hf => by
        have := hfx i (hio a i h)
        rw [hf] at this; cases this
      refine kk v Z' (fun a => match own' a with | some i => if ioOf ts i = true then some i else none | none => none) H' S ⟨fun i d' e => ?_, fun a i e => ?_, fun a i e => ?_, rs'.zt, by simp [o1, h1]⟩ (fun a i e => ?_) r (fun a s => ?_) ⟨x.z, fun a z => ?_, fun a i e => ?_, x.keep, x.live⟩
      · rw [List.getElem?_map] at e
        obtain ⟨d'', e', ed⟩ := Option.map_eq_some_iff.mp e
        cases ed
        have hi : i < ts.length := by have := (List.getElem?_eq_some_iff.mp e').1; omega
        obtain ⟨a1, a2⟩ := o2 i ts[i] (List.getElem?_eq_getElem hi)
        have hτ : τOf ts i = ts[i] := by simp [τOf, hi]
        cases ht : ts[i] with
        | sh =>
          rw [a1 ht] at e'
          obtain ⟨v', hv', r'⟩ := rs.sl i d' (by
            rw [List.getElem?_append_left (by simp; omega), List.getElem?_map, e']; rfl)
          rw [hF i hi, hτ, ht] at r'
          have hvv : (vs.map some)[i]? = some (some v') := by
            have hl2 : i < vs.length := by omega
            have := start_get (N := N) (List.getElem?_eq_getElem hl2)
            rw [this] at hv'
            rw [List.getElem?_map, List.getElem?_eq_getElem hl2]
            simpa using hv'
          refine ⟨v', hvv, ?_⟩
          rw [hτ, ht]
          exact rs.sh x r'
        | ol t0 t1 =>
          obtain ⟨d3, b1, b2⟩ := a2 (by rw [ht]; exact fun z => nomatch z)
          rw [b2] at e'; cases e'
          have hio' : ioOf ts i = true := by
            unfold ioOf
            rw [List.getElem?_eq_getElem hi, ht]
          obtain ⟨v', hv', r'⟩ := rs'.sl i d' b1
          rw [fx.2 i (hfx i hio')] at hv'
          have hvv : (vs.map some)[i]? = some (some v') := by
            have hl2 : i < vs.length := by omega
            have := start_get (N := N) (List.getElem?_eq_getElem hl2)
            rw [this] at hv'
            rw [List.getElem?_map, List.getElem?_eq_getElem hl2]
            simpa using hv'
          refine ⟨v', hvv, ?_⟩
          rw [← hF i hi]
          refine R.mono r' fun a ha => ?_
          show (match own' a with | some i => if ioOf ts i = true then some i else none | none => none) = some i
          rw [ha]
          exact if_pos hio'
      · split at e
        · split at e
          · cases e; rename_i hh _; exact rs'.ls a i hh
          · cases e
        · cases e
      · split at e
        · split at e
          · cases e; rename_i hh _; exact rs'.dz a i hh
          · cases e
        · cases e
      · split at e
        · split at e
          · cases e; assumption
          · cases e
        · cases e
      · obtain ⟨g1, g2, g3, g4⟩ := gv a s
        refine ⟨?_, ?_, g3, g4⟩
        · rcases g1 with g | ⟨i, g, gf⟩
          · exact g
          · exact (nofx a i g gf).elim
        · show (match own' a with | some i => if ioOf ts i = true then some i else none | none => none) = none
          rw [g2]
      · rcases x.zn a z with z | z | ⟨i, z, zf⟩
        · exact .inl z
        · exact .inr (.inl z)
        · exact (nofx a i z zf).elim
      · have e : (match own' a with | some i => if ioOf ts i = true then some i else none | none => none) = some i := e
        split at e
        · split at e
          · cases e; rename_i hh _; exact x.on a i hh
          · cases e
        · cases e
    unfold runF at e
    split at e
    · rename_i d' ρ' e'
      split at e
      · rename_i out' ho
        cases e
        exact ⟨Z, own, _, _, ρ', rs, e', fun v σ' Z' own' H' S rs' fx r gv x => fin ho kk rs' fx r gv x⟩
      · cases e
    · rename_i ρ' e'
      split at e
      · rename_i out' ho
        cases e
        rcases hrt with hrt | hrt
        · exact ⟨Z, own, _, _, ρ', rs, e', fun σ' Z' own' H' rs' fx x => fin (S := fun _ => False) ho kk rs' fx (by rw [hrt]; simp only [R, RSh]) (fun _ z => z.elim) x⟩
        · exact absurd e' (hrt ds ρ')
      · cases e
    · cases e
    · cases e
end
/-! the call -/
def AgR (K : PySem.W.Frag) (Z : Addr → Prop) (H : Hp) (σ : St) : List Ag → List D → List V → Prop
  | [], ds, vs => ds = [] ∧ vs = []
  | .e _ :: r, ds, vs => ∃ d ds' v vs', ds = d :: ds' ∧ vs = v :: vs' ∧ RSh K Z H d v ∧ AgR K Z H σ r ds' vs'
  | .io i :: r, ds, vs => ∃ d ds' v vs', ds = d :: ds' ∧ vs = v :: vs' ∧ σ[i]? = some (some v) ∧ AgR K Z H σ r ds' vs'
def tAg (K : PySem.W.Frag) (τ : Nat → OT) (q : Bool) (as : List Ag) : TA := fun σ H Q => ∃ Z own ρ ds ρ', RS K τ Z own H ρ σ ∧ evA as ρ = .ok (ds, ρ') ∧
  ∀ vs Z' own' H', RS K τ Z' own' H' ρ' σ → AgR K Z' H' σ as ds vs → Ext q Z own H Z' own' H' → Q vs H'
theorem AgR.pres {K : PySem.W.Frag} {τ : Nat → OT} {Z Z1 : Addr → Prop} {own own1 : Addr → Option Nat} {H H1 : Hp} {ρ : Sl} {σ σ0 : St} {q : Bool} {fx : Nat → Bool} (h : RS K τ Z own H ρ σ0) (x : ExtF fx q Z own H Z1 own1 H1) : ∀ {as : List Ag} {ds : List D} {vs : List V}, AgR K Z H σ as ds vs → AgR K Z1 H1 σ as ds vs
  | [], _, _, a => a
  | .e _ :: r, _, _, ⟨d, ds', v, vs', e1, e2, r1, r2⟩ => ⟨d, ds', v, vs', e1, e2, h.sh x r1, AgR.pres h x r2⟩
  | .io i :: r, _, _, ⟨d, ds', v, vs', e1, e2, r1, r2⟩ => ⟨d, ds', v, vs', e1, e2, r1, AgR.pres h x r2⟩
section
variable {X : Cx} {τ : Nat → OT} {q q1 q2 : Bool} {a : Expr} {es : List Expr} {ma : M D} {as : List Ag} {pos : Pos}
theorem ag_nil : PA X [] (tAg X.K τ true []) := pa_nil.mono fun σ H Q ⟨Z, own, ρ, ds, ρ', rs, e, k⟩ => by
  have e : Res.ok (([] : List D), ρ) = .ok (ds, ρ') := e
  cases e
  exact k [] Z own H rs ⟨rfl, rfl⟩ ExtF.refl
theorem ag_e (ha : PE X a (tE X.K τ q1 .sh ma)) (hr : PA X es (tAg X.K τ q2 as)) (hs : starEach (a :: es) X.env = (false, eval a X.env) :: starEach es X.env := by rfl) : PA X (a :: es) (tAg X.K τ (q1 && q2) (.e ma :: as)) := (pa_cons ha hr hs).mono fun σ H Q ⟨Z, own, ρ, ds, ρ', rs, e, k⟩ => by
  have e : mCons ma (evA as) ρ = .ok (ds, ρ') := e
  obtain ⟨x, ρ1, e1, e⟩ := bind_ok e
  obtain ⟨xs, ρ2, e2, e⟩ := bind_ok e
  cases e
  exact ⟨Z, own, ρ, x, ρ1, rs, e1, fun v Z1 own1 H1 S1 rs1 rm1 _ x1 => ⟨Z1, own1, ρ1, xs, ρ', rs1, e2, fun ws Z2 own2 H2 rs2 rl x2 =>
    k (v :: ws) Z2 own2 H2 rs2 ⟨x, xs, v, ws, rfl, rfl, rs1.sh x2 rm1, rl⟩ (x1.trans x2)⟩⟩
theorem ag_io (i : Nat) {x : Str} {p : Pos} (hr : PA X es (tAg X.K τ q as)) (hN : X.N[i]? = some x := by rfl) (hv : Vis X.env.scope x := by first | exact Or.inl rfl | exact Or.inr (Or.inl rfl) | exact Or.inr (Or.inr rfl)) (hd : (x == ("__debug__" : Str)) = false := by decide)
    (hcd : (x == ("__classdict__" : Str)) = false := by decide) (hs : starEach (.Name x p :: es) X.env = (false, eval (.Name x p) X.env) :: starEach es X.env := by rfl) : PA X (.Name x p :: es) (tAg X.K τ q (.io i :: as)) := (pa_cons (pv i hN hv hd hcd) hr hs).mono fun σ H Q ⟨Z, own, ρ, ds, ρ', rs, e, k⟩ => by
  have e : mCons (mV i) (evA as) ρ = .ok (ds, ρ') := e
  obtain ⟨d, ρ1, e1, e⟩ := bind_ok e
  obtain ⟨xs, ρ2, e2, e⟩ := bind_ok e
  cases e
  obtain ⟨e1, rfl⟩ := mV_ok e1
  obtain ⟨v, h1, _⟩ := rs.sl i d e1
  exact ⟨v, h1, Z, own, ρ1, xs, ρ', rs, e2, fun ws Z2 own2 H2 rs2 rl x2 => k (v :: ws) Z2 own2 H2 rs2 ⟨d, xs, v, ws, rfl, rfl, h1, rl⟩ x2⟩
end
def posIo : List Ag → Nat → Option Nat
  | [], _ => none
  | .e _ :: r, i => (posIo r i).map (· + 1)
  | .io j :: r, i => if j = i then some 0 else (posIo r i).map (· + 1)
def ioIx : List Ag → List Nat
  | [] => []
  | .e _ :: r => ioIx r
  | .io j :: r => j :: ioIx r
def tysOf (τ : Nat → OT) : List Ag → List OT
  | [] => []
  | .e _ :: r => .sh :: tysOf τ r
  | .io j :: r => τ j :: tysOf τ r
def isOl : OT → Bool
  | .ol _ _ => true
  | .sh => false
/-- the i-th argument is slot j's own list -/
def IsIo (as : List Ag) (k j : Nat) : Prop := as[k]? = some (.io j)
theorem posIo_of : ∀ {as : List Ag} {i k : Nat}, posIo as i = some k → IsIo as k i
  | [], _, _, h => by simp [posIo] at h
  | .e _ :: r, i, k, h => by
    simp only [posIo] at h
    obtain ⟨j, hj, rfl⟩ := Option.map_eq_some_iff.mp h
    have := posIo_of hj
    unfold IsIo at *
    simpa using this
  | .io j :: r, i, k, h => by
    simp only [posIo] at h
    split at h
    · rename_i e; subst e; cases h; simp [IsIo]
    · obtain ⟨j, hj, rfl⟩ := Option.map_eq_some_iff.mp h
      have := posIo_of hj
      unfold IsIo at *
      simpa using this
theorem mem_ioIx : ∀ {as : List Ag} {i k : Nat}, IsIo as k i → i ∈ ioIx as
  | [], _, _, h => by simp [IsIo] at h
  | .e _ :: r, i, 0, h => by simp [IsIo] at h
  | .e _ :: r, i, k + 1, h => by
    have : IsIo r k i := by simpa [IsIo] using h
    simpa [ioIx] using mem_ioIx this
  | .io j :: r, i, 0, h => by
    have : j = i := by simpa [IsIo] using h
    simp [ioIx, this]
  | .io j :: r, i, k + 1, h => by
    have : IsIo r k i := by simpa [IsIo] using h
    simp [ioIx, mem_ioIx this]
theorem posIo_is : ∀ {as : List Ag} {i k : Nat}, (ioIx as).Nodup → IsIo as k i → posIo as i = some k
  | [], _, _, _, h => by simp [IsIo] at h
  | .e _ :: r, i, 0, _, h => by simp [IsIo] at h
  | .e _ :: r, i, k + 1, n, h => by
    have h' : IsIo r k i := by simpa [IsIo] using h
    simp [posIo, posIo_is (by simpa [ioIx] using n) h']
  | .io j :: r, i, 0, n, h => by
    have : j = i := by simpa [IsIo] using h
    simp [posIo, this]
  | .io j :: r, i, k + 1, n, h => by
    have h' : IsIo r k i := by simpa [IsIo] using h
    have n' : j ∉ ioIx r ∧ (ioIx r).Nodup := by simpa [ioIx] using n
    have : j ≠ i := fun e => n'.1 (e ▸ mem_ioIx h')
    simp [posIo, this, posIo_is n'.2 h']
/-- what is handed in, by places -/
theorem fill_get {K : PySem.W.Frag} {Z : Addr → Prop} {H : Hp} {σ : St} {τ : Nat → OT} {ρ : Sl} : ∀ {as : List Ag} {ds full : List D} {vs : List V}, fillA as ds ρ = some full → AgR K Z H σ as ds vs →
    full.length = as.length ∧ vs.length = as.length ∧ (tysOf τ as).length = as.length ∧ ∀ k d, full[k]? = some d → ∃ v, vs[k]? = some v ∧
      (((tysOf τ as)[k]? = some OT.sh ∧ (∀ i, ¬ IsIo as k i) ∧ RSh K Z H d v) ∨ ∃ i, IsIo as k i ∧ (tysOf τ as)[k]? = some (τ i) ∧ ρ[i]? = some (some d) ∧ σ[i]? = some (some v))
  | [], _, full, _, e, ⟨e1, e2⟩ => by
    subst e1 e2
    simp only [fillA] at e
    cases e
    exact ⟨rfl, rfl, rfl, fun k d h => by simp at h⟩
  | .e m :: r, _, full, _, e, ⟨d, ds', v, vs', e1, e2, r1, r2⟩ => by
    subst e1 e2
    simp only [fillA] at e
    obtain ⟨o, ho, rfl⟩ := Option.map_eq_some_iff.mp e
    obtain ⟨a1, a2, a3, a4⟩ := fill_get (τ := τ) ho r2
    refine ⟨by simp [a1], by simp [a2], by simp [tysOf, a3], fun k d' h => ?_⟩
    cases k with
    | zero => simp at h; subst h; exact ⟨v, by simp, .inl ⟨by simp [tysOf], fun i z => by simp [IsIo] at z, r1⟩⟩
    | succ k =>
      obtain ⟨w, b1, b2⟩ := a4 k d' (by simpa using h)
      refine ⟨w, by simpa using b1, ?_⟩
      rcases b2 with ⟨c1, c2, c3⟩ | ⟨i, c1, c2, c3⟩
      · exact .inl ⟨by simpa [tysOf] using c1, fun i z => c2 i (by simpa [IsIo] using z), c3⟩
      · exact .inr ⟨i, by simpa [IsIo] using c1, by simpa [tysOf] using c2, c3⟩
  | .io j :: r, _, full, _, e, ⟨d, ds', v, vs', e1, e2, r1, r2⟩ => by
    subst e1 e2
    simp only [fillA] at e
    split at e
    · rename_i d0 hd0
      obtain ⟨o, ho, rfl⟩ := Option.map_eq_some_iff.mp e
      obtain ⟨a1, a2, a3, a4⟩ := fill_get (τ := τ) ho r2
      refine ⟨by simp [a1], by simp [a2], by simp [tysOf, a3], fun k d' h => ?_⟩
      cases k with
      | zero => simp at h; subst h; exact ⟨v, by simp, .inr ⟨j, by simp [IsIo], by simp [tysOf], hd0, r1⟩⟩
      | succ k =>
        obtain ⟨w, b1, b2⟩ := a4 k d' (by simpa using h)
        refine ⟨w, by simpa using b1, ?_⟩
        rcases b2 with ⟨c1, c2, c3⟩ | ⟨i, c1, c2, c3⟩
        · exact .inl ⟨by simpa [tysOf] using c1, fun i z => c2 i (by simpa [IsIo] using z), c3⟩
        · exact .inr ⟨i, by simpa [IsIo] using c1, by simpa [tysOf] using c2, c3⟩
    · cases e
/-- what stands in the slots behind the call -/
theorem back_get : ∀ {as : List Ag} {out : List D} {ρ : Sl} {i : Nat} {d : D}, (ioIx as).Nodup → out.length = as.length → (backA as out ρ)[i]? = some (some d) → (∃ k, IsIo as k i ∧ out[k]? = some d) ∨ ((∀ k, ¬ IsIo as k i) ∧ ρ[i]? = some (some d))
  | [], out, ρ, i, d, _, _, h => .inr ⟨fun k z => by simp [IsIo] at z, by simpa [backA] using h⟩
  | .e m :: r, [], ρ, i, d, _, hl, h => by simp at hl
  | .io j :: r, [], ρ, i, d, _, hl, h => by simp at hl
  | .e m :: r, o :: out, ρ, i, d, n, hl, h => by
    simp only [backA] at h
    rcases back_get (by simpa [ioIx] using n) (by simpa using hl) h with ⟨k, a, b⟩ | ⟨a, b⟩
    · exact .inl ⟨k + 1, by simpa [IsIo] using a, by simpa using b⟩
    · refine .inr ⟨fun k z => ?_, b⟩
      cases k with
      | zero => simp [IsIo] at z
      | succ k => exact a k (by simpa [IsIo] using z)
  | .io j :: r, o :: out, ρ, i, d, n, hl, h => by
    simp only [backA] at h
    have n' : j ∉ ioIx r ∧ (ioIx r).Nodup := by simpa [ioIx] using n
    rcases back_get n'.2 (by simpa using hl) h with ⟨k, a, b⟩ | ⟨a, b⟩
    · exact .inl ⟨k + 1, by simpa [IsIo] using a, by simpa using b⟩
    · by_cases hij : j = i
      · subst hij
        rw [List.getElem?_set] at b
        split at b
        · split at b
          · cases b; exact .inl ⟨0, by simp [IsIo], by simp⟩
          · cases b
        · rename_i z; exact absurd rfl z
      · rw [List.getElem?_set_ne hij] at b
        refine .inr ⟨fun k z => ?_, b⟩
        cases k with
        | zero => exact hij (by simpa [IsIo] using z)
        | succ k => exact a k (by simpa [IsIo] using z)
theorem back_len : ∀ (as : List Ag) (out : List D) (ρ : Sl), (backA as out ρ).length = ρ.length
  | [], _, _ => by simp [backA]
  | .e _ :: r, [], _ => by simp [backA]
  | .io _ :: r, [], _ => by simp [backA]
  | .e _ :: r, _ :: o, ρ => by simp only [backA]; exact back_len r o ρ
  | .io i :: r, d :: o, ρ => by simp only [backA]; rw [back_len r o]; simp
section
variable {X : Cx} {τ : Nat → OT} {q : Bool} {k : Nat} {f : Addr} {fd : FuncData} {ps : List Str} {x : Str} {p pos : Pos} {e : Expr} {es : List Expr} {as : List Ag} {rt : OT} {G : Fn}
theorem callF_of (hnd : (ioIx as).Nodup) (hol : ∀ i, i ∈ ioIx as → isOl (τ i) = true) (hG : ∀ ds d out, G ds = .ok (d, out) → out.length = (tysOf τ as).length) : ∀ σ H Q, tE X.K τ false (.ow rt) (mCall G as) σ H Q → tAg X.K τ q as σ H fun vs H1 => spD X.K (tysOf τ as) rt G vs H1 Q E0 := fun σ H Q ⟨Z, own, ρ, d, ρ', rs, e, kk⟩ => by
  obtain ⟨ds, ρ1, e1, e⟩ := bind_ok e
  split at e
  case h_1 => cases e
  rename_i full ef
  split at e
  case h_2 => cases e
  case h_3 => cases e
  rename_i d' out eg
  cases e
  refine ⟨Z, own, ρ, ds, ρ1, rs, e1, fun vs Z1 own1 H1 rs1 rl x1 => ?_⟩
  obtain ⟨l1, l2, l3, hf⟩ := fill_get (τ := τ) ef rl
  have lo : out.length = as.length := by rw [hG _ _ _ eg, l3]
  have ioT : ∀ k i, IsIo as k i → (tysOf τ as)[k]? = some (τ i) ∧ ioOf (tysOf τ as) k = true := fun k i h => by
    have hk : k < full.length := by
      have := (List.getElem?_eq_some_iff.mp h).1
      omega
    obtain ⟨v, _, c⟩ := hf k full[k] (List.getElem?_eq_getElem hk)
    rcases c with ⟨c1, c2, c3⟩ | ⟨j, c1, c2, _⟩
    · exact absurd h (c2 i)
    · have : j = i := by
        unfold IsIo at h c1
        rw [h] at c1; cases c1; rfl
      subst this
      refine ⟨c2, ?_⟩
      have := hol j (mem_ioIx h)
      unfold ioOf
      rw [c2]
      revert this
      cases τ j <;> simp [isOl]
  let oc : Addr → Option Nat := fun a => (own1 a).bind (posIo as)
  have hoc : ∀ a k, oc a = some k → ∃ i, own1 a = some i ∧ IsIo as k i := fun a k h => by
    obtain ⟨i, h1, h2⟩ := Option.bind_eq_some_iff.mp h
    exact ⟨i, h1, posIo_of h2⟩
  have rsc : RS X.K (τOf (tysOf τ as)) Z1 oc H1 (full.map some) (vs.map some) := by
    refine ⟨fun k d e => ?_, fun a k h => ?_, fun a k h => ?_, rs1.zt, by simp [l1, l2]⟩
    · rw [List.getElem?_map] at e
      obtain ⟨d', e', ed⟩ := Option.map_eq_some_iff.mp e
      cases ed
      obtain ⟨v, hv, c⟩ := hf k d e'
      refine ⟨v, by rw [List.getElem?_map, hv]; rfl, ?_⟩
      rcases c with ⟨c1, c2, c3⟩ | ⟨i, c1, c2, c3, c4⟩
      · have : τOf (tysOf τ as) k = .sh := by simp [τOf, c1]
        rw [this]; exact c3
      · have : τOf (tysOf τ as) k = τ i := by simp [τOf, c2]
        rw [this]
        obtain ⟨v', hv', r'⟩ := rs1.sl i d c3
        rw [c4] at hv'; cases hv'
        refine R.mono r' fun a ha => ?_
        show (own1 a).bind (posIo as) = some k
        rw [ha]
        exact posIo_is hnd c1
    · obtain ⟨i, h1, _⟩ := hoc a k h
      exact rs1.ls a i h1
    · obtain ⟨i, h1, _⟩ := hoc a k h
      exact rs1.dz a i h1
  refine ⟨Z1, oc, full, _, out, by rw [l2, l3], by rw [l1, l3], rsc, fun a k h => ?_, eg, fun v Z2 oc2 H2 S rs2 h2 r hS x2 => ?_⟩
  · obtain ⟨i, _, h2⟩ := hoc a k h
    exact (ioT k i h2).2
  · let ow2 : Addr → Option Nat := fun a => match oc2 a with
      | some k => (match as[k]? with | some (.io i) => some i | _ => none)
      | none => (match own1 a with | some i => if posIo as i = none then some i else none | none => none)
    have hio2 : ∀ a i, ow2 a = some i → (∃ k, oc2 a = some k ∧ IsIo as k i) ∨ (oc2 a = none ∧ own1 a = some i ∧ posIo as i = none) := fun a i h => by
      have h : (match oc2 a with
        | some k => (match as[k]? with | some (.io i) => some i | _ => none)
        | none => (match own1 a with | some i => if posIo as i = none then some i else none | none => none)) = some i := h
      split at h
      · rename_i k hk
        split at h
        · rename_i j hj
          cases h
          exact .inl ⟨k, hk, hj⟩
        · cases h
      · rename_i hk
        split at h
        · rename_i j hj
          split at h
          · cases h; exact .inr ⟨hk, hj, by assumption⟩
          · cases h
        · cases h
    refine kk v Z2 ow2 H2 S ⟨fun i d0 e => ?_, fun a i h => ?_, fun a i h => ?_, rs2.zt, by rw [back_len]; exact rs1.len⟩ r (fun a s => ?_) (x1.trans' (q2 := false) (fun z => nomatch z) (⟨x2.z, fun a z => (x2.zn a z).elim .inl (fun z => z.elim (fun z => .inr (.inl z)) (fun ⟨_, _, z⟩ => absurd z (by simp))), fun a i h => ?_, fun a o e h => ?_, x2.live⟩ : ExtF fxT false Z1 own1 H1 Z2 ow2 H2))
    · rcases back_get hnd lo e with ⟨k, c1, c2⟩ | ⟨c1, c2⟩
      · obtain ⟨w, hw, rw'⟩ := rs2.sl k d0 (by rw [List.getElem?_map, c2]; rfl)
        have hk : k < full.length := by
          have := (List.getElem?_eq_some_iff.mp c1).1
          omega
        obtain ⟨v0, hv0, c⟩ := hf k full[k] (List.getElem?_eq_getElem hk)
        have c4 : σ[i]? = some (some v0) := by
          rcases c with ⟨_, c, _⟩ | ⟨j, d1, _, _, d4⟩
          · exact absurd c1 (c i)
          · have : j = i := by
              unfold IsIo at c1 d1
              rw [c1] at d1; cases d1; rfl
            subst this; exact d4
        rw [List.getElem?_map, hv0] at hw
        cases hw
        refine ⟨_, c4, ?_⟩
        have : τOf (tysOf τ as) k = τ i := by simp [τOf, (ioT k i c1).1]
        rw [this] at rw'
        refine R.mono rw' fun a ha => ?_
        show (match oc2 a with
          | some k => (match as[k]? with | some (.io i) => some i | _ => none)
          | none => (match own1 a with | some i => if posIo as i = none then some i else none | none => none)) = some i
        rw [ha]
        show (match as[k]? with | some (.io i) => some i | _ => none) = some i
        rw [show as[k]? = some (.io i) from c1]
      · obtain ⟨w, hw, rw'⟩ := rs1.sl i d0 c2
        refine ⟨w, hw, ?_⟩
        have np : posIo as i = none := by
          cases h : posIo as i with
          | none => rfl
          | some k => exact absurd (posIo_of h) (c1 k)
        have ocn : ∀ a, own1 a = some i → oc a = none := fun a h => by
          show (own1 a).bind (posIo as) = none
          rw [h]; exact np
        refine R.mono (R.pres x2.z (rsc.nl x2) (fun _ _ z s => rsc.kz x2 (.inl z) s) (fun a xs s hx => x2.keep a _ hx (.inl (ocn a s))) rw') fun a ha => ?_
        have oc2n : oc2 a = none := by
          cases h : oc2 a with
          | none => rfl
          | some k =>
            rcases x2.on a k h with z | z
            · rw [ocn a ha] at z; cases z
            · obtain ⟨xs, hx, _⟩ := rs1.ls a i ha
              rw [hx] at z; cases z
        show (match oc2 a with
          | some k => (match as[k]? with | some (.io i) => some i | _ => none)
          | none => (match own1 a with | some i => if posIo as i = none then some i else none | none => none)) = some i
        rw [oc2n, ha]
        exact if_pos np
    · rcases hio2 a i h with ⟨k, h1, _⟩ | ⟨h1, h2', h3⟩
      · exact rs2.ls a k h1
      · obtain ⟨xs, hx, hm⟩ := rs1.ls a i h2'
        have ocn : oc a = none := by
          show (own1 a).bind (posIo as) = none
          rw [h2']; exact h3
        exact ⟨xs, x2.keep a _ hx (.inl ocn), hm⟩
    · rcases hio2 a i h with ⟨k, h1, _⟩ | ⟨h1, h2', h3⟩
      · exact rs2.dz a k h1
      · intro z
        rcases x2.zn a z with z | z | ⟨j, z, zf⟩
        · exact rs1.dz a i h2' z
        · obtain ⟨xs, hx, _⟩ := rs1.ls a i h2'
          rw [hx] at z; cases z
        · cases zf
    · obtain ⟨s1, s2, s3, s4⟩ := hS a s
      refine ⟨x1.back s1, ?_, s3, s4⟩
      show (match oc2 a with
        | some k => (match as[k]? with | some (.io i) => some i | _ => none)
        | none => (match own1 a with | some i => if posIo as i = none then some i else none | none => none)) = none
      rw [s2]
      cases ho : own1 a with
      | none => rfl
      | some i => obtain ⟨xs, hx, _⟩ := rs1.ls a i ho; rw [s1] at hx; cases hx
    · rcases hio2 a i h with ⟨k, h1, h2'⟩ | ⟨h1, h2', h3⟩
      · rcases x2.on a k h1 with z | z
        · obtain ⟨j, z1, z2⟩ := hoc a k z
          have : j = i := by
            unfold IsIo at h2' z2
            rw [h2'] at z2; cases z2; rfl
          subst this
          exact .inl z1
        · exact .inr z
      · exact .inl h2'
    · rcases h with h | h
      · exact x2.keep a o e (.inl (by show (own1 a).bind (posIo as) = none; rw [h]; rfl))
      · cases h
theorem e_callF (Fu : FnG X.prog X.w X.K X.mg X.base k f fd ps (spD X.K (tysOf τ as) rt G)) (hk : PySem.W.keepIn X.K (.ref f) = true) (hb : Binds X.K fd ps []) (hr : Room k X.A) (hgu : X.A.guards = some []) (hm : X.mg x = some (.ref f)) (ha : PA X (e :: es) (tAg X.K τ q as)) (hG : ∀ ds d out, G ds = .ok (d, out) → out.length = (tysOf τ as).length) (hnd : (ioIx as).Nodup := by simp [ioIx]) (hol : ∀ i, i ∈ ioIx as → isOl (τ i) = true := by simp [ioIx, isOl]) (hg : Gl X x := by rfl)
    (hdb : (x == ("__debug__" : Str)) = false := by decide) (he : starEach (e :: es) X.env = (false, eval e X.env) :: starEach es X.env := by rfl) (hpl : (backTo pos (starEach es X.env)).any (·.1) = false := by rfl) :
    PE X (.Call (.Name x p) (e :: es) [] pos) (tE X.K τ false (.ow rt) (mCall G as)) := (pe_callG Fu hr hgu hg hm hk hb ha hdb he hpl).mono (callF_of hnd hol hG)
end
theorem runF_len {ts : List OT} {nl : Nat} {b : MS} : ∀ ds d out, runF ts nl b ds = .ok (d, out) → out.length = ts.length := fun ds d out e => by
  unfold runF at e
  split at e
  · split at e
    · rename_i ho; cases e; exact (outs_get ho).1
    · cases e
  · split at e
    · rename_i ho; cases e; exact (outs_get ho).1
    · cases e
  · cases e
  · cases e
end CL

namespace CL
open PySem PySem.Spec L2
set_option autoImplicit false
section
variable {K : PySem.W.Frag} {τ : Nat → OT} {Z : Addr → Prop} {own : Addr → Option Nat} {H : Hp} {ρ : Sl} {σ : St} {i : Nat}
theorem upd_sqL {a : Addr} {ys : List V} (hz : ¬ Z a) : ∀ b o, Z b → H b = some o → upd H a (.lst ys) b = some o := fun b o z s => by
  rw [upd_ne (fun e => by subst e; exact hz z)]; exact s
/-- a slot's own list is changed -/
theorem RS.updOwn {a : Addr} {xs ys : List V} {v : V} {d : D} (h : RS K τ Z own H ρ σ) (ho : own a = some i) (ha : H a = some (.lst xs)) (hv : σ[i]? = some (some v)) (hn : R K Z (upd H a (.lst ys)) (τ i) d v (fun b => own b = some i)) :
    RS K τ Z own (upd H a (.lst ys)) (ρ.set i (some d)) σ ∧ Ext false Z own H Z own (upd H a (.lst ys)) := by
  have hz := h.dz a i ho
  refine ⟨⟨fun j d' e => ?_, fun b j e => ?_, h.dz, fun b z e => ?_, by simpa using h.len⟩, fun _ z => z, fun _ z => .inl z, fun _ _ z => .inl z, fun b o e hb => ?_, fun b e n => ?_⟩
  · by_cases hij : i = j
    · subst hij
      rw [List.getElem?_set] at e
      split at e
      · split at e
        · cases e; exact ⟨v, hv, hn⟩
        · cases e
      · rename_i n; exact absurd rfl n
    · rw [List.getElem?_set_ne hij] at e
      obtain ⟨w, e1, e2⟩ := h.sl j d' e
      refine ⟨w, e1, R.pres (fun _ z => z) (upd_nl ha trivial) (upd_sqL hz) (fun b zs s hb => ?_) e2⟩
      rw [upd_ne (fun e => by subst e; rw [ho] at s; cases s; exact hij rfl)]; exact hb
  · by_cases hb : b = a
    · subst hb; exact ⟨_, upd_same, trivial⟩
    · obtain ⟨zs, hx, hm⟩ := h.ls b j e
      exact ⟨zs, by rw [upd_ne hb]; exact hx, hm⟩
  · rw [upd_ne (fun w => by subst w; exact hz z)] at e
    exact h.zt b z e
  · rcases hb with hb | hb
    · rw [upd_ne (fun w => by subst w; rw [ho] at hb; cases hb)]; exact e
    · cases hb
  · by_cases hb : b = a
    · subst hb; rw [upd_same] at n; cases n
    · rw [upd_ne hb] at n; exact e n
theorem RS.own1 {l : List D} (h : RS K τ Z own H ρ σ) (ht : τ i = .ol .sh .sh) (hi : ρ[i]? = some (some (.lst l))) : ∃ a xs, σ[i]? = some (some (.ref a)) ∧ H a = some (.lst xs) ∧ own a = some i ∧ RShL K Z H l xs ∧
    ∀ l' ys, RShL K Z H l' ys → RS K τ Z own (upd H a (.lst ys)) (ρ.set i (some (.lst l'))) σ ∧ Ext false Z own H Z own (upd H a (.lst ys)) := by
  obtain ⟨v, hv, r⟩ := h.sl i _ hi
  rw [ht] at r
  obtain ⟨l0, a, xs, ow, e1, rfl, e3, e4, e5, e6, e7, e8⟩ := r
  cases e1
  refine ⟨a, xs, hv, e3, e4, .of_get e6 fun n d v p q => ?_, fun l' ys r' => h.updOwn e4 e3 hv ?_⟩
  · cases n with
    | zero => exact e7 d v p q
    | succ n => exact e8 n d v p q
  · rw [ht]
    have rr : RShL K Z (upd H a (.lst ys)) l' ys := RShL.pres (fun _ z => z) (upd_nl e3 trivial) (upd_sqL (h.dz a i e4)) _ _ r'
    refine ⟨l', a, ys, ow, rfl, rfl, upd_same, e4, e5, rr.len, fun d v p q => ?_, fun n d v p q => ?_⟩
    · obtain ⟨w, x, y⟩ := rr.get p
      rw [q] at x; cases x; exact y
    · obtain ⟨w, x, y⟩ := rr.get p
      rw [q] at x; cases x; exact y
theorem RS.own0 {l r : List D} {t : OT} (h : RS K τ Z own H ρ σ) (ht : τ i = .ol (.ol .sh .sh) t) (hi : ρ[i]? = some (some (.lst (.lst l :: r)))) : ∃ a b xs ys, σ[i]? = some (some (.ref a)) ∧ H a = some (.lst (.ref b :: xs)) ∧ H b = some (.lst ys) ∧ own b = some i ∧ RShL K Z H l ys ∧
    ∀ l' ys', RShL K Z H l' ys' → RS K τ Z own (upd H b (.lst ys')) (ρ.set i (some (.lst (.lst l' :: r)))) σ ∧ Ext false Z own H Z own (upd H b (.lst ys')) := by
  obtain ⟨v, hv, rr⟩ := h.sl i _ hi
  rw [ht] at rr
  obtain ⟨l0, a, xs0, ow, e1, rfl, e3, e4, e5, e6, e7, e8⟩ := rr
  cases e1
  cases xs0 with
  | nil => simp at e6
  | cons v0 xs =>
    obtain ⟨l1, b, ys, ow', f1, rfl, f3, f4, f5, f6, f7, f8⟩ := e7 (.lst l) v0 (by simp) (by simp)
    cases f1
    have hz := h.dz b i f4.1
    have nab : a ≠ b := fun e => by subst e; rw [e5] at f4; cases f4.2
    refine ⟨a, b, xs, ys, hv, e3, f3, f4.1, .of_get f6 fun n d v p q => ?_, fun l' ys' r' => h.updOwn f4.1 f3 hv ?_⟩
    · cases n with
      | zero => exact f7 d v p q
      | succ n => exact f8 n d v p q
    · rw [ht]
      have rl : RShL K Z (upd H b (.lst ys')) l' ys' := RShL.pres (fun _ z => z) (upd_nl f3 trivial) (upd_sqL hz) _ _ r'
      refine ⟨.lst l' :: r, a, .ref b :: xs, ow, rfl, rfl, by rw [upd_ne nab]; exact e3, e4, e5, by simpa using e6, fun d v p q => ?_, fun n d v p q => ?_⟩
      · simp at p q
        subst p q
        refine ⟨l', b, ys', ow', rfl, rfl, upd_same, f4, f5, rl.len, fun d v p q => ?_, fun n d v p q => ?_⟩
        · obtain ⟨w, x, y⟩ := rl.get p
          rw [q] at x; cases x; exact y
        · obtain ⟨w, x, y⟩ := rl.get p
          rw [q] at x; cases x; exact y
      · refine R.pres (fun _ z => z) (upd_nl f3 trivial) (upd_sqL hz) (fun c zs s hc => ?_) (e8 n d v (by simpa using p) (by simpa using q))
        rw [upd_ne (fun e => by subst e; rw [f4.2] at s; cases s.2)]; exact hc
theorem RS.ownS {l : List D} {t0 : OT} (h : RS K τ Z own H ρ σ) (ht : τ i = .ol t0 .sh) (hi : ρ[i]? = some (some (.lst l))) : ∃ a xs, σ[i]? = some (some (.ref a)) ∧ H a = some (.lst xs) ∧ l.length = xs.length ∧ (∀ k d, l[k + 1]? = some d → ∃ v, xs[k + 1]? = some v ∧ RSh K Z H d v) ∧
    ∀ k d v, RSh K Z H d v → RS K τ Z own (upd H a (.lst (xs.set (k + 1) v))) (ρ.set i (some (.lst (l.set (k + 1) d)))) σ ∧ Ext false Z own H Z own (upd H a (.lst (xs.set (k + 1) v))) := by
  obtain ⟨v, hv, rr⟩ := h.sl i _ hi
  rw [ht] at rr
  obtain ⟨l0, a, xs, ow, e1, rfl, e3, e4, e5, e6, e7, e8⟩ := rr
  cases e1
  have hz := h.dz a i e4
  refine ⟨a, xs, hv, e3, e6, fun k d e => ?_, fun k d v r => h.updOwn e4 e3 hv ?_⟩
  · have hk : k + 1 < xs.length := by rw [← e6]; exact (List.getElem?_eq_some_iff.mp e).1
    exact ⟨_, List.getElem?_eq_getElem hk, e8 k d _ e (List.getElem?_eq_getElem hk)⟩
  · rw [ht]
    have rn : RSh K Z (upd H a (.lst (xs.set (k + 1) v))) d v := RSh.pres (fun _ z => z) (upd_nl e3 trivial) (upd_sqL hz) _ _ r
    refine ⟨l.set (k + 1) d, a, _, ow, rfl, rfl, upd_same, e4, e5, by simpa using e6, fun d' v' p q => ?_, fun n d' v' p q => ?_⟩
    · rw [List.getElem?_set_ne (by omega)] at p q
      refine R.pres (fun _ z => z) (upd_nl e3 trivial) (upd_sqL hz) (fun c zs s hc => ?_) (e7 d' v' p q)
      rw [upd_ne (fun e => by subst e; rw [e5] at s; cases s.2)]; exact hc
    · by_cases hn : k = n
      · subst hn
        rw [List.getElem?_set] at p q
        simp only [if_true] at p q
        split at p
        · split at q
          · cases p; cases q; exact rn
          · cases q
        · cases p
      · rw [List.getElem?_set_ne (by omega)] at p q
        exact RSh.pres (fun _ z => z) (upd_nl e3 trivial) (upd_sqL hz) _ _ (e8 n d' v' p q)
end
/-! ### the rules -/
def mApp (i : Nat) (m : M D) : M D := bind (mV i) fun _ => bind m fun d => fun ρ => match ρ[i]? with
  | some (some (.lst l)) => if l.length < 16777216 then .ok (.non, ρ.set i (some (.lst (l ++ [d])))) else .bad
  | _ => .bad
def mPop (i : Nat) : M D := fun ρ => match ρ[i]? with
  | some (some (.lst l)) => (match l[l.length - 1]? with | some d => .ok (d, ρ.set i (some (.lst l.dropLast))) | none => .bad)
  | _ => .bad
def mIx0 (i : Nat) : M D := fun ρ => match ρ[i]? with
  | some (some (.lst (.lst l :: _))) => .ok (.lst l, ρ)
  | _ => .bad
def mApp0 (i : Nat) (m : M D) : M D := bind (mIx0 i) fun _ => bind m fun d => fun ρ => match ρ[i]? with
  | some (some (.lst (.lst l :: r))) => if l.length < 16777216 then .ok (.non, ρ.set i (some (.lst (.lst (l ++ [d]) :: r)))) else .bad
  | _ => .bad
def mPop0 (i : Nat) : M D := fun ρ => match ρ[i]? with
  | some (some (.lst (.lst l :: r))) => (match l[l.length - 1]? with | some d => .ok (d, ρ.set i (some (.lst (.lst l.dropLast :: r)))) | none => .bad)
  | _ => .bad
def mIxS (i k : Nat) : M D := fun ρ => match ρ[i]? with
  | some (some (.lst l)) => (match l[k + 1]? with | some d => .ok (d, ρ) | none => .bad)
  | _ => .bad
def sSto (i k : Nat) (m : M D) : MS := bind m fun d => fun ρ => match ρ[i]? with
  | some (some (.lst l)) => if k + 1 < l.length then .ok (.nx, ρ.set i (some (.lst (l.set (k + 1) d)))) else .bad
  | _ => .bad
theorem RShL.dropLast {K : PySem.W.Frag} {Z : Addr → Prop} {H : Hp} {ds : List D} {vs : List V} (h : RShL K Z H ds vs) : RShL K Z H ds.dropLast vs.dropLast := by
  rw [List.dropLast_eq_take, List.dropLast_eq_take, h.len]
  exact h.take _
section
variable {X : Cx} {τ : Nat → OT} {q : Bool} {e : Expr} {ma : M D} {pos apos p1 p2 : Pos} {x : Str} {kk : Nat}
theorem e_app (i : Nat) (he : PA X [e] (tAs X.K τ q (mCons ma mNil))) (ht : τ i = .ol .sh .sh := by rfl) (hN : X.N[i]? = some x := by rfl) (hv : Vis X.env.scope x := by first | exact Or.inl rfl | exact Or.inr (Or.inl rfl) | exact Or.inr (Or.inr rfl)) (hd : (x == ("__debug__" : Str)) = false := by decide)
    (hcd : (x == ("__classdict__" : Str)) = false := by decide) (hbase : attributeBase (.Name x p1) "append" X.env (eval (.Name x p1) X.env) = eval (.Name x p1) X.env := by rfl)
    (hfew : ((backTo pos (starEach [e] X.env)).all (fun x => !x.1) && (backToKw pos (keywordEach [] X.env)).all (fun x => x.1.isSome) && decide ([e].length + ([] : List Keyword).length + (if ([] : List Keyword).isEmpty then 0 else 1) < 30)) = true := by rfl)
    (hline : (apos.endLine == pos.line) = true := by rfl) (hs : starEach [e] X.env = (false, eval e X.env) :: starEach [] X.env := by rfl) (hplain : (backTo pos (starEach [] X.env)).any (·.1) = false := by rfl) :
    PE X (.Call (.Attribute (.Name x p1) "append" apos) [e] [] pos) (tE X.K τ false .sh (mApp i ma)) :=
  (pe_bm PySem.F.plainAttrs_list PySem.F.slot_list_append PySem.F.type_list_append mt_append (pv i hN hv hd hcd) he hbase hfew hline hs hplain).mono fun σ H Q ⟨Z, own, ρ, d, ρ', rs, e, k⟩ => by
    obtain ⟨y, ρ1, e1, f1⟩ := bind_ok e
    obtain ⟨e1, rfl⟩ := mV_ok e1
    obtain ⟨d1, ρ2, e2, f2⟩ := bind_ok f1
    split at f2
    · rename_i l hl
      split at f2
      · rename_i hll
        cases f2
        obtain ⟨v, hv1, hr⟩ := rs.sl i y e1
        rw [ht] at hr
        obtain ⟨l0, a, xs, ow, h1, rfl, h3, h4, h5, h6, h7, h8⟩ := hr
        refine ⟨.ref a, hv1, .inl ⟨rfl, xs, SqL.of h3⟩, Z, own, ρ1, [d1], ρ2, rs, by unfold mCons; rw [bind_of e2]; rfl, fun vs Z1 own1 H1 rs1 rl x1 => ?_⟩
        simp only [RShL] at rl
        obtain ⟨w, ws, rfl, r1, rfl⟩ := rl
        obtain ⟨a', xs', g1, g2, g3, g4, g5⟩ := rs1.own1 ht hl
        rw [hv1] at g1; cases g1
        obtain ⟨rs2, x2⟩ := g5 (l ++ [d1]) (xs' ++ [w]) (g4.append (.one r1))
        refine ⟨a, xs', w, rfl, rfl, g2, by rw [← g4.len, szL]; exact hll, k _ Z1 own1 _ (fun _ => False) rs2 (by simp only [Rm, R, RSh]) (fun _ z => z.elim) ((x1.weak).transF x2)⟩
      · cases f2
    · cases f2
theorem e_pop (i : Nat) (ht : τ i = .ol .sh .sh := by rfl) (hN : X.N[i]? = some x := by rfl) (hv : Vis X.env.scope x := by first | exact Or.inl rfl | exact Or.inr (Or.inl rfl) | exact Or.inr (Or.inr rfl)) (hd : (x == ("__debug__" : Str)) = false := by decide)
    (hcd : (x == ("__classdict__" : Str)) = false := by decide) (hbase : attributeBase (.Name x p1) "pop" X.env (eval (.Name x p1) X.env) = eval (.Name x p1) X.env := by rfl) (hline : (apos.endLine == pos.line) = true := by rfl) :
    PE X (.Call (.Attribute (.Name x p1) "pop" apos) [] [] pos) (tE X.K τ false .sh (mPop i)) :=
  (pe_bm0 PySem.F.plainAttrs_list PySem.F.slot_list_pop PySem.F.type_list_pop mt_pop (pv i hN hv hd hcd) hbase hline).mono fun σ H Q ⟨Z, own, ρ, d, ρ', rs, e, k⟩ => by
    unfold mPop at e
    split at e
    · rename_i l hl
      split at e
      · rename_i d1 hd1
        cases e
        obtain ⟨a, xs, g1, g2, g3, g4, g5⟩ := rs.own1 ht hl
        obtain ⟨rs2, x2⟩ := g5 l.dropLast xs.dropLast g4.dropLast
        obtain ⟨v, hv1, rv⟩ := g4.get hd1
        rw [g4.len] at hv1
        exact ⟨.ref a, g1, .inl ⟨rfl, xs, SqL.of g2⟩, a, xs, v, rfl, rfl, g2, hv1, k v Z own _ (fun _ => False) rs2 (rs.sh x2 rv) (fun _ z => z.elim) x2⟩
      · cases e
    · cases e
theorem e_ix0 (i : Nat) {t : OT} (ht : τ i = .ol (.ol .sh .sh) t := by rfl) (hN : X.N[i]? = some x := by rfl) (hv : Vis X.env.scope x := by first | exact Or.inl rfl | exact Or.inr (Or.inl rfl) | exact Or.inr (Or.inr rfl)) (hd : (x == ("__debug__" : Str)) = false := by decide)
    (hcd : (x == ("__classdict__" : Str)) = false := by decide) : PE X (.Subscript (.Name x p1) (.Constant (.int 0) kk p2) pos) (tE X.K τ true .pk (mIx0 i)) :=
  (pe_ix ix_list (pv i hN hv hd hcd) pe_int (fun _ _ => rfl)).mono fun σ H Q ⟨Z, own, ρ, d, ρ', rs, e, k⟩ => by
    unfold mIx0 at e
    split at e
    · rename_i l r hl
      cases e
      obtain ⟨a, b, xs, ys, g1, g2, g3, g4, g5, g6⟩ := rs.own0 ht hl
      exact ⟨.ref a, g1, a, .ref b :: xs, 0, .ref b, rfl, rfl, SqL.of g2, atI_nat (j := 0) rfl, k _ Z own H (fun _ => False) rs (.inr ⟨l, b, ys, rfl, rfl, g3, by rw [g4]; simp, g5⟩) (fun _ z => z.elim) ExtF.refl⟩
    · cases e
theorem e_ixS (i k : Nat) {t0 : OT} {j : Int} (ht : τ i = .ol t0 .sh := by rfl) (hj : j = ((k + 1 : Nat) : Int) := by rfl) (hN : X.N[i]? = some x := by rfl) (hv : Vis X.env.scope x := by first | exact Or.inl rfl | exact Or.inr (Or.inl rfl) | exact Or.inr (Or.inr rfl)) (hd : (x == ("__debug__" : Str)) = false := by decide)
    (hcd : (x == ("__classdict__" : Str)) = false := by decide) : PE X (.Subscript (.Name x p1) (.Constant (.int j) kk p2) pos) (tE X.K τ true .sh (mIxS i k)) :=
  (pe_ix ix_list (pv i hN hv hd hcd) pe_int (fun _ _ => rfl)).mono fun σ H Q ⟨Z, own, ρ, d, ρ', rs, e, kq⟩ => by
    unfold mIxS at e
    split at e
    · rename_i l hl
      split at e
      · rename_i d1 hd1
        cases e
        obtain ⟨a, xs, g1, g2, g3, g4, g5⟩ := rs.ownS ht hl
        obtain ⟨v, hv1, rv⟩ := g4 k d hd1
        exact ⟨.ref a, g1, a, xs, j, v, rfl, rfl, SqL.of g2, by rw [hj]; exact atI_nat hv1, kq v Z own H (fun _ => False) rs rv (fun _ z => z.elim) ExtF.refl⟩
      · cases e
    · cases e
theorem e_pop0 (i : Nat) {t : OT} (ht : τ i = .ol (.ol .sh .sh) t := by rfl) (hN : X.N[i]? = some x := by rfl) (hv : Vis X.env.scope x := by first | exact Or.inl rfl | exact Or.inr (Or.inl rfl) | exact Or.inr (Or.inr rfl)) (hd : (x == ("__debug__" : Str)) = false := by decide)
    (hcd : (x == ("__classdict__" : Str)) = false := by decide) {p0 : Pos} (hbase : attributeBase (.Subscript (.Name x p1) (.Constant (.int 0) kk p2) p0) "pop" X.env (eval (.Subscript (.Name x p1) (.Constant (.int 0) kk p2) p0) X.env) = eval (.Subscript (.Name x p1) (.Constant (.int 0) kk p2) p0) X.env := by rfl) (hline : (apos.endLine == pos.line) = true := by rfl) :
    PE X (.Call (.Attribute (.Subscript (.Name x p1) (.Constant (.int 0) kk p2) p0) "pop" apos) [] [] pos) (tE X.K τ false .sh (mPop0 i)) :=
  (pe_bm0 PySem.F.plainAttrs_list PySem.F.slot_list_pop PySem.F.type_list_pop mt_pop (pe_ix ix_list (pv i hN hv hd hcd) pe_int (fun _ _ => rfl)) hbase hline).mono fun σ H Q ⟨Z, own, ρ, d, ρ', rs, e, k⟩ => by
    unfold mPop0 at e
    split at e
    · rename_i l r hl
      split at e
      · rename_i d1 hd1
        cases e
        obtain ⟨a, b, xs, ys, g1, g2, g3, g4, g5, g6⟩ := rs.own0 ht hl
        obtain ⟨rs2, x2⟩ := g6 l.dropLast ys.dropLast g5.dropLast
        obtain ⟨v, hv1, rv⟩ := g5.get hd1
        rw [g5.len] at hv1
        exact ⟨.ref a, g1, a, .ref b :: xs, 0, .ref b, rfl, rfl, SqL.of g2, atI_nat (j := 0) rfl, .inl ⟨rfl, ys, SqL.of g3⟩, b, ys, v, rfl, rfl, g3, hv1, k v Z own _ (fun _ => False) rs2 (rs.sh x2 rv) (fun _ z => z.elim) x2⟩
      · cases e
    · cases e
theorem e_app0 (i : Nat) {t : OT} (he : PA X [e] (tAs X.K τ true (mCons ma mNil))) (ht : τ i = .ol (.ol .sh .sh) t := by rfl) (hN : X.N[i]? = some x := by rfl) (hv : Vis X.env.scope x := by first | exact Or.inl rfl | exact Or.inr (Or.inl rfl) | exact Or.inr (Or.inr rfl)) (hd : (x == ("__debug__" : Str)) = false := by decide)
    (hcd : (x == ("__classdict__" : Str)) = false := by decide) {p0 : Pos} (hbase : attributeBase (.Subscript (.Name x p1) (.Constant (.int 0) kk p2) p0) "append" X.env (eval (.Subscript (.Name x p1) (.Constant (.int 0) kk p2) p0) X.env) = eval (.Subscript (.Name x p1) (.Constant (.int 0) kk p2) p0) X.env := by rfl)
    (hfew : ((backTo pos (starEach [e] X.env)).all (fun x => !x.1) && (backToKw pos (keywordEach [] X.env)).all (fun x => x.1.isSome) && decide ([e].length + ([] : List Keyword).length + (if ([] : List Keyword).isEmpty then 0 else 1) < 30)) = true := by rfl)
    (hline : (apos.endLine == pos.line) = true := by rfl) (hs : starEach [e] X.env = (false, eval e X.env) :: starEach [] X.env := by rfl) (hplain : (backTo pos (starEach [] X.env)).any (·.1) = false := by rfl) :
    PE X (.Call (.Attribute (.Subscript (.Name x p1) (.Constant (.int 0) kk p2) p0) "append" apos) [e] [] pos) (tE X.K τ false .sh (mApp0 i ma)) :=
  (pe_bm PySem.F.plainAttrs_list PySem.F.slot_list_append PySem.F.type_list_append mt_append (pe_ix ix_list (pv i hN hv hd hcd) pe_int (fun _ _ => rfl)) he hbase hfew hline hs hplain).mono fun σ H Q ⟨Z, own, ρ, d, ρ', rs, e, k⟩ => by
    obtain ⟨y, ρ1, e1, f1⟩ := bind_ok e
    obtain ⟨d1, ρ2, e2, f2⟩ := bind_ok f1
    unfold mIx0 at e1
    split at e1
    · rename_i l1 r1 hl1
      cases e1
      split at f2
      · rename_i l r hl
        split at f2
        · rename_i hll
          cases f2
          obtain ⟨a, b, xs, ys, g1, g2, g3, g4, g5, g6⟩ := rs.own0 ht hl1
          refine ⟨.ref a, g1, a, .ref b :: xs, 0, .ref b, rfl, rfl, SqL.of g2, atI_nat (j := 0) rfl, .inl ⟨rfl, ys, SqL.of g3⟩, Z, own, _, [d1], ρ2, rs, by unfold mCons; rw [bind_of e2]; rfl, fun vs Z1 own1 H1 rs1 rl x1 => ?_⟩
          simp only [RShL] at rl
          obtain ⟨w, ws, rfl, rw1, rfl⟩ := rl
          obtain ⟨a', b', xs', ys', f1, f2, f3, f4, f5, f6⟩ := rs1.own0 ht hl
          rw [g1] at f1; cases f1
          rw [x1.keep a _ g2 (.inr rfl)] at f2; cases f2
          obtain ⟨rs2, x2⟩ := f6 (l ++ [d1]) (ys' ++ [w]) (f5.append (.one rw1))
          exact ⟨b, ys', w, rfl, rfl, f3, by rw [← f5.len, szL]; exact hll, k _ Z1 own1 _ (fun _ => False) rs2 (by simp only [Rm, R, RSh]) (fun _ z => z.elim) ((x1.weak).transF x2)⟩
        · cases f2
      · cases f2
    · cases e1
/-- slot[k + 1] = e -/
theorem s_sto {F : Fr} {j : Int} {t0 : OT} (i k : Nat) (he : PE X e (tE X.K F.τ q .sh ma)) (ht : F.τ i = .ol t0 .sh := by rfl) (hj : j = ((k + 1 : Nat) : Int) := by rfl) (hN : X.N[i]? = some x := by rfl) (hv : Vis X.env.scope x := by first | exact Or.inl rfl | exact Or.inr (Or.inl rfl) | exact Or.inr (Or.inr rfl)) (hd : (x == ("__debug__" : Str)) = false := by decide)
    (hcd : (x == ("__classdict__" : Str)) = false := by decide) {p0 : Pos} (hs : swapsWithSole [.Subscript (.Name x p1) (.Constant (.int j) kk p2) p0] e pos.line X.env = pure false := by rfl) (hw : swappedStores [.Subscript (.Name x p1) (.Constant (.int j) kk p2) p0] e X.env = pure none := by rfl) :
    PS X (.Assign [.Subscript (.Name x p1) (.Constant (.int j) kk p2) p0] e pos) (tS X.K F (sSto i k ma)) := (ps_asg he (pg_sub (pv i hN hv hd hcd) pe_int set_list) hs hw).mono fun E σ H ⟨Z, own, ρ, f, ρ', rs, e, o⟩ => by
  obtain ⟨d1, ρ1, e1, f1⟩ := bind_ok e
  split at f1
  · rename_i l hl
    split at f1
    · rename_i hk
      cases f1
      refine ⟨Z, own, ρ, d1, ρ1, rs, e1, fun v Z1 own1 H1 S rs1 rm n x1 => ?_⟩
      obtain ⟨a, xs, g1, g2, g3, g4, g5⟩ := rs1.ownS ht hl
      obtain ⟨rs2, x2⟩ := g5 k d1 v rm
      refine ⟨.ref a, g1, a, xs, j, k + 1, rfl, rfl, g2, ?_, o σ Z1 own1 _ rs2 Fix.refl ((x1.weak.any).transF x2.any)⟩
      rw [hj, ← g3]
      unfold ixN
      rw [if_pos (by omega), if_pos (by omega)]
      simp
    · cases f1
  · cases f1
/-- [e, ..], the first one a new list of its own -/
theorem e_lstH {es : List Expr} {q2 : Bool} {ms : M (List D)} {t : OT} (ha : PE X e (tE X.K τ q (.ow t) ma)) (hr : PA X es (tAs X.K τ q2 ms)) (hs : starEach (e :: es) X.env = (false, eval e X.env) :: starEach es X.env := by rfl) :
    PE X (.List (e :: es) pos) (tE X.K τ (q && q2) (.ow (.ol t .sh)) (mN bLst (mCons ma ms))) := (pe_lst (pa_cons ha hr hs)).mono fun σ H Q ⟨Z, own, ρ, d, ρ', rs, e, k⟩ => by
  obtain ⟨xs0, ρ1, e1, f1⟩ := bind_ok e
  obtain ⟨d0, ρ2, e2, f2⟩ := bind_ok e1
  obtain ⟨ds, ρ3, e3, f3⟩ := bind_ok f2
  cases f3
  obtain ⟨f4, rfl⟩ := ofO_ok f1
  unfold bLst at f4
  split at f4
  · rename_i hl
    cases f4
    refine ⟨Z, own, ρ, d0, ρ2, rs, e2, fun v Z1 own1 H1 S1 rs1 rm1 n1 x1 => ⟨Z1, own1, ρ2, ds, ρ', rs1, e3, fun vs Z2 own2 H2 rs2 rl x2 => ⟨szl hl (by simp [rl.len]), fun p hp => ?_⟩⟩⟩
    have g : Grow H2 (upd H2 p (.lst (v :: vs))) := Grow.new hp
    have rm2 : R X.K Z2 H2 t d0 v S1 := rs1.apart x2 (fun a s => (n1 a s).2.1) rm1
    have n2 : ∀ a, S1 a → H a = none ∧ own2 a = none ∧ ¬ Z2 a ∧ ∃ o, H2 a = some o ∧ Mut o := fun a s => by
      obtain ⟨m1, m2, m3, xs, m4, m5⟩ := n1 a s
      refine ⟨m1, ?_, fun z => ?_, xs, x2.keep a _ m4 (.inl m2), m5⟩
      · cases h : own2 a with
        | none => rfl
        | some i =>
          rcases x2.on a i h with z | z
          · rw [m2] at z; cases z
          · rw [m4] at z; cases z
      · rcases x2.zn a z with z | z | ⟨i, z, _⟩
        · exact m3 z
        · rw [m4] at z; cases z
        · rw [m2] at z; cases z
    have np : ∀ a, S1 a → a ≠ p := fun a s e => by
      subst e
      obtain ⟨_, _, _, xs, m, _⟩ := n2 a s
      rw [hp] at m; cases m
    have pf : H p = none := (x1.transF x2).back hp
    classical
    refine k _ Z2 own2 _ (fun a => a = p ∨ S1 a) (rs2.growO g) ⟨d0 :: ds, p, v :: vs, fun a => if a = p then none else some 0, rfl, rfl, upd_same, .inl rfl, if_pos rfl, by simp [rl.len], fun d w h1 h2 => ?_, fun n d w h1 h2 => ?_⟩ (fun a s => ?_) ((x1.trans x2).trans' (fun z => ⟨z, rfl⟩) (ExtF.growO (q := true) g))
    · simp at h1 h2
      subst h1 h2
      exact R.mono (g.r rm2) fun a s => ⟨.inr s, if_neg (np a s)⟩
    · obtain ⟨w', y1, y2⟩ := rl.get (i := n) (d := d) (by simpa using h1)
      have : vs[n]? = some w := by simpa using h2
      rw [this] at y1; cases y1
      exact g.sh y2
    · rcases s with rfl | s
      · refine ⟨pf, ?_, fun z => rs2.zt a z hp, _, upd_same, trivial⟩
        cases h : own2 a with
        | none => rfl
        | some i => obtain ⟨xs, hx, _⟩ := rs2.ls a i h; rw [hp] at hx; cases hx
      · obtain ⟨m1, m2, m3, xs, m4, m5⟩ := n2 a s
        exact ⟨m1, m2, m3, xs, g a _ m4, m5⟩
  · cases f4
end
end CL

namespace CL
open PySem PySem.Spec L2
set_option autoImplicit false
/-! ### whole numbers -/
def big : Nat := 2 ^ 400000
def bigD : Nat := 2 ^ 8000
def bAdd : D → D → Option D
  | .int a, .int b => some (.int (a + b))
  | .str a, .str b => if a.length + b.length ≤ 16777216 then some (.str (a ++ b)) else none
  | .tup a, .tup b => if a.length + b.length ≤ 16777216 then some (.tup (a ++ b)) else none
  | .lst a, .lst b => if a.length + b.length ≤ 16777216 then some (.lst (a ++ b)) else none
  | _, _ => none
def bSub : D → D → Option D
  | .int a, .int b => some (.int (a - b))
  | _, _ => none
def bMul : D → D → Option D
  | .int a, .int b => if a.natAbs < 2 ^ 64 ∨ b.natAbs < 2 ^ 64 ∨ (a.natAbs < big ∧ b.natAbs < big) then some (.int (a * b)) else none
  | _, _ => none
def bDiv : D → D → Option D
  | .int a, .int b => if b ≠ 0 ∧ b.natAbs < bigD then some (.int (a.fdiv b)) else none
  | _, _ => none
def bMod : D → D → Option D
  | .int a, .int b => if b ≠ 0 then some (.int (a.fmod b)) else none
  | _, _ => none
def bPow : D → D → Option D
  | .int a, .int b => if 0 ≤ b ∧ b ≤ 1000000 ∧ a.natAbs < 2 ^ 64 then some (.int (a ^ b.toNat)) else none
  | _, _ => none
def bNeg : D → Option D
  | .int a => some (.int (-a))
  | _ => none
def bLt : D → D → Option D
  | .int a, .int b => some (.bl (decide (a < b)))
  | _, _ => none
def bLe : D → D → Option D
  | .int a, .int b => some (.bl (decide (a ≤ b)))
  | _, _ => none
def bGt : D → D → Option D
  | .int a, .int b => some (.bl (decide (b < a)))
  | _, _ => none
def bGe : D → D → Option D
  | .int a, .int b => some (.bl (decide (b ≤ a)))
  | _, _ => none
theorem big_log {a : Int} (h : a.natAbs < big) : a.natAbs.log2 < 400000 := by
  by_cases z : a.natAbs = 0
  · rw [z]; decide
  · exact (Nat.log2_lt z).mpr h
theorem bigD_log {a : Int} (h : a.natAbs < bigD) : a.natAbs.log2 < 9000 := by
  by_cases z : a.natAbs = 0
  · rw [z]; decide
  · exact Nat.lt_trans ((Nat.log2_lt z).mpr h) (by decide)
section
variable {K : PySem.W.Frag} {Z : Addr → Prop} {H : Hp} {v : V}
theorem Pk0.str {x : Str} (h : Pk0 K Z H (.str x) v) : v = .str x := by
  rcases h with h | ⟨l, a, xs, e, _⟩
  · simpa only [RSh] using h
  · cases e
theorem Pk0.non (h : Pk0 K Z H .non v) : v = .non := by
  rcases h with h | ⟨l, a, xs, e, _⟩
  · simpa only [RSh] using h
  · cases e
theorem Pk0.tup {l : List D} (h : Pk0 K Z H (.tup l) v) : ∃ a xs, v = .ref a ∧ SqT K H a xs ∧ RShL K Z H l xs := by
  rcases h with h | ⟨l, a, xs, e, _⟩
  · simpa only [RSh] using h
  · cases e
theorem Pk0.lst {l : List D} (h : Pk0 K Z H (.lst l) v) : ∃ a xs, v = .ref a ∧ H a = some (.lst xs) ∧ RShL K Z H l xs := by
  rcases h with h | ⟨l, a, xs, e, e1, e2, e3⟩
  · simp only [RSh] at h
    obtain ⟨a, xs, e, z, h1, h2⟩ := h
    exact ⟨a, xs, e, h1, h2⟩
  · cases e; exact ⟨a, xs, e1, e2, e3⟩
theorem Pk0.scr {l : List Int} (h : Pk0 K Z H (.scr l) v) : ∃ a, v = .ref a ∧ SqL K H a (l.map V.int) := by
  rcases h with h | ⟨l, a, xs, e, e1, e2, e3⟩
  · simp only [RSh] at h
    obtain ⟨a, e, z, h1⟩ := h
    exact ⟨a, e, h1⟩
  · cases e
end
/-- the end of an operation that lays nothing -/
theorem fin0 {K : PySem.W.Frag} {Z : Addr → Prop} {H : Hp} {d : D} {v : V} {Q : VK} (r : RSh K Z H d v) (k : ∀ v H' S, Grow H H' → RF K Z H' d v S → NewS H H' S → Q v H') : Q v H := k v H (fun _ => False) Grow.refl (.inl r) NewS.none
theorem finT {K : PySem.W.Frag} {Z : Addr → Prop} {H : Hp} {l : List D} {xs : List V} {p : Addr} {Q : VK} (hp : H p = none) (r : RShL K Z H l xs) (k : ∀ v H' S, Grow H H' → RF K Z H' (.tup l) v S → NewS H H' S → Q v H') : Q (.ref p) (upd H p (.tup xs)) :=
  k _ _ (fun _ => False) (Grow.new hp) (RF.tup ((Grow.new hp).shL r) (SqT.of upd_same)) NewS.none
theorem finL {K : PySem.W.Frag} {Z : Addr → Prop} {H : Hp} {l : List D} {xs : List V} {p : Addr} {Q : VK} (hp : H p = none) (r : RShL K Z H l xs) (k : ∀ v H' S, Grow H H' → RF K Z H' (.lst l) v S → NewS H H' S → Q v H') : Q (.ref p) (upd H p (.lst xs)) :=
  k _ _ (fun a => a = p) (Grow.new hp) (RF.list ((Grow.new hp).shL r) upd_same) (NewS.one trivial hp)
section
variable {X : Cx}
/-- a rule for two ints -/
theorem o_ii {f : Value → Value → Sem Value} {g : D → D → Option D} {r : R2} (ho : OpR X f r) (hg : ∀ a b d, g a b = some d → ∃ i j, a = .int i ∧ b = .int j ∧ ∀ K Z H Q, (∀ v H' S, Grow H H' → RF K Z H' d v S → NewS H H' S → Q v H') → r (.int i) (.int j) H Q) : OpR X f (rF2 X.K g) := by
  intro pins s σ H x y v u Q I r1 r2 h
  obtain ⟨Z, a, b, d, p1, p2, e, k⟩ := h
  obtain ⟨i, j, rfl, rfl, h⟩ := hg a b d e
  rw [p1.int] at r1
  rw [p2.int] at r2
  exact ho pins s σ H _ _ v u Q I r1 r2 (h X.K Z H Q k)
theorem o_sub : OpR X (binaryOp .Sub) (rF2 X.K bSub) := o_ii op_sub fun a b d e => by
  unfold bSub at e
  split at e
  · rename_i i j; cases e; exact ⟨i, j, rfl, rfl, fun K Z H Q k => ⟨i, j, rfl, rfl, fin0 (by simp only [RSh]) k⟩⟩
  · cases e
def CMulX (i j : Int) : Prop := i.natAbs < 2 ^ 64 ∨ j.natAbs < 2 ^ 64 ∨ (i.natAbs < big ∧ j.natAbs < big)
theorem op_mulX : OpR X (binaryOp .Mult) (rI CMulX fun i j => .int (i * j)) := by
  intro pins s σ H x y v u Q I r1 r2 ⟨i, j, e1, e2, c, k⟩
  rcases c with c | c | c
  · exact op_mul pins s σ H x y v u Q I r1 r2 ⟨i, j, e1, e2, .inl (by omega), k⟩
  · exact op_mul pins s σ H x y v u Q I r1 r2 ⟨i, j, e1, e2, .inr (by omega), k⟩
  · refine op_mulW pins s σ H x y v u Q I r1 r2 ⟨i, j, e1, e2, ?_, k⟩
    have h1 := big_log c.1
    have h2 := big_log c.2
    unfold CMulW
    omega
theorem o_mul : OpR X (binaryOp .Mult) (rF2 X.K bMul) := o_ii op_mulX fun a b d e => by
  unfold bMul at e
  split at e
  · rename_i i j
    split at e
    · rename_i hb
      cases e
      exact ⟨i, j, rfl, rfl, fun K Z H Q k => ⟨i, j, rfl, rfl, hb, fin0 (by simp only [RSh]) k⟩⟩
    · cases e
  · cases e
def CDivX (_ j : Int) : Prop := j ≠ 0 ∧ j.natAbs.log2 < 9000
theorem op_divX : OpR X (binaryOp .FloorDiv) (rI CDivX fun i j => .int (i.fdiv j)) := by
  intro pins s σ H x y v u Q I r1 r2 ⟨i, j, e1, e2, c, k⟩
  subst e1 e2
  obtain ⟨t, rfl⟩ := r1
  obtain ⟨t', rfl⟩ := r2
  exact PyProof.Rows.floordiv_int c.1 ⟨.int _, H, I.tok _, ⟨_, rfl⟩, k⟩ (.inl (PyProof.noPylong_of_log2 c.2))
theorem o_div : OpR X (binaryOp .FloorDiv) (rF2 X.K bDiv) := o_ii op_divX fun a b d e => by
  unfold bDiv at e
  split at e
  · rename_i i j
    split at e
    · rename_i hb
      cases e
      exact ⟨i, j, rfl, rfl, fun K Z H Q k => ⟨i, j, rfl, rfl, ⟨hb.1, bigD_log hb.2⟩, fin0 (by simp only [RSh]) k⟩⟩
    · cases e
  · cases e
theorem o_mod : OpR X (binaryOp .Mod) (rF2 X.K bMod) := o_ii op_modN fun a b d e => by
  unfold bMod at e
  split at e
  · rename_i i j
    split at e
    · rename_i hb
      cases e
      exact ⟨i, j, rfl, rfl, fun K Z H Q k => ⟨i, j, rfl, rfl, hb, fin0 (by simp only [RSh]) k⟩⟩
    · cases e
  · cases e
theorem o_pow : OpR X (binaryOp .Pow) (rF2 X.K bPow) := o_ii op_pow fun a b d e => by
  unfold bPow at e
  split at e
  · rename_i i j
    split at e
    · rename_i hb
      cases e
      exact ⟨i, j, rfl, rfl, fun K Z H Q k => ⟨i, j, rfl, rfl, hb, fin0 (by simp only [RSh]) k⟩⟩
    · cases e
  · cases e
theorem o_lt : OpR X (compareOp .Lt) (rF2 X.K bLt) := o_ii op_lt fun a b d e => by
  unfold bLt at e
  split at e
  · rename_i i j; cases e; exact ⟨i, j, rfl, rfl, fun K Z H Q k => ⟨i, j, rfl, rfl, fin0 (by simp only [RSh]) k⟩⟩
  · cases e
theorem o_le : OpR X (compareOp .LtE) (rF2 X.K bLe) := o_ii op_le fun a b d e => by
  unfold bLe at e
  split at e
  · rename_i i j; cases e; exact ⟨i, j, rfl, rfl, fun K Z H Q k => ⟨i, j, rfl, rfl, fin0 (by simp only [RSh]) k⟩⟩
  · cases e
theorem o_gt : OpR X (compareOp .Gt) (rF2 X.K bGt) := o_ii op_gt fun a b d e => by
  unfold bGt at e
  split at e
  · rename_i i j; cases e; exact ⟨i, j, rfl, rfl, fun K Z H Q k => ⟨i, j, rfl, rfl, fin0 (by simp only [RSh]) k⟩⟩
  · cases e
theorem o_ge : OpR X (compareOp .GtE) (rF2 X.K bGe) := o_ii op_ge fun a b d e => by
  unfold bGe at e
  split at e
  · rename_i i j; cases e; exact ⟨i, j, rfl, rfl, fun K Z H Q k => ⟨i, j, rfl, rfl, fin0 (by simp only [RSh]) k⟩⟩
  · cases e
theorem u_neg : UnR X (unaryOp .USub) (rF1 X.K bNeg) := by
  intro pins s σ H x v Q I r1 h
  obtain ⟨Z, a, d, p1, e, k⟩ := h
  unfold bNeg at e
  split at e
  · rename_i i
    cases e
    rw [p1.int] at r1
    exact un_neg pins s σ H _ v Q I r1 ⟨i, rfl, fin0 (by simp only [RSh]) k⟩
  · cases e
theorem sum_le {m n : Nat} {a b : Nat} (h : m + n ≤ 16777216) (e1 : m = a) (e2 : n = b) : a + b ≤ sizeLine := by rw [szL]; omega
theorem o_add : OpR X (binaryOp .Add) (rF2 X.K bAdd) := by
  intro pins s σ H x y v u Q I r1 r2 h
  obtain ⟨Z, a, b, d, p1, p2, e, k⟩ := h
  unfold bAdd at e
  split at e
  · rename_i i j
    cases e
    rw [p1.int] at r1
    rw [p2.int] at r2
    exact op_add pins s σ H _ _ v u Q I r1 r2 ⟨i, j, rfl, rfl, fin0 (by simp only [RSh]) k⟩
  · rename_i i j
    split at e
    · rename_i hl
      cases e
      rw [p1.str] at r1
      rw [p2.str] at r2
      exact op_add_str pins s σ H _ _ v u Q I r1 r2 ⟨i, j, rfl, rfl, by rw [szL]; exact hl, fin0 (by simp only [RSh]) k⟩
    · cases e
  · rename_i l m
    split at e
    · rename_i hl
      cases e
      obtain ⟨a, xs, rfl, s1, l1⟩ := p1.tup
      obtain ⟨b, ys, rfl, s2, l2⟩ := p2.tup
      refine op_catA pins s σ H _ _ v u Q I r1 r2 ⟨a, b, xs, ys, rfl, rfl, s1, s2, sum_le hl l1.len l2.len, fun e => ?_, fun e1 e2 => ?_, fun _ _ p hp => finT hp (l1.append l2) k⟩
      · have : l = [] := List.eq_nil_of_length_eq_zero (by rw [l1.len, e]; rfl)
        subst this
        exact fin0 (by simp only [List.nil_append, RSh]; exact ⟨b, ys, rfl, s2, l2⟩) k
      · have : m = [] := List.eq_nil_of_length_eq_zero (by rw [l2.len, e2]; rfl)
        subst this
        exact fin0 (by simp only [List.append_nil, RSh]; exact ⟨a, xs, rfl, s1, l1⟩) k
    · cases e
  · rename_i l m
    split at e
    · rename_i hl
      cases e
      obtain ⟨a, xs, rfl, s1, l1⟩ := p1.lst
      obtain ⟨b, ys, rfl, s2, l2⟩ := p2.lst
      exact op_cat pins s σ H _ _ v u Q I r1 r2 ⟨a, b, xs, ys, rfl, rfl, s1, s2, sum_le hl l1.len l2.len, fun p hp => finL hp (l1.append l2) k⟩
    · cases e
  · cases e
end
/-! x op= y of ints -/
def bAddI : D → D → Option D
  | .int a, .int b => some (.int (a + b))
  | _, _ => none
def bSubI : D → D → Option D
  | .int a, .int b => some (.int (a - b))
  | _, _ => none
section
variable {X : Cx}
theorem pip_add : PIp X .Add (rF2 X.K bAddI) := by
  intro pins s σ H x y v u Q I r1 r2 h
  obtain ⟨Z, a, b, d, p1, p2, e, k⟩ := h
  unfold bAddI at e
  split at e
  · rename_i i j
    cases e
    rw [p1.int] at r1
    rw [p2.int] at r2
    exact ip_add pins s σ H _ _ v u Q I r1 r2 ⟨i, j, rfl, rfl, fin0 (by simp only [RSh]) k⟩
  · cases e
theorem pip_sub : PIp X .Sub (rF2 X.K bSubI) := by
  intro pins s σ H x y v u Q I r1 r2 h
  obtain ⟨Z, a, b, d, p1, p2, e, k⟩ := h
  unfold bSubI at e
  split at e
  · rename_i i j
    cases e
    rw [p1.int] at r1
    rw [p2.int] at r2
    exact ip_sub pins s σ H _ _ v u Q I r1 r2 ⟨i, j, rfl, rfl, fin0 (by simp only [RSh]) k⟩
  · cases e
end
end CL

namespace CL
open PySem PySem.Spec L2
set_option autoImplicit false
/-! ### data as the library tells it -/
mutual
def D.py : D → PyData
  | .non => .none
  | .bl b => .bool b
  | .int i => .int i
  | .str x => .str x
  | .tup l => .tuple (D.pyL l)
  | .lst l => .list (D.pyL l)
  | .scr l => .list (l.map .int)
  | .dct _ _ => .none
  | .ins _ _ _ => .none
def D.pyL : List D → List PyData
  | [] => []
  | d :: ds => D.py d :: D.pyL ds
end
mutual
/-- plain data, at most so deep -/
def D.okB : Nat → D → Bool
  | _, .non => true
  | _, .bl _ => true
  | _, .int _ => true
  | _, .str x => x.cps.all (· < 0x110000)
  | n + 1, .tup l => D.okL n l
  | n + 1, .lst l => D.okL n l
  | _, _ => false
def D.okL : Nat → List D → Bool
  | _, [] => true
  | n, d :: ds => D.okB n d && D.okL n ds
end
section
variable {K : PySem.W.Frag} {Z : Addr → Prop} {H : Hp}
mutual
theorem RSh.dp : ∀ (n : Nat) (d : D) (v : V), D.okB n d = true → RSh K Z H d v → Dp K H v d.py
  | _, .non, v, _, h => by simp only [RSh] at h; subst h; simp only [D.py]; exact .non
  | _, .bl b, v, _, h => by simp only [RSh] at h; subst h; simp only [D.py]; exact .bl b
  | _, .int i, v, _, h => by simp only [RSh] at h; subst h; simp only [D.py]; exact .int i
  | _, .str x, v, _, h => by simp only [RSh] at h; subst h; simp only [D.py]; exact .str x
  | n + 1, .tup l, v, o, h => by
    simp only [D.okB] at o
    simp only [RSh] at h
    obtain ⟨a, xs, rfl, s, r⟩ := h
    simp only [D.py]
    exact .tup s (RShL.dp n l xs o r)
  | n + 1, .lst l, v, o, h => by
    simp only [D.okB] at o
    simp only [RSh] at h
    obtain ⟨a, xs, rfl, z, s, r⟩ := h
    simp only [D.py]
    exact .lst (SqL.of s) (RShL.dp n l xs o r)
  | 0, .tup l, v, o, h => by simp [D.okB] at o
  | 0, .lst l, v, o, h => by simp [D.okB] at o
  | _, .dct _ _, v, o, h => by simp [D.okB] at o
  | _, .ins _ _ _, v, o, h => by simp [D.okB] at o
  | _, .scr _, v, o, h => by simp [D.okB] at o
theorem RShL.dp : ∀ (n : Nat) (l : List D) (xs : List V), D.okL n l = true → RShL K Z H l xs → DpAll K H xs (D.pyL l)
  | _, [], xs, _, h => by simp only [RShL] at h; subst h; simp only [D.pyL]; exact .nil
  | n, d :: ds, xs, o, h => by
    simp only [D.okL, Bool.and_eq_true] at o
    simp only [RShL] at h
    obtain ⟨w, ws, rfl, r1, r2⟩ := h
    simp only [D.pyL]
    exact .cons (RSh.dp n d w o.1 r1) (RShL.dp n ds ws o.2 r2)
end
end
theorem Pk0.dp {K : PySem.W.Frag} {Z : Addr → Prop} {H : Hp} {n : Nat} {d : D} {v : V} (o : D.okB n d = true) (h : Pk0 K Z H d v) : Dp K H v d.py := by
  rcases h with h | ⟨l, a, xs, rfl, rfl, s, r⟩
  · exact RSh.dp n d v o h
  · cases n with
    | zero => simp [D.okB] at o
    | succ n =>
      simp only [D.okB] at o
      simp only [D.py]
      exact .lst (SqL.of s) (RShL.dp n l xs o r)
mutual
theorem ok_lay : ∀ (n : Nat) (d : D), D.okB n d = true → d.py.canLay0 = true ∧ d.py.depth ≤ n
  | _, .non, _ => by simp only [D.py, PyData.canLay0, PyData.depth]; exact ⟨trivial, Nat.zero_le _⟩
  | _, .bl _, _ => by simp only [D.py, PyData.canLay0, PyData.depth]; exact ⟨trivial, Nat.zero_le _⟩
  | _, .int _, _ => by simp only [D.py, PyData.canLay0, PyData.depth]; exact ⟨trivial, Nat.zero_le _⟩
  | _, .str x, o => by
    simp only [D.okB] at o
    simp only [D.py, PyData.canLay0, PyData.depth]
    exact ⟨o, Nat.zero_le _⟩
  | n + 1, .tup l, o => by
    simp only [D.okB] at o
    simp only [D.py, PyData.canLay0, PyData.depth]
    obtain ⟨a, b⟩ := ok_layL n l o
    exact ⟨a, by omega⟩
  | n + 1, .lst l, o => by
    simp only [D.okB] at o
    simp only [D.py, PyData.canLay0, PyData.depth]
    obtain ⟨a, b⟩ := ok_layL n l o
    exact ⟨a, by omega⟩
  | 0, .tup l, o => by simp [D.okB] at o
  | 0, .lst l, o => by simp [D.okB] at o
  | _, .dct _ _, o => by simp [D.okB] at o
  | _, .ins _ _ _, o => by simp [D.okB] at o
  | _, .scr _, o => by simp [D.okB] at o
theorem ok_layL : ∀ (n : Nat) (l : List D), D.okL n l = true → PyData.canLayAll0 (D.pyL l) = true ∧ PyData.depthAll (D.pyL l) ≤ n
  | _, [], _ => by simp only [D.pyL, PyData.canLayAll0, PyData.depthAll]; exact ⟨trivial, Nat.zero_le _⟩
  | n, d :: ds, o => by
    simp only [D.okL, Bool.and_eq_true] at o
    obtain ⟨a, b⟩ := ok_lay n d o.1
    obtain ⟨c, e⟩ := ok_layL n ds o.2
    simp only [D.pyL, PyData.canLayAll0, PyData.depthAll, a, c, Bool.and_self]
    exact ⟨trivial, by omega⟩
end
theorem ok_shaped {d : D} (h : D.okB 60 d = true) : SeqAt.shaped d.py = true := by
  obtain ⟨a, b⟩ := ok_lay 60 d h
  unfold SeqAt.shaped
  rw [a, Bool.true_and]
  exact decide_eq_true (by omega)
def D.eqv (a b : D) : Bool := PyData.eqv a.py b.py
def bEq : D → D → Option D
  | .str a, .str b => some (.bl (decide (a = b)))
  | .lst l, .lst [] => some (.bl (l.isEmpty))
  | .tup l, .tup [] => some (.bl (l.isEmpty))
  | a, b => if D.okB 60 a = true ∧ D.okB 60 b = true then some (.bl (a.eqv b)) else none
def bNe : D → D → Option D
  | .str a, .str b => some (.bl (!decide (a = b)))
  | .lst l, .lst [] => some (.bl (!l.isEmpty))
  | .tup l, .tup [] => some (.bl (!l.isEmpty))
  | a, b => if D.okB 60 a = true ∧ D.okB 60 b = true then some (.bl (!a.eqv b)) else none
theorem dec_strD (i j : Str) : decide (V.str i = V.str j) = decide (i = j) := by simp
def D.isNon : D → Bool
  | .non => true
  | _ => false
def bIsN (a b : D) : Option D := match b with | .non => some (.bl a.isNon) | _ => none
def bNotN (a b : D) : Option D := match b with | .non => some (.bl (!a.isNon)) | _ => none
section
variable {X : Cx}
theorem o_eq (hu : X.A.units + 64 < cLine) : OpR X (compareOp .Eq) (rF2 X.K bEq) := by
  intro pins s σ H x y v u Q I r1 r2 h
  obtain ⟨Z, a, b, d, p1, p2, e, k⟩ := h
  unfold bEq at e
  split at e
  · cases e
    rw [p1.str] at r1
    rw [p2.str] at r2
    exact op_eq pins s σ H _ _ v u Q I r1 r2 ⟨rfl, fin0 (by simp only [RSh, dec_strD]) k⟩
  · rename_i l
    cases e
    cases l with
    | nil => exact op_eqD hu pins s σ H _ _ v u Q I r1 r2 ⟨D.py (.lst []), D.py (.lst []), p1.dp (n := 60) rfl, p2.dp (n := 60) rfl, ok_shaped rfl, ok_shaped rfl, fin0 (d := .bl true) (by simp only [RSh]; rfl) k⟩
    | cons z l =>
      obtain ⟨a1, xs, rfl, s1, l1⟩ := p1.lst
      obtain ⟨a2, ys, rfl, s2, l2⟩ := p2.lst
      cases r1
      cases r2
      obtain ⟨i1, e1, t1, _⟩ := I.list (SqL.of s1)
      obtain ⟨i2, e2, t2, _⟩ := I.list (SqL.of s2)
      have n1 := l1.len
      have n2 := l2.len
      have m1 := e1.length
      have m2 := e2.length
      simp at n1 n2
      exact SeqAt.RcAt.lists_lengths t1.isList t2.isList (by simp; omega) (by omega) _ _ _ _ ⟨.bl false, H, I, rfl, fin0 (d := .bl false) (by simp only [RSh]) k⟩
  · rename_i l
    cases e
    obtain ⟨a1, xs, rfl, s1, l1⟩ := p1.tup
    obtain ⟨a2, ys, rfl, s2, l2⟩ := p2.tup
    cases r1
    cases r2
    obtain ⟨i1, e1, t1, _⟩ := I.tuple s1
    obtain ⟨i2, e2, t2, _⟩ := I.tuple s2
    have n1 := l1.len
    have n2 := l2.len
    have m1 := e1.length
    have m2 := e2.length
    simp at n2
    have z2 : i2 = [] := List.eq_nil_of_length_eq_zero (by omega)
    subst z2
    refine SeqAt.RcAt.tuples (e := fun _ => true) t1 t2 (by omega) (fun j h1 h2 => by simp at h2) _ _ _ _ ⟨.bl (l.isEmpty), H, I, ?_, fin0 (by simp only [RSh]) k⟩
    have : l.isEmpty = (i1.toArray.size == 0) := by
      cases l with
      | nil => have : i1 = [] := List.eq_nil_of_length_eq_zero (by simp at n1; omega)
               subst this; rfl
      | cons z l => cases i1 with
        | nil => simp at m1; subst m1; simp at n1
        | cons _ _ => simp
    rw [this]
    simp [RelV]
  · split at e
    · rename_i ho
      cases e
      exact op_eqD hu pins s σ H _ _ v u Q I r1 r2 ⟨a.py, b.py, p1.dp ho.1, p2.dp ho.2, ok_shaped ho.1, ok_shaped ho.2, fin0 (by simp only [RSh, D.eqv]) k⟩
    · cases e
theorem o_ne (hu : X.A.units + 64 < cLine) : OpR X (compareOp .NotEq) (rF2 X.K bNe) := by
  intro pins s σ H x y v u Q I r1 r2 h
  obtain ⟨Z, a, b, d, p1, p2, e, k⟩ := h
  unfold bNe at e
  split at e
  · cases e
    rw [p1.str] at r1
    rw [p2.str] at r2
    exact op_ne pins s σ H _ _ v u Q I r1 r2 ⟨rfl, fin0 (by simp only [RSh, dec_strD]) k⟩
  · rename_i l
    cases e
    cases l with
    | nil => exact op_neD hu pins s σ H _ _ v u Q I r1 r2 ⟨D.py (.lst []), D.py (.lst []), p1.dp (n := 60) rfl, p2.dp (n := 60) rfl, ok_shaped rfl, ok_shaped rfl, fin0 (d := .bl false) (by simp only [RSh]; rfl) k⟩
    | cons z l =>
      obtain ⟨a1, xs, rfl, s1, l1⟩ := p1.lst
      obtain ⟨a2, ys, rfl, s2, l2⟩ := p2.lst
      cases r1
      cases r2
      obtain ⟨i1, e1, t1, _⟩ := I.list (SqL.of s1)
      obtain ⟨i2, e2, t2, _⟩ := I.list (SqL.of s2)
      have n1 := l1.len
      have n2 := l2.len
      have m1 := e1.length
      have m2 := e2.length
      simp at n1 n2
      exact SeqAt.RcNeAt.lists_lengths t1.isList t2.isList (by simp; omega) (by omega) _ _ _ _ ⟨.bl true, H, I, rfl, fin0 (d := .bl true) (by simp only [RSh]) k⟩
  · rename_i l
    cases e
    obtain ⟨a1, xs, rfl, s1, l1⟩ := p1.tup
    obtain ⟨a2, ys, rfl, s2, l2⟩ := p2.tup
    cases r1
    cases r2
    obtain ⟨i1, e1, t1, _⟩ := I.tuple s1
    obtain ⟨i2, e2, t2, _⟩ := I.tuple s2
    have n1 := l1.len
    have n2 := l2.len
    have m1 := e1.length
    have m2 := e2.length
    simp at n2
    have z2 : i2 = [] := List.eq_nil_of_length_eq_zero (by omega)
    subst z2
    refine SeqAt.RcNeAt.tuples (e := fun _ => true) t1 t2 (by omega) (fun j h1 h2 => by simp at h2) _ _ _ _ ⟨.bl (!l.isEmpty), H, I, ?_, fin0 (by simp only [RSh]) k⟩
    have : l.isEmpty = (i1.toArray.size == 0) := by
      cases l with
      | nil => have : i1 = [] := List.eq_nil_of_length_eq_zero (by simp at n1; omega)
               subst this; rfl
      | cons z l => cases i1 with
        | nil => simp at m1; subst m1; simp at n1
        | cons _ _ => simp
    rw [this]
    simp [RelV]
  · split at e
    · rename_i ho
      cases e
      exact op_neD hu pins s σ H _ _ v u Q I r1 r2 ⟨a.py, b.py, p1.dp ho.1, p2.dp ho.2, ok_shaped ho.1, ok_shaped ho.2, fin0 (by simp only [RSh, D.eqv]) k⟩
    · cases e
theorem Pk0.notnon {K : PySem.W.Frag} {Z : Addr → Prop} {H : Hp} {d : D} {v : V} (h : Pk0 K Z H d v) : decide (v = .non) = d.isNon := by
  cases d with
  | non => rw [h.non]; rfl
  | bl b => rw [h.bl]; rfl
  | int b => rw [h.int]; rfl
  | str b => rw [h.str]; rfl
  | tup b => obtain ⟨a, xs, rfl, _⟩ := h.tup; rfl
  | lst b => obtain ⟨a, xs, rfl, _⟩ := h.lst; rfl
  | scr b => obtain ⟨a, rfl, _⟩ := h.scr; rfl
  | dct _ _ => rcases h with h | ⟨_, _, _, e, _⟩; (simp only [RSh] at h; obtain ⟨a, _, rfl, _⟩ := h; simp [D.isNon]); cases e
  | ins _ _ _ => rcases h with h | ⟨_, _, _, e, _⟩; (simp only [RSh] at h; obtain ⟨_, a, _, _, rfl, _⟩ := h; simp [D.isNon]); cases e
theorem o_is : OpR X (compareOp .Is) (rF2 X.K bIsN) := by
  intro pins s σ H x y v u Q I r1 r2 h
  obtain ⟨Z, a, b, d, p1, p2, e, k⟩ := h
  unfold bIsN at e
  split at e
  · cases e
    exact op_isN pins s σ H _ _ v u Q I r1 r2 ⟨p2.non, fin0 (by simp only [RSh]; rw [p1.notnon]) k⟩
  · cases e
theorem o_isnt : OpR X (compareOp .IsNot) (rF2 X.K bNotN) := by
  intro pins s σ H x y v u Q I r1 r2 h
  obtain ⟨Z, a, b, d, p1, p2, e, k⟩ := h
  unfold bNotN at e
  split at e
  · cases e
    refine op_notN pins s σ H _ _ v u Q I r1 r2 ⟨p2.non, fin0 (by simp only [RSh]; rw [p1.notnon]) k⟩
  · cases e
end
/-! ### places, parts -/
def bIx : D → D → Option D
  | .tup l, .int i => atI l i
  | .lst l, .int i => atI l i
  | .scr l, .int i => (atI l i).map .int
  | .str z, .int i => if z.length ≤ 16777216 then (atI z.cps.toList i).map fun c => .str ⟨#[c]⟩ else none
  | _, _ => none
theorem atI_rel {K : PySem.W.Frag} {Z : Addr → Prop} {H : Hp} {l : List D} {xs : List V} {i : Int} {d : D} (r : RShL K Z H l xs) (h : atI l i = some d) : ∃ v, atI xs i = some v ∧ RSh K Z H d v := by
  unfold atI at h ⊢
  obtain ⟨j, h1, h2⟩ := Option.bind_eq_some_iff.mp h
  obtain ⟨v, h3, h4⟩ := r.get h2
  rw [r.len] at h1
  exact ⟨v, by rw [h1]; exact h3, h4⟩
section
variable {X : Cx}
theorem x_ix : IxR X (rF2 X.K bIx) := by
  intro val sli pins s σ H x y v u Q I r1 r2 h hsu
  obtain ⟨Z, a, b, d, p1, p2, e, k⟩ := h
  unfold bIx at e
  split at e
  · rename_i l i
    rw [p2.int] at r2
    obtain ⟨a, xs, rfl, s1, l1⟩ := p1.tup
    obtain ⟨w, h1, h2⟩ := atI_rel l1 e
    exact ix_tup val sli pins s σ H _ _ v u Q I r1 r2 ⟨a, xs, i, w, rfl, rfl, s1, h1, fin0 h2 k⟩ hsu
  · rename_i l i
    rw [p2.int] at r2
    obtain ⟨a, xs, rfl, s1, l1⟩ := p1.lst
    obtain ⟨w, h1, h2⟩ := atI_rel l1 e
    exact ix_list val sli pins s σ H _ _ v u Q I r1 r2 ⟨a, xs, i, w, rfl, rfl, SqL.of s1, h1, fin0 h2 k⟩ hsu
  · rename_i l i
    rw [p2.int] at r2
    obtain ⟨a, rfl, s1⟩ := p1.scr
    obtain ⟨z, h1, rfl⟩ := Option.map_eq_some_iff.mp e
    refine ix_list val sli pins s σ H _ _ v u Q I r1 r2 ⟨a, _, i, .int z, rfl, rfl, s1, ?_, fin0 (by simp only [RSh]) k⟩ hsu
    unfold atI at h1 ⊢
    obtain ⟨j, h3, h4⟩ := Option.bind_eq_some_iff.mp h1
    rw [List.length_map, h3]
    show (l.map V.int)[j]? = _
    rw [List.getElem?_map, h4]; rfl
  · rename_i z i
    split at e
    · rename_i hz
      rw [p2.int] at r2
      rw [p1.str] at r1
      obtain ⟨c, h1, rfl⟩ := Option.map_eq_some_iff.mp e
      exact ix_str val sli pins s σ H _ _ v u Q I r1 r2 ⟨z, i, c, rfl, rfl, by rw [szL]; exact hz, h1, fin0 (by simp only [RSh]) k⟩ hsu
    · cases e
  · cases e
end
def cutD {α : Type} (xs : List α) (lo hi : Option Int) : List α := (xs.drop (HT.sIx xs.length 0 lo)).take (HT.sIx xs.length xs.length hi - HT.sIx xs.length 0 lo)
def bSl : D → Option Int → Option Int → Option D
  | .tup l, lo, hi => some (.tup (cutD l lo hi))
  | .lst l, lo, hi => some (.lst (cutD l lo hi))
  | .scr l, lo, hi => some (.lst ((cutD l lo hi).map .int))
  | .str z, lo, hi => if z.length ≤ 16777216 then some (.str (cutS z lo hi)) else none
  | _, _, _ => none
theorem cut_rel {K : PySem.W.Frag} {Z : Addr → Prop} {H : Hp} {l : List D} {xs : List V} {lo hi : Option Int} (r : RShL K Z H l xs) : RShL K Z H (cutD l lo hi) (cutV xs lo hi) := by
  unfold cutD cutV
  rw [r.len]
  exact (r.drop _).take _
def rFs (K : PySem.W.Frag) : V → Option Int → Option Int → Hp → VK → Prop := fun x lo hi H Q => ∃ Z a d, Pk0 K Z H a x ∧ bSl a lo hi = some d ∧ ∀ v H' S, Grow H H' → RF K Z H' d v S → NewS H H' S → Q v H'
theorem x_sl {X : Cx} : SlR X (rFs X.K) := by
  intro pins s σ H x v vl vu lo hi sl Q I rx hs pl pu h
  obtain ⟨Z, a, d, p1, e, k⟩ := h
  unfold bSl at e
  split at e
  · rename_i l
    cases e
    obtain ⟨a, xs, rfl, s1, l1⟩ := p1.tup
    refine sl_tupA pins s σ H _ v vl vu lo hi sl Q I rx hs pl pu ⟨a, xs, rfl, s1, fun h => ?_, fun _ p hp => finT hp (cut_rel l1) k⟩
    refine fin0 ?_ k
    simp only [RSh]
    refine ⟨a, xs, rfl, s1, ?_⟩
    have : cutD l lo hi = l := by
      unfold cutD
      rw [l1.len, h.1, h.2]
      simp [← l1.len]
    rw [this]; exact l1
  · rename_i l
    cases e
    obtain ⟨a, xs, rfl, s1, l1⟩ := p1.lst
    exact sl_list pins s σ H _ v vl vu lo hi sl Q I rx hs pl pu ⟨a, xs, rfl, SqL.of s1, fun p hp => finL hp (cut_rel l1) k⟩
  · rename_i l
    cases e
    obtain ⟨a, rfl, s1⟩ := p1.scr
    refine sl_list pins s σ H _ v vl vu lo hi sl Q I rx hs pl pu ⟨a, _, rfl, s1, fun p hp => finL hp ?_ k⟩
    have := cut_rel (lo := lo) (hi := hi) (ints_rel (K := X.K) (Z := Z) (H := H) l)
    have e : cutD (l.map D.int) lo hi = (cutD l lo hi).map D.int := by
      unfold cutD
      simp [List.map_take, List.map_drop]
    rwa [e] at this
  · rename_i z
    split at e
    · rename_i hz
      cases e
      rw [p1.str] at rx
      exact sl_str pins s σ H _ v vl vu lo hi sl Q I rx hs pl pu ⟨z, rfl, by rw [szL]; exact hz, fin0 (by simp only [RSh]) k⟩
    · cases e
  · cases e
/-- a slice's part -/
def mPt : Option (M D) → M (Option Int)
  | none => fun ρ => .ok (none, ρ)
  | some m => bind m fun d => fun ρ => match d with | .int i => .ok (some i, ρ) | _ => .bad
def mSl (a : M D) (lo hi : Option (M D)) : M D := bind a fun x => bind (mPt lo) fun l => bind (mPt hi) fun h => ofO (bSl x l h)
def tPo (K : PySem.W.Frag) (τ : Nat → OT) (m : Option (M D)) : TO := fun σ H Q => ∃ Z own ρ o ρ', RS K τ Z own H ρ σ ∧ mPt m ρ = .ok (o, ρ') ∧ ∀ Z' own' H', RS K τ Z' own' H' ρ' σ → Ext true Z own H Z' own' H' → Q o H'
theorem _root_.L2.PO.mono {X : Cx} {e : Option Expr} {t t' : TO} (h : PO X e t) (f : ∀ σ H Q, t' σ H Q → t σ H Q) : PO X e t' := ⟨fun pins s σ H Q I hw => h.run pins s σ H Q I (f σ H Q hw)⟩
section
variable {X : Cx} {τ : Nat → OT} {q : Bool} {md : Md} {e : Expr} {lo hi : Option Expr} {ma : M D} {ml mh : Option (M D)} {pos p2 : Pos}
theorem po_n : PO X none (tPo X.K τ none) := po_none.mono fun σ H Q ⟨Z, own, ρ, o, ρ', rs, e, k⟩ => by
  have e : Res.ok (none, ρ) = .ok (o, ρ') := e
  cases e
  exact k Z own H rs ExtF.refl
theorem po_s (h : PE X e (tE X.K τ true .sh ma)) : PO X (some e) (tPo X.K τ (some ma)) := (po_some h).mono fun σ H Q ⟨Z, own, ρ, o, ρ', rs, e, k⟩ => by
  obtain ⟨d, ρ1, e1, f1⟩ := bind_ok e
  split at f1
  · rename_i i
    cases f1
    exact ⟨Z, own, ρ, _, ρ', rs, e1, fun v Z1 own1 H1 S rs1 rm n x1 => ⟨i, by simpa only [Rm, R, RSh] using rm, k Z1 own1 H1 rs1 x1⟩⟩
  · cases f1
theorem e_sl (he : PE X e (tE X.K τ q md ma)) (hl : PO X lo (tPo X.K τ ml)) (hh : PO X hi (tPo X.K τ mh)) (hm : Hand md := by trivial) : PE X (.Subscript e (.Slice lo hi none p2) pos) (tE X.K τ q .sh (mSl ma ml mh)) := (pe_slice x_sl he hl hh).mono fun σ H Q ⟨Z, own, ρ, d, ρ', rs, e, k⟩ => by
  obtain ⟨x, ρ1, e1, f1⟩ := bind_ok e
  obtain ⟨l, ρ2, e2, f2⟩ := bind_ok f1
  obtain ⟨h, ρ3, e3, f3⟩ := bind_ok f2
  obtain ⟨f4, rfl⟩ := ofO_ok f3
  refine ⟨Z, own, ρ, x, ρ1, rs, e1, fun v Z1 own1 H1 S1 rs1 rm1 _ x1 => ⟨Z1, own1, ρ1, l, ρ2, rs1, e2, fun Z2 own2 H2 rs2 x2 => ⟨Z2, own2, ρ2, h, ρ', rs2, e3, fun Z3 own3 H3 rs3 x3 => ?_⟩⟩⟩
  have x23 : ExtF fxT true Z1 own1 H1 Z3 own3 H3 := x2.trans x3
  exact ⟨Z3, x, d, rs1.pk0 x23 hm (.inr rfl) rm1, f4, fun u H4 S g r n => fin_sh rs3 (x1.trans' (fun z => ⟨z, rfl⟩) x23) g r n k⟩
/-- xs[::-1] of a list -/
def bRev : D → Option D
  | .lst l => some (.lst l.reverse)
  | _ => none
theorem e_revO {k1 : Nat} {p1 p3 : Pos} (he : PE X e (tE X.K τ q md ma)) (hm : Hand md := by trivial) : PE X (.Subscript e (.Slice none none (some (.UnaryOp .USub (.Constant (.int 1) k1 p1) p2)) p3) pos) (tE X.K τ q (.ow (.ol .sh .sh)) (m1 bRev ma)) := (pe_revL he).mono fun σ H Q ⟨Z, own, ρ, d, ρ', rs, e, k⟩ => by
  obtain ⟨x, ρ1, e1, f1⟩ := bind_ok e
  obtain ⟨f2, rfl⟩ := ofO_ok f1
  unfold bRev at f2
  split at f2
  · rename_i l
    cases f2
    refine ⟨Z, own, ρ, _, ρ', rs, e1, fun v Z1 own1 H1 S1 rs1 rm1 _ x1 => ?_⟩
    obtain ⟨a, xs, rfl, s1, l1⟩ := (rm1.pk0 hm).lst
    exact ⟨a, xs, rfl, SqL.of s1, fun p hp => fin_ol rs1 x1 hp ((Grow.new hp).shL l1.reverse) k⟩
  · cases f2
end
end CL

namespace CL
open PySem PySem.Spec L2
set_option autoImplicit false
/-! ### built-in functions -/
def bLen : List D → Option D
  | [.tup l] => some (.int l.length)
  | [.lst l] => some (.int l.length)
  | [.scr l] => some (.int l.length)
  | [.str z] => if z.length ≤ 16777216 then some (.int z.length) else none
  | _ => none
def bAbs : List D → Option D
  | [.int i] => some (.int (if i < 0 then -i else i))
  | _ => none
def bMax2 : List D → Option D
  | [.int i, .int j] => some (.int (if j > i then j else i))
  | _ => none
def bMin2 : List D → Option D
  | [.int i, .int j] => some (.int (if j < i then j else i))
  | _ => none
def bInt : List D → Option D
  | [.int i] => some (.int i)
  | [.bl b] => some (.int (if b then 1 else 0))
  | _ => none
def intsOf : List D → Option (List Int)
  | [] => some []
  | .int i :: r => (intsOf r).map (i :: ·)
  | _ => none
def blsOf : List D → Option (List Bool)
  | [] => some []
  | .bl i :: r => (blsOf r).map (i :: ·)
  | _ => none
def bSum : List D → Option D
  | [.lst l] => (intsOf l).map fun ns => .int ns.sum
  | _ => none
def bAll : List D → Option D
  | [.lst l] => (blsOf l).map fun bs => .bl (bs.all id)
  | _ => none
def bAny : List D → Option D
  | [.lst l] => (blsOf l).map fun bs => .bl (bs.any id)
  | _ => none
def bTuple : List D → Option D
  | [.lst l] => some (.tup l)
  | [.tup l] => some (.tup l)
  | _ => none
/-- the items of list(x) -/
def listOfD : List D → Option (List D)
  | [.lst l] => some l
  | [.tup l] => some l
  | [.scr l] => some (l.map .int)
  | _ => none
def bigR : Nat := 2 ^ 1900
mutual
/-- ints that may be shown -/
def D.shB : D → Bool
  | .int i => decide (i.natAbs < bigR)
  | .tup l => D.shL l
  | .lst l => D.shL l
  | _ => true
def D.shL : List D → Bool
  | [] => true
  | d :: ds => D.shB d && D.shL ds
end
mutual
/-- how much there is of it -/
def D.wt : D → Nat
  | .str x => 1 + (reprText x).length
  | .tup l => 1 + D.wtL l
  | .lst l => 1 + D.wtL l
  | _ => 1
def D.wtL : List D → Nat
  | [] => 0
  | d :: ds => D.wt d + D.wtL ds
end
/-- the text of repr -/
def D.shown (d : D) : Str := d.py.shown
def bRepr : List D → Option D
  | [d] => if D.okB 60 d = true ∧ D.shB d = true ∧ D.wt d ≤ 8000 then some (.str d.shown) else none
  | _ => none
theorem slen (a b : Str) : (a ++ b).length = a.length + b.length := strLen_append a b
theorem textFrom_le : ∀ (ts : List Str) (k : Nat) (acc : Str), (textFrom k acc ts).length ≤ acc.length + piled ts
  | [], k, acc => by show acc.length ≤ _; omega
  | t :: r, k, acc => by
    have h := textFrom_le r (k + 1) (acc ++ (if k > 0 then ", " else "" : String) ++ t)
    have e : (acc ++ (if k > 0 then ", " else "" : String) ++ t).length ≤ acc.length + 2 + t.length := by
      rw [slen, slen]
      split
      · have : ((", " : String) : Str).length = 2 := rfl
        omega
      · have : (("" : String) : Str).length = 0 := rfl
        omega
    have e2 : piled (t :: r) = t.length + 2 + piled r := by simp [piled]
    have e3 : textFrom k acc (t :: r) = textFrom (k + 1) (acc ++ (if k > 0 then ", " else "" : String) ++ t) r := rfl
    rw [e2, e3]
    omega
theorem bigR_log {a : Int} (h : a.natAbs < bigR) : a.natAbs.log2 < 1920 := by
  by_cases z : a.natAbs = 0
  · rw [z]; decide
  · exact Nat.lt_trans ((Nat.log2_lt z).mpr h) (by decide)
mutual
theorem shown_le : ∀ (n : Nat) (d : D), D.okB n d = true → D.shB d = true → d.py.showable = true ∧ d.py.shown.length + 2 ≤ 2000 * D.wt d
  | _, .non, _, _ => by simp only [D.py, PyData.showable, PyData.shown, D.wt]; exact ⟨trivial, by decide⟩
  | _, .bl b, _, _ => by simp only [D.py, PyData.showable, PyData.shown, D.wt]; exact ⟨trivial, by cases b <;> decide⟩
  | _, .int i, _, h => by
    simp only [D.shB, decide_eq_true_eq] at h
    have h := bigR_log h
    simp only [D.py, PyData.showable, PyData.shown, D.wt]
    have e := PyProof.Rows.int_text_len_1921 h
    exact ⟨decide_eq_true h, by omega⟩
  | _, .str x, _, _ => by simp only [D.py, PyData.showable, PyData.shown, D.wt]; exact ⟨trivial, by omega⟩
  | n + 1, .tup l, o, h => by
    simp only [D.okB] at o
    simp only [D.shB] at h
    obtain ⟨a, b⟩ := shown_leL n l o h
    simp only [D.py, PyData.showable, PyData.shown, D.wt]
    refine ⟨a, ?_⟩
    have e1 : ((if (PyData.shownAll (D.pyL l)).length == 1 then ",)" else ")" : String) : Str).length ≤ 2 := by
      split
      · exact Nat.le_of_eq rfl
      · exact Nat.le_succ_of_le (Nat.le_of_eq rfl)
    have e3 : (("(" : String) : Str).length = 1 := rfl
    unfold tupleText
    rw [slen, slen]
    by_cases hl : PyData.shownAll (D.pyL l) = []
    · rw [hl] at e1 ⊢
      have : (Str.join ", " []).length = 0 := rfl
      omega
    · have e2 := join_length_add _ hl
      omega
  | n + 1, .lst l, o, h => by
    simp only [D.okB] at o
    simp only [D.shB] at h
    obtain ⟨a, b⟩ := shown_leL n l o h
    simp only [D.py, PyData.showable, PyData.shown, D.wt]
    refine ⟨a, ?_⟩
    unfold listText
    rw [slen]
    have e := textFrom_le (PyData.shownAll (D.pyL l)) 0 "["
    have e1 : (("[" : String) : Str).length = 1 := rfl
    have e2 : (("]" : String) : Str).length = 1 := rfl
    omega
  | 0, .tup l, o, _ => by simp [D.okB] at o
  | 0, .lst l, o, _ => by simp [D.okB] at o
  | _, .dct _ _, o, _ => by simp [D.okB] at o
  | _, .ins _ _ _, o, _ => by simp [D.okB] at o
  | _, .scr _, o, _ => by simp [D.okB] at o
theorem shown_leL : ∀ (n : Nat) (l : List D), D.okL n l = true → D.shL l = true → PyData.showableAll (D.pyL l) = true ∧ piled (PyData.shownAll (D.pyL l)) ≤ 2000 * D.wtL l
  | _, [], _, _ => by simp only [D.pyL, PyData.showableAll, PyData.shownAll, D.wtL]; exact ⟨trivial, by simp [piled]⟩
  | n, d :: ds, o, h => by
    simp only [D.okL, Bool.and_eq_true] at o
    simp only [D.shL, Bool.and_eq_true] at h
    obtain ⟨a, b⟩ := shown_le n d o.1 h.1
    obtain ⟨c, e⟩ := shown_leL n ds o.2 h.2
    simp only [D.pyL, PyData.showableAll, PyData.shownAll, D.wtL, a, c, Bool.and_self]
    have e2 : piled (d.py.shown :: PyData.shownAll (D.pyL ds)) = d.py.shown.length + 2 + piled (PyData.shownAll (D.pyL ds)) := by simp [piled]
    exact ⟨trivial, by rw [e2]; omega⟩
end
section
variable {K : PySem.W.Frag} {Z : Addr → Prop} {H : Hp}
theorem ints_of : ∀ {l : List D} {ns : List Int} {xs : List V}, intsOf l = some ns → RShL K Z H l xs → xs = ns.map V.int
  | [], ns, xs, e, r => by simp only [intsOf] at e; cases e; simpa only [RShL, List.map_nil] using r
  | .int i :: l, ns, xs, e, r => by
    simp only [intsOf] at e
    obtain ⟨m, hm, rfl⟩ := Option.map_eq_some_iff.mp e
    simp only [RShL] at r
    obtain ⟨w, ws, rfl, r1, r2⟩ := r
    simp only [RSh] at r1
    rw [r1, ints_of hm r2]; rfl
  | .non :: _, _, _, e, _ => by simp [intsOf] at e
  | .bl _ :: _, _, _, e, _ => by simp [intsOf] at e
  | .str _ :: _, _, _, e, _ => by simp [intsOf] at e
  | .tup _ :: _, _, _, e, _ => by simp [intsOf] at e
  | .lst _ :: _, _, _, e, _ => by simp [intsOf] at e
  | .scr _ :: _, _, _, e, _ => by simp [intsOf] at e
  | .dct _ _ :: _, _, _, e, _ => by simp [intsOf] at e
  | .ins _ _ _ :: _, _, _, e, _ => by simp [intsOf] at e
theorem bls_of : ∀ {l : List D} {ns : List Bool} {xs : List V}, blsOf l = some ns → RShL K Z H l xs → xs = ns.map V.bl
  | [], ns, xs, e, r => by simp only [blsOf] at e; cases e; simpa only [RShL, List.map_nil] using r
  | .bl i :: l, ns, xs, e, r => by
    simp only [blsOf] at e
    obtain ⟨m, hm, rfl⟩ := Option.map_eq_some_iff.mp e
    simp only [RShL] at r
    obtain ⟨w, ws, rfl, r1, r2⟩ := r
    simp only [RSh] at r1
    rw [r1, bls_of hm r2]; rfl
  | .non :: _, _, _, e, _ => by simp [blsOf] at e
  | .int _ :: _, _, _, e, _ => by simp [blsOf] at e
  | .str _ :: _, _, _, e, _ => by simp [blsOf] at e
  | .tup _ :: _, _, _, e, _ => by simp [blsOf] at e
  | .lst _ :: _, _, _, e, _ => by simp [blsOf] at e
  | .scr _ :: _, _, _, e, _ => by simp [blsOf] at e
  | .dct _ _ :: _, _, _, e, _ => by simp [blsOf] at e
  | .ins _ _ _ :: _, _, _, e, _ => by simp [blsOf] at e
theorem Pk0L.one {d : D} {vs : List V} (h : Pk0L K Z H [d] vs) : ∃ v, vs = [v] ∧ Pk0 K Z H d v := by
  obtain ⟨w, ws, rfl, h1, h2⟩ := h
  have h2 : ws = [] := h2
  subst h2
  exact ⟨w, rfl, h1⟩
theorem Pk0L.two {d e : D} {vs : List V} (h : Pk0L K Z H [d, e] vs) : ∃ v w, vs = [v, w] ∧ Pk0 K Z H d v ∧ Pk0 K Z H e w := by
  obtain ⟨w, ws, rfl, h1, h2⟩ := h
  obtain ⟨u, rfl, h3⟩ := Pk0L.one h2
  exact ⟨w, u, rfl, h1, h3⟩
end
section
variable {X : Cx}
theorem c_len : CallR X (.builtin "len") (rFn X.K bLen) := by
  intro pins s σ H xs us Q I r h
  obtain ⟨Z, ds, d, pl, e, k⟩ := h
  unfold bLen at e
  split at e
  · rename_i l
    cases e
    obtain ⟨v, rfl, p⟩ := pl.one
    obtain ⟨a, ys, rfl, s1, l1⟩ := p.tup
    exact call_len_seq pins s σ H _ us Q I r ⟨a, ys, rfl, .inr s1, fin0 (by simp only [RSh]; rw [l1.len]) k⟩
  · rename_i l
    cases e
    obtain ⟨v, rfl, p⟩ := pl.one
    obtain ⟨a, ys, rfl, s1, l1⟩ := p.lst
    exact call_len_seq pins s σ H _ us Q I r ⟨a, ys, rfl, .inl (SqL.of s1), fin0 (by simp only [RSh]; rw [l1.len]) k⟩
  · rename_i l
    cases e
    obtain ⟨v, rfl, p⟩ := pl.one
    obtain ⟨a, rfl, s1⟩ := p.scr
    exact call_len_seq pins s σ H _ us Q I r ⟨a, _, rfl, .inl s1, fin0 (by simp only [RSh]; rw [List.length_map]) k⟩
  · rename_i z
    split at e
    · rename_i hz
      cases e
      obtain ⟨v, rfl, p⟩ := pl.one
      rw [p.str] at r
      exact call_len_str pins s σ H _ us Q I r ⟨z, rfl, by rw [szL]; exact hz, fin0 (by simp only [RSh]) k⟩
    · cases e
  · cases e
theorem c_abs : CallR X (.builtin "abs") (rFn X.K bAbs) := by
  intro pins s σ H xs us Q I r h
  obtain ⟨Z, ds, d, pl, e, k⟩ := h
  unfold bAbs at e
  split at e
  · rename_i i
    cases e
    obtain ⟨v, rfl, p⟩ := pl.one
    rw [p.int] at r
    exact call_abs pins s σ H _ us Q I r ⟨i, rfl, fin0 (by simp only [RSh]) k⟩
  · cases e
theorem c_max2 (hc : X.calm = true) : CallR X (.builtin "max") (rFn X.K bMax2) := by
  intro pins s σ H xs us Q I r h
  obtain ⟨Z, ds, d, pl, e, k⟩ := h
  unfold bMax2 at e
  split at e
  · rename_i i j
    cases e
    obtain ⟨v, w, rfl, p, p'⟩ := pl.two
    rw [p.int, p'.int] at r
    exact call_max2 hc pins s σ H _ us Q I r ⟨i, j, rfl, fin0 (by simp only [RSh]) k⟩
  · cases e
theorem c_min2 (hc : X.calm = true) : CallR X (.builtin "min") (rFn X.K bMin2) := by
  intro pins s σ H xs us Q I r h
  obtain ⟨Z, ds, d, pl, e, k⟩ := h
  unfold bMin2 at e
  split at e
  · rename_i i j
    cases e
    obtain ⟨v, w, rfl, p, p'⟩ := pl.two
    rw [p.int, p'.int] at r
    exact call_min2 hc pins s σ H _ us Q I r ⟨i, j, rfl, fin0 (by simp only [RSh]) k⟩
  · cases e
theorem c_int : CallR X (.type "int") (rFn X.K bInt) := by
  intro pins s σ H xs us Q I r h
  obtain ⟨Z, ds, d, pl, e, k⟩ := h
  unfold bInt at e
  split at e
  · rename_i i
    cases e
    obtain ⟨v, rfl, p⟩ := pl.one
    rw [p.int] at r
    exact call_int1 pins s σ H _ us Q I r (.inl ⟨i, rfl, fin0 (by simp only [RSh]) k⟩)
  · rename_i b
    cases e
    obtain ⟨v, rfl, p⟩ := pl.one
    rw [p.bl] at r
    exact call_int1 pins s σ H _ us Q I r (.inr ⟨b, rfl, fin0 (by simp only [RSh]) k⟩)
  · cases e
theorem c_sum (hc : X.calm = true) : CallR X (.builtin "sum") (rFn X.K bSum) := by
  intro pins s σ H xs us Q I r h
  obtain ⟨Z, ds, d, pl, e, k⟩ := h
  unfold bSum at e
  split at e
  · rename_i l
    obtain ⟨ns, hn, rfl⟩ := Option.map_eq_some_iff.mp e
    obtain ⟨v, rfl, p⟩ := pl.one
    obtain ⟨a, ys, rfl, s1, l1⟩ := p.lst
    rw [ints_of hn l1] at s1
    exact cr_sum hc pins s σ H _ us Q I r ⟨a, ns, rfl, SqL.of s1, fin0 (by simp only [RSh]) k⟩
  · cases e
theorem c_all (hc : X.calm = true) : CallR X (.builtin "all") (rFn X.K bAll) := by
  intro pins s σ H xs us Q I r h
  obtain ⟨Z, ds, d, pl, e, k⟩ := h
  unfold bAll at e
  split at e
  · rename_i l
    obtain ⟨ns, hn, rfl⟩ := Option.map_eq_some_iff.mp e
    obtain ⟨v, rfl, p⟩ := pl.one
    obtain ⟨a, ys, rfl, s1, l1⟩ := p.lst
    rw [bls_of hn l1] at s1
    exact cr_all hc pins s σ H _ us Q I r ⟨a, ns, rfl, SqL.of s1, fin0 (by simp only [RSh]) k⟩
  · cases e
theorem c_any (hc : X.calm = true) : CallR X (.builtin "any") (rFn X.K bAny) := by
  intro pins s σ H xs us Q I r h
  obtain ⟨Z, ds, d, pl, e, k⟩ := h
  unfold bAny at e
  split at e
  · rename_i l
    obtain ⟨ns, hn, rfl⟩ := Option.map_eq_some_iff.mp e
    obtain ⟨v, rfl, p⟩ := pl.one
    obtain ⟨a, ys, rfl, s1, l1⟩ := p.lst
    rw [bls_of hn l1] at s1
    exact cr_any hc pins s σ H _ us Q I r ⟨a, ns, rfl, SqL.of s1, fin0 (by simp only [RSh]) k⟩
  · cases e
theorem c_tuple : CallR X (.type "tuple") (rFn X.K bTuple) := by
  intro pins s σ H xs us Q I r h
  obtain ⟨Z, ds, d, pl, e, k⟩ := h
  unfold bTuple at e
  split at e
  · rename_i l
    cases e
    obtain ⟨v, rfl, p⟩ := pl.one
    obtain ⟨a, ys, rfl, s1, l1⟩ := p.lst
    exact call_tuple_of pins s σ H _ us Q I r ⟨a, ys, rfl, .inl ⟨SqL.of s1, fun q hq => finT hq l1 k⟩⟩
  · rename_i l
    cases e
    obtain ⟨v, rfl, p⟩ := pl.one
    obtain ⟨a, ys, rfl, s1, l1⟩ := p.tup
    exact call_tuple_of pins s σ H _ us Q I r ⟨a, ys, rfl, .inr ⟨s1, fin0 (by simp only [RSh]; exact ⟨a, ys, rfl, s1, l1⟩) k⟩⟩
  · cases e
theorem c_repr (hu : X.A.units + 64 < cLine) (hg : X.A.guards = some []) : CallR X (.builtin "repr") (rFn X.K bRepr) := by
  intro pins s σ H xs us Q I r h
  obtain ⟨Z, ds, d, pl, e, k⟩ := h
  unfold bRepr at e
  split at e
  · rename_i c
    split at e
    · rename_i ho
      cases e
      obtain ⟨v, rfl, p⟩ := pl.one
      obtain ⟨u, rfl, ru⟩ := r.one
      obtain ⟨as, rd⟩ := Dp.reads I _ v u (p.dp ho.1) ru
      obtain ⟨l1, l2⟩ := ok_lay 60 c ho.1
      have kk : Q (.str c.py.shown) H := fin0 (by simp only [RSh]; rfl) k
      obtain ⟨sh1, sh2⟩ := shown_le 60 c ho.1 ho.2.1
      have hsz : c.py.shown.length ≤ sizeLine := by rw [szL]; omega
      have hd : c.py.hasDict = false := PyData.hasDict_of_canLay _ l1
      have ref : ∀ a, u = .ref a → wpAny (model X.prog X.w) X.A (call (.builtin "repr") [u]) (EP X pins σ Q) X.xe s := fun a e => by
        subst e
        exact repr_of_reads' rd sh1 (PyData.noDict_hsm hd) hg (by omega) (fun _ _ e => e) (fun h' t tk hk => ⟨.str _, H, I.kept hk, ⟨_, rfl⟩, kk⟩) hsz
      cases c with
      | non =>
        rw [p.non] at ru
        have ru : u = Value.none := ru
        subst ru
        simp only [D.py, PyData.shown] at kk
        exact PySem.P.repr_of_none ⟨.str _, H, I.tok _, ⟨_, rfl⟩, kk⟩
      | bl b =>
        rw [p.bl] at ru
        have ru : u = Value.bool b := ru
        subst ru
        simp only [D.py, PyData.shown] at kk
        refine PySem.P.repr_of_bool ⟨.str _, H, I.tok _, ⟨_, rfl⟩, ?_⟩
        cases b <;> exact kk
      | int i =>
        rw [p.int] at ru
        obtain ⟨t, rfl⟩ := ru
        simp only [D.py, PyData.shown] at kk
        have hi := sh1
        simp only [D.py, PyData.showable, decide_eq_true_eq] at hi
        exact PySem.P.repr_of_int hi ⟨.str _, H, I.tok _, ⟨_, rfl⟩, kk⟩
      | str z =>
        rw [p.str] at ru
        obtain ⟨t, rfl⟩ := ru
        simp only [D.py, PyData.shown] at kk hsz
        exact PySem.P.repr_of_str ⟨.str _, H, I.tok _, ⟨_, rfl⟩, kk⟩ hsz
      | tup l =>
        obtain ⟨a, ys, rfl, _⟩ := p.tup
        exact ref a ru
      | lst l =>
        obtain ⟨a, ys, rfl, _⟩ := p.lst
        exact ref a ru
      | scr l => simp [D.okB] at ho
      | dct _ _ => simp [D.okB] at ho
      | ins _ _ _ => simp [D.okB] at ho
    · cases e
  · cases e
end
/-! list(x): a new list -/
def rLn (K : PySem.W.Frag) (f : List D → Option (List D)) : List V → Hp → VK → Prop := fun xs H Q => ∃ Z ds l, Pk0L K Z H ds xs ∧ f ds = some l ∧ ∀ p ys, H p = none → RShL K Z H l ys → Q (.ref p) (upd H p (.lst ys))
def mL (f : List D → Option (List D)) (ms : M (List D)) : M D := bind ms fun ds => ofO ((f ds).map .lst)
section
variable {X : Cx} {τ : Nat → OT} {q : Bool} {e : Expr} {es : List Expr} {ms : M (List D)} {pos : Pos}
theorem c_list : CallR X (.type "list") (rLn X.K listOfD) := by
  intro pins s σ H xs us Q I r h
  obtain ⟨Z, ds, l, pl, e, k⟩ := h
  unfold listOfD at e
  split at e
  · cases e
    obtain ⟨v, rfl, p⟩ := pl.one
    obtain ⟨a, ys, rfl, s1, l1⟩ := p.lst
    exact call_list_of pins s σ H _ us Q I r ⟨a, ys, rfl, .inl (SqL.of s1), fun q hq => k q ys hq l1⟩
  · cases e
    obtain ⟨v, rfl, p⟩ := pl.one
    obtain ⟨a, ys, rfl, s1, l1⟩ := p.tup
    exact call_list_of pins s σ H _ us Q I r ⟨a, ys, rfl, .inr s1, fun q hq => k q ys hq l1⟩
  · cases e
    obtain ⟨v, rfl, p⟩ := pl.one
    obtain ⟨a, rfl, s1⟩ := p.scr
    exact call_list_of pins s σ H _ us Q I r ⟨a, _, rfl, .inl s1, fun q hq => k q _ hq (ints_rel _)⟩
  · cases e
theorem naryL {f : List D → Option (List D)} : ∀ σ H Q, tE X.K τ q (.ow (.ol .sh .sh)) (mL f ms) σ H Q → tCB (rLn X.K f) (tA X.K τ q ms) σ H Q := fun σ H Q ⟨Z, own, ρ, d, ρ', rs, e, k⟩ => by
  obtain ⟨xs, ρ1, e1, f1⟩ := bind_ok e
  obtain ⟨f2, rfl⟩ := ofO_ok f1
  obtain ⟨l, hl, rfl⟩ := Option.map_eq_some_iff.mp f2
  exact ⟨Z, own, ρ, xs, ρ', rs, e1, fun vs Z1 own1 H1 rs1 rl x1 => ⟨Z1, xs, l, rl, hl, fun p ys hp r => fin_ol rs1 x1 hp ((Grow.new hp).shL r) k⟩⟩
theorem e_callTyO {f : List D → Option (List D)} {x : Str} {T : String} {p : Pos} (hc : CallR X (.type T) (rLn X.K f)) (ha : PA X (e :: es) (tA X.K τ q ms)) (hg : Gl X x := by rfl) (hm : X.mg x = none := by assumption) (hv : bootBuiltins x = some (.type T) := by decide +kernel) (hn : x ≠ "__name__" := by decide) (hdb : (x == ("__debug__" : Str)) = false := by decide) (hst : starEach (e :: es) X.env = (false, eval e X.env) :: starEach es X.env := by rfl) (hpl : (backTo pos (starEach es X.env)).any (·.1) = false := by rfl) :
    PE X (.Call (.Name x p) (e :: es) [] pos) (tE X.K τ q (.ow (.ol .sh .sh)) (mL f ms)) := (pe_callTy hc hg hm hv ha hn hdb hst hpl).mono naryL
theorem e_callBO {f : List D → Option (List D)} {x : Str} {T : String} {p : Pos} (hc : CallR X (.builtin T) (rLn X.K f)) (ha : PA X (e :: es) (tA X.K τ q ms)) (hg : Gl X x := by rfl) (hm : X.mg x = none := by assumption) (hv : bootBuiltins x = some (.builtin T) := by decide +kernel) (hn : x ≠ "__name__" := by decide) (hdb : (x == ("__debug__" : Str)) = false := by decide) (hst : starEach (e :: es) X.env = (false, eval e X.env) :: starEach es X.env := by rfl) (hpl : (backTo pos (starEach es X.env)).any (·.1) = false := by rfl) :
    PE X (.Call (.Name x p) (e :: es) [] pos) (tE X.K τ q (.ow (.ol .sh .sh)) (mL f ms)) := (pe_callB hc hg hm hv ha hn hdb hst hpl).mono naryL
end
end CL

namespace CL
open PySem PySem.Spec L2
set_option autoImplicit false
/-! ### the law's end -/
theorem law_start {P : Program} {w : World} {K : PySem.W.Frag} {mg mb : Str → Option Value} {k : Nat} {fa sc : Addr} {fd : FuncData} {x : Str} {G : List D → Res D} {s1 : Shared} {vals : List Value} {ns : List Int}
    (KX : K.In s1.heap) (hns : s1.heap.Ns mainGlobals mg) (hbl : s1.heap.Ns builtinsNs mb) (hbb : ∀ y : Str, y ≠ "__name__" → mb y = bootBuiltins y) (hlim : s1.heap.NoLimit) (hgen : s1.gens = #[])
    (hsc : s1.heap.get? sc = some { cls := .type "list", data := .seq vals.toArray }) (hint : PyProof.Rows.IntsAre vals ns) (hlen : ns.length ≤ sizeLine) (room : Room k callerA)
    (F : ∀ base : Heap, K.In base → base.Ns mainGlobals mg → FnG P w K mg base k fa fd [x] (spP K 1 .sh G)) (hbind : ∀ (s0 : Shared) (u : Value), BindsTo s0 fd ⟨[u], []⟩ [(x, u)])
    (hG : G [.scr ns] = .ok (.bl true)) :
    codeAny (model P w) callerA (.call (.ref fa) ⟨[.ref sc], []⟩) (fun r s2 => r = .ok (.ret (.bool true)) ∧ OldK s1.heap s2.heap ∧ s2.os = s1.os ∧ PyProof.Rows.AllBare s2.gens) s1 := by
  have relv := vals_ints hint
  have lenv := hint.length
  have main : ∀ H : Hp, (∀ c, H c = none ∨ ∃ ob ys, H c = some (.frz ob (.lst ys))) → (SqL K H sc (ns.map V.int)) → (H sc = none → KL K sc (ns.map V.int)) → HOk P w H s1.heap → (∀ c, H c ≠ none → c = sc) → (H sc ≠ none → K.lookup sc = none) →
      codeAny (model P w) callerA (.call (.ref fa) ⟨[.ref sc], []⟩) (fun r s2 => r = .ok (.ret (.bool true)) ∧ OldK s1.heap s2.heap ∧ s2.os = s1.os ∧ PyProof.Rows.AllBare s2.gens) s1 := by
    intro H honly hsq hkl hok hsole hnk
    have hid : ∀ {c : Addr} {ob : Obj}, s1.heap.get? c = some ob → H c = none → (hidT s1.heap H).get? c = some ob := fun e1 e2 => hidT_get e1 e2
    have nodict : ∀ {c : Addr} {ob : Obj} {es : Array DictEntry} {ep : Nat}, s1.heap.get? c = some ob → ob.data = .dict es ep → H c = none := by
      intro c ob es ep e1 e2
      apply Classical.byContradiction
      intro hne
      have ec := hsole c hne
      subst ec
      rw [hsc] at e1
      cases e1
      cases e2
    have keepNs : ∀ {c : Addr} {m : Str → Option Value}, s1.heap.Ns c m → (hidT s1.heap H).Ns c m := by
      rintro c m ⟨ob, es, ep, e1, e2, rest⟩
      exact ⟨ob, es, ep, hid e1 (nodict e1 e2), e2, rest⟩
    have KB : K.In (hidT s1.heap H) := by
      intro c ob hc
      apply hid (KX c ob hc)
      apply Classical.byContradiction
      intro hne
      have ec := hsole c hne
      subst ec
      rw [hnk hne] at hc
      cases hc
    have hmod : Mod K mg (hidT s1.heap H) := by
      refine ⟨KB, keepNs hns, ⟨mb, keepNs hbl, hbb⟩, ?_⟩
      obtain ⟨mc, n1, n2⟩ := hlim
      exact ⟨mc, keepNs n1, n2⟩
    have env0 : Env0 P w K mg (hidT s1.heap H) callerA [] s1 H :=
      ⟨rfl, hmod, fun c ob e1 => of_hidT e1, Nat.le_of_eq (hidT_size _ _), trivial, fun c hc => absurd (show c ∈ ([] : List Addr) from hc) (by simp), hok, .of_eq hgen⟩
    have hsp : spP K 1 .sh G [.ref sc] H (fun v _ => v = .bl true) (fun _ _ _ => False) := by
      refine ⟨fun c => c = sc ∧ H sc ≠ none, [.scr ns], .bl true, rfl, ?_, fun a z => by rw [z.1]; exact z.2, hG, fun v Z' H' S _ _ _ _ r _ => by simpa only [R, RSh] using r⟩
      apply RShL.one
      simp only [RSh]
      refine ⟨sc, rfl, ?_, hsq⟩
      cases hh : H sc with
      | none => exact .inr (hkl hh)
      | some o => exact .inl ⟨rfl, by simp⟩
    apply codeAny_mono ((F _ KB (keepNs hns)).run callerA [] s1 H ⟨[.ref sc], []⟩ [.ref sc] [.ref sc] _ _ room rfl env0 (hbind s1 (.ref sc)) (.cons rfl .nil) hsp)
    intro res s2 hres
    cases res with
    | error er => exact hres.elim
    | ok fl =>
      cases fl with
      | next => exact hres.elim
      | brk => exact hres.elim
      | cont => exact hres.elim
      | ret u =>
        obtain ⟨v, H2, hos, hbare, hun, hok2, hrv, hv⟩ := hres
        have hv : v = .bl true := hv
        subst hv
        obtain rfl : u = Value.bool true := hrv
        refine ⟨rfl, OldK.of_keep fun c ob e1 => ?_, hos, hbare⟩
        rcases honly c with hn | ⟨ob2, ys, hf⟩
        · exact hun.keep c ob e1 hn (fun z => absurd (show c ∈ ([] : List Addr) from z) (by simp)) (by simp)
        · have hf2 := hun.frzs c ob2 _ hf
          have o1 := (hok c _ hf).1
          have o2 := (hok2 c _ hf2).1
          rw [e1] at o1
          cases o1
          exact o2
  cases hk : K.lookup sc with
  | some ob =>
    have e1 := KX sc ob hk
    rw [hsc] at e1
    cases e1
    have hkl : KL K sc (ns.map V.int) := fun H => .inr ⟨_, vals.toArray, _, hk, rfl, rfl, rfl, by rw [List.size_toArray, lenv]; exact hlen, by simpa using relv⟩
    exact main (fun _ => none) (fun _ => .inl rfl) (hkl _) (fun _ => hkl) (fun c u z => by cases z) (fun c z => absurd rfl z) fun z => absurd rfl z
  | none =>
    have at_ : ∀ {c : Addr}, c = sc → (if c = sc then some (HO.frz { cls := .type "list", data := .seq vals.toArray } (.lst (ns.map V.int))) else none) = some (HO.frz { cls := .type "list", data := .seq vals.toArray } (.lst (ns.map V.int))) := fun e => if_pos e
    refine main (fun c => if c = sc then some (.frz { cls := .type "list", data := .seq vals.toArray } (.lst (ns.map V.int))) else none) (fun c => ?_) (.inl (.inr ⟨_, at_ rfl⟩)) (fun z => by rw [at_ rfl] at z; cases z) (fun c u z => ?_) (fun c z => Classical.byContradiction fun n => z (if_neg n)) fun _ => hk
    · by_cases hc : c = sc
      · exact .inr ⟨_, _, at_ hc⟩
      · exact .inl (if_neg hc)
    · by_cases hc : c = sc
      · have z2 := (at_ hc).symm.trans z
        cases z2
        subst hc
        exact ⟨hsc, by rw [List.length_map]; exact hlen, vals, _, relv, hsc⟩
      · have z2 := (if_neg hc).symm.trans z
        cases z2
/-- the goal that the head leaves, from the law as a function of data -/
theorem walk_cl {l : PySem.W.OpenLaw} {n k : Nat} {q : Program} {loose : List Str} {XP : (Str → Option Value) → Heap → Prop} {YP : World → Heap → Prop} {d : DefRec} {K : Params → PySem.W.Frag} {x : Str} {G : List D → Res D}
    (hn : l.most = some n) (hn2 : n ≤ sizeLine) (hdf : d.params.defaults = []) (hr : Room k callerA)
    (hY : ∀ (w : World) (h : Heap), YP w h → (K w.params).In h)
    (F : ∀ (w : World) (mg : Str → Option Value) (fa : Addr) (h : Heap), (K w.params).In h → h.Ns mainGlobals mg → mg d.name = some (.ref fa) →
      ∃ fd : FuncData, (∀ (s : Shared) (u : Value), BindsTo s fd ⟨[u], []⟩ [(x, u)]) ∧ ∀ base : Heap, (K w.params).In base → base.Ns mainGlobals mg → FnG l.prog w (K w.params) mg base k fa fd [x] (spP (K w.params) 1 .sh G))
    (hG : ∀ ns : List Int, ns.length ≤ n → (∀ z ∈ ns, Builtin.Int.intBits z ≤ 1048576) → G [.scr ns] = .ok (.bl true)) :
    PySem.W.WalkO q loose XP YP l.row.toRowW d [] (fun f vs => PySem.call f vs) := by
  apply Att.attach_callB hn hdf
  intro w s0 s1 mg mb fa ob pm cd doc sc vals ns Gd Y ho hd hcd hmg hobj hints hlen hbits hg
  obtain ⟨fd, hb, hF⟩ := F w mg fa _ (hY w _ Y) Gd.T.g hmg
  exact law_start (hY w _ Y) Gd.T.g Gd.T.b Gd.T.builtins Gd.T.nolimit hg hobj hints (Nat.le_trans hlen hn2) hr hF hb (hG ns hlen hbits)
end CL

namespace CL
open PySem PySem.Spec L2
set_option autoImplicit false
/-! ### defs by name -/
def fuel : Nat := 2 ^ 2000
/-- a def of the text as it stands behind the top -/
def TxF (K : PySem.W.Frag) (mg : Str → Option Value) (x : Str) (st : Stmt) (ps : List Str) : Prop := ∃ f fd, Fun K x x st f fd ∧ Binds K fd ps [] ∧ mg x = some (.ref f)
def CalP (P : Program) (w : World) (K : PySem.W.Frag) (mg : Str → Option Value) (base : Heap) (k : Nat) (x : Str) (n : Nat) (rt : OT) (G : List D → Res D) : Prop :=
  ∃ f fd ps, FnG P w K mg base k f fd ps (spP K n rt G) ∧ PySem.W.keepIn K (.ref f) = true ∧ Binds K fd ps [] ∧ mg x = some (.ref f)
def CalF (P : Program) (w : World) (K : PySem.W.Frag) (mg : Str → Option Value) (base : Heap) (k : Nat) (x : Str) (ts : List OT) (rt : OT) (G : Fn) : Prop :=
  ∃ f fd ps, FnG P w K mg base k f fd ps (spD K ts rt G) ∧ PySem.W.keepIn K (.ref f) = true ∧ Binds K fd ps [] ∧ mg x = some (.ref f)
section
variable {X : Cx} {τ : Nat → OT} {q : Bool} {k j : Nat} {x : Str} {p pos : Pos} {e : Expr} {es : List Expr} {ms : M (List D)} {as : List Ag} {rt : OT} {n nl : Nat} {ts : List OT} {G : List D → Res D} {b : MS}
theorem e_c (c : CalP X.prog X.w X.K X.mg X.base k x n rt G) (hr : Room j X.A) (hgu : X.A.guards = some []) (ha : PA X (e :: es) (tAs X.K τ q ms)) (hn : ∀ ds (d : D) ρ ρ', ms ρ = .ok (ds, ρ') → ds.length = n) (hj : k ≤ j := by decide) (hg : Gl X x := by rfl)
    (hdb : (x == ("__debug__" : Str)) = false := by decide) (he : starEach (e :: es) X.env = (false, eval e X.env) :: starEach es X.env := by rfl) (hpl : (backTo pos (starEach es X.env)).any (·.1) = false := by rfl) :
    PE X (.Call (.Name x p) (e :: es) [] pos) (tE X.K τ q (.ow rt) (mCallP G ms)) := by
  obtain ⟨f, fd, ps, h1, h2, h3, h4⟩ := c
  exact e_call (h1.mono hj) h2 h3 hr hgu h4 ha hn hg hdb he hpl
theorem e_cF (c : CalF X.prog X.w X.K X.mg X.base k x ts rt (runF ts nl b)) (hr : Room j X.A) (hgu : X.A.guards = some []) (ha : PA X (e :: es) (tAg X.K τ q as)) (hts : tysOf τ as = ts := by rfl) (hj : k ≤ j := by decide) (hnd : (ioIx as).Nodup := by decide) (hol : (ioIx as).all (fun i => isOl (τ i)) = true := by rfl) (hg : Gl X x := by rfl)
    (hdb : (x == ("__debug__" : Str)) = false := by decide) (he : starEach (e :: es) X.env = (false, eval e X.env) :: starEach es X.env := by rfl) (hpl : (backTo pos (starEach es X.env)).any (·.1) = false := by rfl) :
    PE X (.Call (.Name x p) (e :: es) [] pos) (tE X.K τ false (.ow rt) (mCall (runF ts nl b) as)) := by
  subst hts
  obtain ⟨f, fd, ps, h1, h2, h3, h4⟩ := c
  exact e_callF (h1.mono hj) h2 h3 hr hgu h4 ha runF_len hnd (fun i hi => by simpa using List.all_eq_true.mp hol i hi) hg hdb he hpl
end
theorem sh_ok (τ : Nat → OT) (n : Nat) (h : (List.range n).all (fun i => !isOl (τ i)) = true) : ∀ i, i < n → τ i = .sh := fun i hi => by
  have := List.all_eq_true.mp h i (List.mem_range.mpr hi)
  cases ht : τ i with
  | sh => rfl
  | ol _ _ => rw [ht] at this; simp [isOl] at this
def eqOT : OT → OT → Bool
  | .sh, .sh => true
  | .ol a b, .ol c d => eqOT a c && eqOT b d
  | _, _ => false
theorem eqOT_eq : ∀ {a b : OT}, eqOT a b = true → a = b
  | .sh, .sh, _ => rfl
  | .ol a b, .ol c d, h => by
    simp only [eqOT, Bool.and_eq_true] at h
    rw [eqOT_eq h.1, eqOT_eq h.2]
  | .sh, .ol _ _, h => by simp [eqOT] at h
  | .ol _ _, .sh, h => by simp [eqOT] at h
theorem τs_ok (τ : Nat → OT) (ts : List OT) (h : (List.range ts.length).all (fun i => eqOT (τ i) (τOf ts i)) = true) : ∀ i, i < ts.length → τ i = τOf ts i := fun i hi => eqOT_eq (List.all_eq_true.mp h i (List.mem_range.mpr hi))
theorem fx_ok (fx : Nat → Bool) (ts : List OT) (h : (List.range ts.length).all (fun i => !ioOf ts i || fx i) = true) : ∀ i, ioOf ts i = true → fx i = true := fun i hi => by
  by_cases hl : i < ts.length
  · have := List.all_eq_true.mp h i (List.mem_range.mpr hl)
    rw [hi] at this; simpa using this
  · unfold ioOf at hi
    rw [List.getElem?_eq_none (by omega)] at hi
    cases hi
/-! a block that does not run through -/
def NoNx (b : MS) : Prop := ∀ ρ ρ', b ρ ≠ .ok (.nx, ρ')
theorem NoNx.ret {m : M D} : NoNx (sRet m) := fun ρ ρ' h => by
  obtain ⟨d, ρ1, _, e⟩ := bind_ok h
  cases e
theorem NoNx.retV {i : Nat} : NoNx (sRetV i) := fun ρ ρ' h => by
  unfold sRetV at h
  split at h
  · cases h
  · cases h
theorem NoNx.seq {a b : MS} (hb : NoNx b) : NoNx (sSeq a b) := fun ρ ρ' h => by
  obtain ⟨f, ρ1, _, e⟩ := bind_ok h
  cases f with
  | nx => exact hb _ _ e
  | ret d => cases e
  | brk => cases e
  | cnt => cases e
theorem NoNx.ifs {c : M D} {a b : MS} (ha : NoNx a) (hb : NoNx b) : NoNx (sIf c a b) := fun ρ ρ' h => by
  obtain ⟨f, ρ1, _, e⟩ := bind_ok h
  cases f with
  | bl x => cases x with
    | true => exact ha _ _ e
    | false => exact hb _ _ e
  | _ => cases e
theorem NoNx.fz {i : Nat} {a : MS} (ha : NoNx a) : NoNx (sFz i a) := fun ρ ρ' h => by
  unfold sFz at h
  split at h
  · rename_i f ρ1 e1
    cases h
    exact ha _ _ e1
  · cases h
  · cases h
end CL

namespace CL
open PySem L2
set_option autoImplicit false
/-! ### what a function of data comes to -/
def W {α : Type} (m : M α) (ρ : Sl) (Q : α → Sl → Prop) : Prop := ∃ a ρ', m ρ = .ok (a, ρ') ∧ Q a ρ'
section
variable {α β : Type} {ρ : Sl} {Q : α → Sl → Prop} {QD : D → Sl → Prop} {QL : List D → Sl → Prop} {QF : Fl → Sl → Prop}
theorem W.mono {m : M α} {Q' : α → Sl → Prop} (h : W m ρ Q) (f : ∀ a ρ', Q a ρ' → Q' a ρ') : W m ρ Q' := let ⟨a, ρ', e, q⟩ := h; ⟨a, ρ', e, f a ρ' q⟩
theorem W_bind {m : M β} {f : β → M α} : W (CL.bind m f) ρ Q ↔ W m ρ fun a ρ1 => W (f a) ρ1 Q := by
  constructor
  · rintro ⟨a, ρ', e, q⟩
    obtain ⟨b, ρ1, e1, e2⟩ := bind_ok e
    exact ⟨b, ρ1, e1, a, ρ', e2, q⟩
  · rintro ⟨b, ρ1, e1, a, ρ', e2, q⟩
    exact ⟨a, ρ', by rw [bind_of e1]; exact e2, q⟩
theorem W_mC {d : D} : W (mC d) ρ QD ↔ QD d ρ := ⟨fun ⟨_, _, e, q⟩ => by cases e; exact q, fun q => ⟨_, _, rfl, q⟩⟩
theorem W_sK {f : Fl} : W (sK f) ρ QF ↔ QF f ρ := ⟨fun ⟨_, _, e, q⟩ => by cases e; exact q, fun q => ⟨_, _, rfl, q⟩⟩
theorem W_mNil : W mNil ρ QL ↔ QL [] ρ := ⟨fun ⟨_, _, e, q⟩ => by cases e; exact q, fun q => ⟨_, _, rfl, q⟩⟩
theorem W_ofO {o : Option D} : W (ofO o) ρ QD ↔ ∃ d, o = some d ∧ QD d ρ := by
  constructor
  · rintro ⟨a, ρ', e, q⟩
    obtain ⟨e1, rfl⟩ := ofO_ok e
    exact ⟨a, e1, q⟩
  · rintro ⟨d, rfl, q⟩
    exact ⟨d, ρ, rfl, q⟩
theorem W_ofL {o : Option (List D)} : W (ofL o) ρ QL ↔ ∃ d, o = some d ∧ QL d ρ := by
  constructor
  · rintro ⟨a, ρ', e, q⟩
    obtain ⟨e1, rfl⟩ := ofL_ok e
    exact ⟨a, e1, q⟩
  · rintro ⟨d, rfl, q⟩
    exact ⟨d, ρ, rfl, q⟩
theorem W_ok {a : α} : W (fun ρ => .ok (a, ρ)) ρ Q ↔ Q a ρ := ⟨fun ⟨_, _, e, q⟩ => by cases e; exact q, fun q => ⟨_, _, rfl, q⟩⟩
theorem W_mV {i : Nat} : W (mV i) ρ QD ↔ ∃ d, ρ[i]? = some (some d) ∧ QD d ρ := by
  constructor
  · rintro ⟨a, ρ', e, q⟩
    obtain ⟨e, rfl⟩ := mV_ok e
    exact ⟨a, e, q⟩
  · rintro ⟨d, e, q⟩
    exact ⟨d, ρ, by unfold mV; rw [e], q⟩
theorem W_m1 {f : D → Option D} {a : M D} : W (m1 f a) ρ QD ↔ W a ρ fun x ρ1 => ∃ d, f x = some d ∧ QD d ρ1 := by simp only [m1, W_bind, W_ofO]
theorem W_m2 {f : D → D → Option D} {a b : M D} : W (m2 f a b) ρ QD ↔ W a ρ fun x ρ1 => W b ρ1 fun y ρ2 => ∃ d, f x y = some d ∧ QD d ρ2 := by simp only [m2, W_bind, W_ofO]
theorem W_mCons {a : M D} {r : M (List D)} : W (mCons a r) ρ QL ↔ W a ρ fun x ρ1 => W r ρ1 fun xs ρ2 => QL (x :: xs) ρ2 := by simp only [mCons, W_bind, W_ok]
theorem W_mN {f : List D → Option D} {ms : M (List D)} : W (mN f ms) ρ QD ↔ W ms ρ fun xs ρ1 => ∃ d, f xs = some d ∧ QD d ρ1 := by simp only [mN, W_bind, W_ofO]
theorem W_mL {f : List D → Option (List D)} {ms : M (List D)} : W (mL f ms) ρ QD ↔ W ms ρ fun xs ρ1 => ∃ l, f xs = some l ∧ QD (.lst l) ρ1 := by
  simp only [mL, W_bind, W_ofO, Option.map_eq_some_iff]
  constructor
  · exact fun h => h.mono fun xs ρ1 ⟨d, ⟨l, h1, h2⟩, q⟩ => ⟨l, h1, h2 ▸ q⟩
  · exact fun h => h.mono fun xs ρ1 ⟨l, h1, q⟩ => ⟨_, ⟨l, h1, rfl⟩, q⟩
theorem W_mIt {m : M D} : W (mIt m) ρ QL ↔ W m ρ fun d ρ1 => ∃ l, itemsOf d = some l ∧ QL l ρ1 := by simp only [mIt, W_bind, W_ofL]
theorem W_mItN {f : List D → Option (List D)} {m : M (List D)} : W (mItN f m) ρ QL ↔ W m ρ fun d ρ1 => ∃ l, f d = some l ∧ QL l ρ1 := by simp only [mItN, W_bind, W_ofL]
theorem W_mIf {c a b : M D} : W (mIf c a b) ρ QD ↔ W c ρ fun x ρ1 => (x = .bl true ∧ W a ρ1 QD) ∨ (x = .bl false ∧ W b ρ1 QD) := by
  simp only [mIf, W_bind]
  constructor <;> refine fun h => h.mono fun x ρ1 q => ?_
  · cases x with
    | bl c => cases c <;> simp_all
    | _ => obtain ⟨_, _, e, _⟩ := q; cases e
  · rcases q with ⟨rfl, q⟩ | ⟨rfl, q⟩ <;> exact q
theorem W_mAnd {a b : M D} : W (mAnd a b) ρ QD ↔ W a ρ fun x ρ1 => (x = .bl true ∧ W b ρ1 QD) ∨ (x = .bl false ∧ QD (.bl false) ρ1) := by
  simp only [mAnd, W_bind]
  constructor <;> refine fun h => h.mono fun x ρ1 q => ?_
  · cases x with
    | bl c => cases c <;> simp_all [W_mC]
    | _ => obtain ⟨_, _, e, _⟩ := q; cases e
  · rcases q with ⟨rfl, q⟩ | ⟨rfl, q⟩
    · exact q
    · exact W_mC.mpr q
theorem W_mOr {a b : M D} : W (mOr a b) ρ QD ↔ W a ρ fun x ρ1 => (x = .bl true ∧ QD (.bl true) ρ1) ∨ (x = .bl false ∧ W b ρ1 QD) := by
  simp only [mOr, W_bind]
  constructor <;> refine fun h => h.mono fun x ρ1 q => ?_
  · cases x with
    | bl c => cases c <;> simp_all [W_mC]
    | _ => obtain ⟨_, _, e, _⟩ := q; cases e
  · rcases q with ⟨rfl, q⟩ | ⟨rfl, q⟩
    · exact W_mC.mpr q
    · exact q
theorem W_mChain {f g : D → D → Option D} {a b c : M D} : W (mChain f g a b c) ρ QD ↔ W a ρ fun x ρ1 => W b ρ1 fun y ρ2 => ∃ z, f x y = some z ∧ ((z = .bl true ∧ W c ρ2 fun w ρ3 => ∃ d, g y w = some d ∧ QD d ρ3) ∨ (z = .bl false ∧ QD (.bl false) ρ2)) := by
  simp only [mChain, W_bind, W_ofO]
  constructor <;> refine fun h => h.mono fun x ρ1 q => q.mono fun y ρ2 ⟨z, hz, q⟩ => ⟨z, hz, ?_⟩
  · cases z with
    | bl c => cases c <;> simp_all [W_mC, W_bind, W_ofO]
    | _ => obtain ⟨_, _, e, _⟩ := q; cases e
  · rcases q with ⟨rfl, q⟩ | ⟨rfl, q⟩
    · exact W_bind.mpr (q.mono fun _ _ h => W_ofO.mpr h)
    · exact W_mC.mpr q
theorem W_mPtN {QO : Option Int → Sl → Prop} : W (mPt none) ρ QO ↔ QO none ρ := ⟨fun ⟨_, _, e, q⟩ => by cases e; exact q, fun q => ⟨_, _, rfl, q⟩⟩
theorem W_mPtS {m : M D} {QO : Option Int → Sl → Prop} : W (mPt (some m)) ρ QO ↔ W m ρ fun d ρ1 => ∃ i, d = .int i ∧ QO (some i) ρ1 := by
  simp only [mPt, W_bind]
  constructor <;> refine fun h => h.mono fun d ρ1 q => ?_
  · cases d with
    | int i => obtain ⟨_, _, e, q⟩ := q; cases e; exact ⟨i, rfl, q⟩
    | _ => obtain ⟨_, _, e, _⟩ := q; cases e
  · obtain ⟨i, rfl, q⟩ := q
    exact ⟨_, _, rfl, q⟩
theorem W_mSl {a : M D} {lo hi : Option (M D)} : W (mSl a lo hi) ρ QD ↔ W a ρ fun x ρ1 => W (mPt lo) ρ1 fun l ρ2 => W (mPt hi) ρ2 fun h ρ3 => ∃ d, bSl x l h = some d ∧ QD d ρ3 := by simp only [mSl, W_bind, W_ofO]
theorem W_mCallP {F : List D → Res D} {ms : M (List D)} : W (mCallP F ms) ρ QD ↔ W ms ρ fun ds ρ1 => ∃ d, F ds = .ok d ∧ QD d ρ1 := by
  simp only [mCallP, W_bind]
  constructor <;> refine fun h => h.mono fun ds ρ1 q => ?_
  · obtain ⟨d, ρ', e, q⟩ := q
    split at e
    · rename_i d' e'; cases e; exact ⟨_, e', q⟩
    · cases e
    · cases e
  · obtain ⟨d, e, q⟩ := q
    exact ⟨d, ρ1, by simp [e], q⟩
theorem W_mCall {F : Fn} {as : List Ag} : W (mCall F as) ρ QD ↔ W (evA as) ρ fun ds ρ1 => ∃ full, fillA as ds ρ1 = some full ∧ ∃ d out, F full = .ok (d, out) ∧ QD d (backA as out ρ1) := by
  simp only [mCall, W_bind]
  constructor <;> refine fun h => h.mono fun ds ρ1 q => ?_
  · obtain ⟨d, ρ', e, q⟩ := q
    dsimp only at e
    split at e
    · cases e
    · rename_i full ef
      split at e
      · rename_i d' out e'; cases e; exact ⟨full, ef, _, out, e', q⟩
      · cases e
      · cases e
  · obtain ⟨full, ef, d, out, e, q⟩ := q
    exact ⟨d, _, by simp [ef, e], q⟩
/-- on to the next statement -/
def Kq (b : MS) (Q : Fl → Sl → Prop) : Fl → Sl → Prop := fun f ρ1 => (f = .nx ∧ W b ρ1 Q) ∨ (f ≠ .nx ∧ Q f ρ1)
theorem Kq_nx {b : MS} : Kq b QF .nx ρ ↔ W b ρ QF := by simp [Kq]
theorem Kq_ret {b : MS} {d : D} : Kq b QF (.ret d) ρ ↔ QF (.ret d) ρ := by simp [Kq]
theorem Kq_brk {b : MS} : Kq b QF .brk ρ ↔ QF .brk ρ := by simp [Kq]
theorem Kq_cnt {b : MS} : Kq b QF .cnt ρ ↔ QF .cnt ρ := by simp [Kq]
theorem W_sSeq {a b : MS} : W (sSeq a b) ρ QF ↔ W a ρ (Kq b QF) := by
  unfold Kq
  simp only [sSeq, W_bind]
  constructor <;> refine fun h => h.mono fun f ρ1 q => ?_
  · cases f with
    | nx => exact .inl ⟨rfl, q⟩
    | ret d => exact .inr ⟨by simp, W_sK.mp q⟩
    | brk => exact .inr ⟨by simp, W_sK.mp q⟩
    | cnt => exact .inr ⟨by simp, W_sK.mp q⟩
  · rcases q with ⟨rfl, q⟩ | ⟨n, q⟩
    · exact q
    · cases f with
      | nx => exact absurd rfl n
      | ret d => exact W_sK.mpr q
      | brk => exact W_sK.mpr q
      | cnt => exact W_sK.mpr q
theorem W_sIf {c : M D} {a b : MS} : W (sIf c a b) ρ QF ↔ W c ρ fun x ρ1 => (x = .bl true ∧ W a ρ1 QF) ∨ (x = .bl false ∧ W b ρ1 QF) := by
  simp only [sIf, W_bind]
  constructor <;> refine fun h => h.mono fun x ρ1 q => ?_
  · cases x with
    | bl c => cases c <;> simp_all
    | _ => obtain ⟨_, _, e, _⟩ := q; cases e
  · rcases q with ⟨rfl, q⟩ | ⟨rfl, q⟩ <;> exact q
theorem W_sRet {m : M D} : W (sRet m) ρ QF ↔ W m ρ fun d ρ1 => QF (.ret d) ρ1 := by simp only [sRet, W_bind, W_sK]
theorem W_sExp {m : M D} : W (sExp m) ρ QF ↔ W m ρ fun d ρ1 => QF .nx ρ1 := by simp only [sExp, W_bind, W_sK]
theorem W_sAsg {p : Pt} {m : M D} : W (sAsg p m) ρ QF ↔ W m ρ fun d ρ1 => ∃ ρ2, p d ρ1 = some ρ2 ∧ QF .nx ρ2 := by
  simp only [sAsg, W_bind]
  constructor <;> refine fun h => h.mono fun d ρ1 q => ?_
  · obtain ⟨f, ρ', e, q⟩ := q
    dsimp only at e
    split at e
    · rename_i ρ2 e2; cases e; exact ⟨_, e2, q⟩
    · cases e
  · obtain ⟨ρ2, e, q⟩ := q
    exact ⟨.nx, ρ2, by simp [e], q⟩
def parW (vs : List D) (P : D → D → Prop) : Prop := match vs with
  | [v, w] => P v w
  | _ => False
@[simp] theorem parW_mk {v w : D} {P : D → D → Prop} : parW [v, w] P ↔ P v w := Iff.rfl
theorem W_sPar {i j : Nat} {ms : M (List D)} : W (sPar i j ms) ρ QF ↔ W ms ρ fun vs ρ1 => parW vs fun v w => QF .nx ((ρ1.set i (some v)).set j (some w)) := by
  simp only [sPar, W_bind]
  constructor <;> refine fun h => h.mono fun d ρ1 q => ?_
  · obtain ⟨f, ρ', e, q⟩ := q
    split at e
    · cases e; exact q
    · cases e
  · unfold parW at q
    split at q
    · exact ⟨.nx, _, rfl, q⟩
    · exact q.elim
theorem W_sFor {p : Pt} {it : M (List D)} {b : MS} : W (sFor p it b) ρ QF ↔ W it ρ fun xs ρ1 => W (forL p b xs) ρ1 QF := by simp only [sFor, W_bind]
theorem W_mIxS {i k : Nat} : W (mIxS i k) ρ QD ↔ ∃ l, ρ[i]? = some (some (.lst l)) ∧ ∃ d, l[k + 1]? = some d ∧ QD d ρ := by
  constructor
  · rintro ⟨a, ρ', e, q⟩
    unfold mIxS at e
    split at e
    · rename_i l hl
      split at e
      · rename_i d hd; cases e; exact ⟨l, hl, _, hd, q⟩
      · cases e
    · cases e
  · rintro ⟨l, hl, d, hd, q⟩
    exact ⟨d, ρ, by unfold mIxS; rw [hl]; simp only [hd], q⟩
theorem W_forNil {p : Pt} {b : MS} : W (forL p b []) ρ QF ↔ QF .nx ρ := by unfold forL; exact W_sK
theorem W_forCons {p : Pt} {b : MS} {x : D} {xs : List D} : W (forL p b (x :: xs)) ρ QF ↔ ∃ ρ1, p x ρ = some ρ1 ∧ W b ρ1 fun f ρ2 => ((f = .nx ∨ f = .cnt) ∧ W (forL p b xs) ρ2 QF) ∨ (f = .brk ∧ QF .nx ρ2) ∨ ∃ d, f = .ret d ∧ QF (.ret d) ρ2 := by
  constructor
  · rintro ⟨f, ρ', e, q⟩
    unfold forL at e
    split at e
    · cases e
    · rename_i ρ1 e1
      refine ⟨ρ1, e1, ?_⟩
      split at e
      · rename_i ρ2 e2; exact ⟨.nx, ρ2, e2, .inl ⟨.inl rfl, f, ρ', e, q⟩⟩
      · rename_i ρ2 e2; exact ⟨.cnt, ρ2, e2, .inl ⟨.inr rfl, f, ρ', e, q⟩⟩
      · rename_i ρ2 e2; cases e; exact ⟨.brk, _, e2, .inr (.inl ⟨rfl, q⟩)⟩
      · rename_i d ρ2 e2; cases e; exact ⟨.ret d, _, e2, .inr (.inr ⟨d, rfl, q⟩)⟩
      · cases e
      · cases e
  · rintro ⟨ρ1, e1, f, ρ2, e2, h⟩
    unfold W forL
    simp only [e1]
    rcases h with ⟨rfl | rfl, a, ρ', e, q⟩ | ⟨rfl, q⟩ | ⟨d, rfl, q⟩
    · exact ⟨a, ρ', by simp only [e2]; exact e, q⟩
    · exact ⟨a, ρ', by simp only [e2]; exact e, q⟩
    · exact ⟨_, _, by simp only [e2], q⟩
    · exact ⟨_, _, by simp only [e2], q⟩
theorem W_compNil {vs : List Nat} {p : Pt} {c e : M D} : W (compL vs p c e []) ρ QL ↔ QL [] ρ := by unfold compL; exact W_ok
theorem W_compCons {vs : List Nat} {p : Pt} {c e : M D} {x : D} {xs : List D} : W (compL vs p c e (x :: xs)) ρ QL ↔ ∃ ρ1, p x ρ = some ρ1 ∧ W c ρ1 fun b ρ2 => (b = .bl true ∧ W e ρ2 fun d ρ3 => W (compL vs p c e xs) (wipeD ρ3 vs) fun ds ρ4 => QL (d :: ds) ρ4) ∨ (b = .bl false ∧ W (compL vs p c e xs) (wipeD ρ2 vs) QL) := by
  constructor
  · rintro ⟨l, ρ', h, q⟩
    unfold compL at h
    split at h
    · cases h
    · rename_i ρ1 e1
      refine ⟨ρ1, e1, ?_⟩
      split at h
      · rename_i ρ2 e2
        refine ⟨_, ρ2, e2, .inl ⟨rfl, ?_⟩⟩
        split at h
        · rename_i d ρ3 e3
          refine ⟨d, ρ3, e3, ?_⟩
          split at h
          · rename_i ds ρ4 e4
            cases h
            exact ⟨ds, _, e4, q⟩
          · cases h
          · cases h
        · cases h
        · cases h
      · rename_i ρ2 e2
        exact ⟨_, ρ2, e2, .inr ⟨rfl, l, ρ', h, q⟩⟩
      · cases h
      · cases h
  · rintro ⟨ρ1, e1, b, ρ2, e2, h⟩
    unfold W compL
    simp only [e1]
    rcases h with ⟨rfl, d, ρ3, e3, ds, ρ4, e4, q⟩ | ⟨rfl, l, ρ', e4, q⟩
    · exact ⟨d :: ds, ρ4, by simp only [e2, e3, e4], q⟩
    · exact ⟨l, ρ', by simp only [e2, e4], q⟩
theorem W_mComp {vs : List Nat} {p : Pt} {it : M (List D)} {c e : M D} : W (mComp vs p it c e) ρ QD ↔ W it ρ fun xs ρ1 => W (compL vs p c e xs) (wipeD ρ1 vs) fun ds ρ2 => QD (.lst ds) ρ2 := by
  simp only [mComp, W_bind]
  constructor <;> refine fun h => h.mono fun xs ρ1 q => ?_
  · obtain ⟨d, ρ', h, q⟩ := q
    dsimp only at h
    split at h
    · rename_i ds ρ2 e2; cases h; exact ⟨ds, _, e2, q⟩
    · cases h
    · cases h
  · obtain ⟨ds, ρ2, e2, q⟩ := q
    exact ⟨.lst ds, ρ2, by simp [e2], q⟩
/-- each item's value, the slots as they were -/
theorem W_compMap {vs : List Nat} {p : Pt} {e : M D} {f : D → D} {xs : List D} (h : ∀ x ∈ xs, ∃ ρ1 ρ2, p x ρ = some ρ1 ∧ e ρ1 = .ok (f x, ρ2) ∧ wipeD ρ2 vs = ρ) (q : QL (xs.map f) ρ) : W (compL vs p mYes e xs) ρ QL := by
  induction xs generalizing QL with
  | nil => exact W_compNil.mpr q
  | cons x xs ih =>
    obtain ⟨ρ1, ρ2, e1, e2, e3⟩ := h x (by simp)
    refine W_compCons.mpr ⟨ρ1, e1, _, ρ1, rfl, .inl ⟨rfl, f x, ρ2, e2, ?_⟩⟩
    show W (compL vs p mYes e xs) (wipeD ρ2 vs) _
    rw [e3]
    exact ih (fun y hy => h y (by simp [hy])) q
theorem W_mYes : W mYes ρ QD ↔ QD (.bl true) ρ := W_mC
/-- a loop through all items -/
theorem W_forInv {p : Pt} {b : MS} (I : Sl → Prop) {xs : List D} (h : ∀ x ∈ xs, ∀ ρ, I ρ → ∃ ρ1, p x ρ = some ρ1 ∧ W b ρ1 fun f ρ2 => (f = .nx ∨ f = .cnt) ∧ I ρ2) (h0 : I ρ) (hq : ∀ ρ', I ρ' → QF .nx ρ') : W (forL p b xs) ρ QF := by
  induction xs generalizing ρ with
  | nil => exact W_forNil.mpr (hq ρ h0)
  | cons x xs ih =>
    obtain ⟨ρ1, e1, hb⟩ := h x (by simp) ρ h0
    exact W_forCons.mpr ⟨ρ1, e1, hb.mono fun f ρ2 ⟨hf, hi⟩ => .inl ⟨hf, ih (fun y hy => h y (by simp [hy])) hi⟩⟩
theorem runP_of {nl : Nat} {b : MS} {ds : List D} {d : D} (h : W b (ds.map some ++ List.replicate nl none) fun f _ => f = .ret d) : runP nl b ds = .ok d := by
  obtain ⟨f, ρ', e, rfl⟩ := h
  unfold runP
  rw [e]
theorem runP_ex {nl : Nat} {b : MS} {ds : List D} {Q : D → Prop} (h : W b (ds.map some ++ List.replicate nl none) fun f _ => ∃ d, f = .ret d ∧ Q d) : ∃ d, runP nl b ds = .ok d ∧ Q d := by
  obtain ⟨f, ρ', e, d, rfl, q⟩ := h
  exact ⟨d, by unfold runP; rw [e], q⟩
theorem runF_ex {ts : List OT} {nl : Nat} {b : MS} {ds : List D} {Q : D → List D → Prop} (h : W b (ds.map some ++ List.replicate nl none) fun f ρ' => ∃ d out, f = .ret d ∧ outs ts ds ρ' = some out ∧ Q d out) : ∃ d out, runF ts nl b ds = .ok (d, out) ∧ Q d out := by
  obtain ⟨f, ρ', e, d, out, rfl, ho, q⟩ := h
  exact ⟨d, out, by unfold runF; rw [e]; simp only [ho], q⟩
end
/-! bounds -/
theorem fmod_nn {a b : Int} (hb : 0 < b) : 0 ≤ a.fmod b := by
  rw [Int.fmod_eq_emod_of_nonneg a (by omega)]
  exact Int.emod_nonneg a (by omega)
theorem fmod_lt {a b : Int} (hb : 0 < b) : a.fmod b < b := by
  rw [Int.fmod_eq_emod_of_nonneg a (by omega)]
  exact Int.emod_lt_of_pos a hb
theorem natAbs_fmod {a b : Int} (hb : 0 < b) (h : b < 2 ^ 64) : (a.fmod b).natAbs < 2 ^ 64 := by
  have := fmod_nn (a := a) hb
  have := fmod_lt (a := a) hb
  omega
theorem lt_bigD {n : Nat} (h : n < 2 ^ 100) : n < bigD := Nat.lt_of_lt_of_le h (Nat.pow_le_pow_right (by decide) (by decide))
theorem lt_big {n : Nat} (h : n < 2 ^ 200) : n < big := Nat.lt_of_lt_of_le h (Nat.pow_le_pow_right (by decide) (by decide))
/-! ### the deck and its draws, as most laws have them -/
/-- a deck -/
def Deck (d : D) : Prop := ∃ (l : List Int) (a n : Int), d = .lst [.lst (l.map .int), .int a, .int n] ∧ l.length ≤ 63
theorem okL_ints (n : Nat) : ∀ l : List Int, D.okL n (l.map .int) = true
  | [] => by simp [D.okL]
  | i :: l => by simp [D.okL, D.okB, okL_ints n l]
theorem pyL_ints : ∀ l : List Int, D.pyL (l.map .int) = l.map .int
  | [] => by simp [D.pyL]
  | i :: l => by simp [D.pyL, D.py, pyL_ints l]
def tailD : MS := (sSeq (sAsg (pN 3) (m2 bMod (m2 bMul (m2 bAdd (m2 bAdd (m2 bMod (mV 2) (mC (.int 2147483629))) (m2 bMul (mC (.int 65537)) (mIxS 0 1))) (mC (.int 3))) (mC (.int 48271))) (mC (.int 2147483647)))) (sSeq (sAsg (pN 3) (m2 bMod (m2 bAdd (m2 bAdd (m2 bMul (mV 3) (mV 3)) (m2 bMul (mC (.int 69621)) (mIxS 0 1))) (mC (.int 17))) (mC (.int 2147483587)))) (sRet (m2 bMod (m2 bDiv (m2 bMod (m2 bAdd (m2 bMul (mV 3) (mV 3)) (mC (.int 39373))) (mC (.int 2147483563))) (mC (.int 64))) (mV 1)))))
theorem tail_ok {x : D} {r0 n c m : Int} {o : Option D} {r : List D} (h0 : 0 < m) : ∃ (v : Int) (o' : Option D), tailD [some (.lst (x :: .int r0 :: .int n :: r)), some (.int m), some (.int c), o] = .ok (.ret (.int v), [some (.lst (x :: .int r0 :: .int n :: r)), some (.int m), some (.int c), o']) ∧ 0 ≤ v ∧ v < m := by
  have k1 : ∀ a : Int, (a.fmod 2147483647).natAbs < 18446744073709551616 := fun a => natAbs_fmod (by decide) (by decide)
  have k2 : ∀ a : Int, (a.fmod 2147483587).natAbs < 18446744073709551616 := fun a => natAbs_fmod (by decide) (by decide)
  have k3 : (64 : Nat) < bigD := lt_bigD (by decide)
  have k4 : m ≠ 0 := by omega
  simp [tailD, sSeq, CL.bind, sAsg, pN, m2, mV, mC, ofO, bMod, bMul, bAdd, mIxS, sRet, sK, bDiv, k1, k2, k3, k4]
  exact ⟨fmod_nn h0, fmod_lt h0⟩
def drawB : MS := sSeq (sSto 0 1 (m2 bAdd (mIxS 0 1) (mC (.int 1)))) (sSeq (sAsg (pN 2) (mIxS 0 0)) (sSeq (sIf (m2 bNe (mIx0 0) (mN bLst mNil)) (sSeq (sAsg (pN 2) (mPop0 0)) (sIf (m2 bGe (mV 2) (m2 bPow (mC (.int 10)) (mC (.int 18)))) (sSeq (sExp (mApp0 0 (m2 bDiv (mV 2) (mV 1)))) (sRet (m2 bMod (mV 2) (mV 1)))) (sK .nx))) (sK .nx)) tailD))
def drawF : Fn := runF [.ol (.ol .sh .sh) .sh, .sh] 2 drawB
theorem draw_ok {dk : D} {m : Int} (h : Deck dk) (h0 : 0 < m) (h1 : m < 2 ^ 100) : ∃ (r : Int) (dk' : D), drawF [dk, .int m] = .ok (.int r, [dk', .int m]) ∧ 0 ≤ r ∧ r < m ∧ Deck dk' := by
  obtain ⟨l, a, n, rfl, hl⟩ := h
  have hb : m.natAbs < bigD := lt_bigD (by omega)
  have k4 : m ≠ 0 := by omega
  unfold drawF drawB
  rcases List.eq_nil_or_concat l with rfl | ⟨l', c, rfl⟩
  · obtain ⟨v, o', ht, h2, h3⟩ := tail_ok (x := .lst []) (n := n + 1) (c := a) (r0 := a) (o := none) (r := []) h0
    refine ⟨v, .lst [.lst [], .int a, .int (n + 1)], ?_, h2, h3, [], a, n + 1, by simp, by simp⟩
    simp [runF, sSeq, CL.bind, sSto, m2, mIxS, mC, ofO, bAdd, sAsg, pN, sIf, mIx0, bNe, mN, bLst, mNil, D.okB, D.okL, D.eqv, D.py, D.pyL, PyData.eqv, PyData.eqvAll, sK, ht, outs]
  · simp only [List.concat_eq_append] at hl ⊢
    have hll : l'.length < 16777216 := by simp at hl; omega
    have hok := okL_ints 59 (l' ++ [c])
    rw [List.map_append, List.map_cons, List.map_nil] at hok
    have hne : (l'.map D.int ++ [D.int c]).isEmpty = false := by cases l' <;> rfl
    by_cases hc : 1000000000000000000 ≤ c
    · refine ⟨c.fmod m, .lst [.lst ((l' ++ [c.fdiv m]).map .int), .int a, .int (n + 1)], ?_, fmod_nn h0, fmod_lt h0, l' ++ [c.fdiv m], a, n + 1, rfl, by simpa using hl⟩
      simp [runF, sSeq, CL.bind, sSto, m2, mIxS, mC, ofO, bAdd, sAsg, pN, sIf, mIx0, bNe, mN, bLst, mNil, D.okB, D.okL, hok, D.eqv, D.py, D.pyL, PyData.eqv, hne, mPop0, bGe, mV, bPow, hc, sExp, mApp0, bDiv, hb, k4, hll, sK, sRet, bMod, outs]
    · obtain ⟨v, o', ht, h2, h3⟩ := tail_ok (x := .lst (l'.map .int)) (n := n + 1) (c := c) (r0 := a) (o := none) (r := []) h0
      refine ⟨v, .lst [.lst (l'.map .int), .int a, .int (n + 1)], ?_, h2, h3, l', a, n + 1, rfl, by simp at hl; omega⟩
      simp [runF, sSeq, CL.bind, sSto, m2, mIxS, mC, ofO, bAdd, sAsg, pN, sIf, mIx0, bNe, mN, bLst, mNil, D.okB, D.okL, hok, D.eqv, D.py, D.pyL, PyData.eqv, hne, mPop0, bGe, mV, bPow, hc, sK, ht, outs]
/-- a draw, and on -/
theorem draw_step {dk : D} {m : Int} {Q : D → List D → Prop} (h : Deck dk) (h0 : 0 < m) (h1 : m < 2 ^ 100) (k : ∀ r dk', 0 ≤ r → r < m → Deck dk' → Q (.int r) [dk', .int m]) : ∃ d out, drawF [dk, .int m] = .ok (d, out) ∧ Q d out := by
  obtain ⟨r, dk', e, h2, h3, h4⟩ := draw_ok h h0 h1
  exact ⟨_, _, e, k r dk' h2 h3 h4⟩
def deckB : MS := (sRet (mN bLst (mCons (m1 bRev (mL listOfD (mCons (mSl (mV 0) none (some (mC (.int 63)))) mNil))) (mCons (m2 bAdd (mN bSum (mCons (mComp [1] (pN 1) (mIt (mSl (mV 0) none (some (mC (.int 63))))) mYes (m2 bMod (mV 1) (mC (.int 1000003)))) mNil)) (m2 bMul (mC (.int 7919)) (mN bLen (mCons (mSl (mV 0) none (some (mC (.int 63)))) mNil)))) (mCons (mC (.int 0)) mNil)))))
theorem intsOf_map : ∀ l : List Int, intsOf (l.map .int) = some l
  | [] => rfl
  | i :: l => by simp [intsOf, intsOf_map l]
theorem cut63 {ns : List Int} (h : ns.length ≤ 63) : cutD ns none (some 63) = ns := by
  unfold cutD
  rw [show HT.sIx ns.length 0 none = 0 from HT.sIx_none ns.length 0, show HT.sIx ns.length ns.length (some 63) = min 63 ns.length from HT.sIx_nat ns.length ns.length 63]
  rw [List.drop_zero]
  exact List.take_of_length_le (by omega)
theorem deck_ok {ns : List Int} (h : ns.length ≤ 63) : ∃ dk, runP 1 deckB [.scr ns] = .ok dk ∧ Deck dk := by
  refine ⟨.lst [.lst (ns.reverse.map .int), .int ((ns.map fun c => c.fmod 1000003).sum + 7919 * ns.length), .int 0], runP_of ?_, ns.reverse, _, 0, rfl, by simpa using h⟩
  have hc : ∀ (x : Option D) (Q : List D → Sl → Prop), Q ((ns.map fun c => c.fmod 1000003).map .int) [x, none] → W (compL [1] (pN 1) mYes (m2 bMod (mV 1) (mC (.int 1000003))) (ns.map .int)) [x, none] Q := fun x Q q => by
    refine W_compMap (f := fun d => match d with | .int i => .int (i.fmod 1000003) | d => d) (fun y hy => ?_) (by simpa [List.map_map, Function.comp_def] using q)
    obtain ⟨i, _, rfl⟩ := List.mem_map.mp hy
    exact ⟨_, _, rfl, rfl, rfl⟩
  simp only [deckB, W_sRet, W_mN, W_mCons, W_m1, W_mL, W_mSl, W_mV, W_mPtN, W_mPtS, W_mC, W_mNil, W_m2, W_mComp, W_mIt]
  simp [bSl, cut63 h, listOfD, bRev, itemsOf, wipeD]
  refine hc _ _ ?_
  refine ⟨_, (show (intsOf (List.map D.int (List.map (fun c => c.fmod 1000003) ns))).map (fun ns => D.int ns.sum) = some _ by rw [intsOf_map]; rfl), ?_⟩
  simp [bLen, bMul, bAdd, bLst, cut63 h]
end CL

namespace CL
open PySem PySem.Spec L2
set_option autoImplicit false
/-! ### isinstance -/
def D.ty : D → Option String
  | .non => some "NoneType"
  | .bl _ => some "bool"
  | .int _ => some "int"
  | .str _ => some "str"
  | .tup _ => some "tuple"
  | .lst _ => some "list"
  | .scr _ => some "list"
  | .dct _ _ => some "dict"
  | _ => none
def bIsi (c : String) (d : D) : Option D := d.ty.bind fun t => (kitB t c).map .bl
theorem Pk0.tyx {K : PySem.W.Frag} {Z : Addr → Prop} {H : Hp} {d : D} {v : V} {t : String} (h : Pk0 K Z H d v) (e : d.ty = some t) : TyX K H v (.type t) := by
  cases d with
  | non => cases e; rw [h.non]; exact .base .non
  | bl b => cases e; rw [h.bl]; exact .base (.bl b)
  | int b => cases e; rw [h.int]; exact .base (.int b)
  | str b => cases e; rw [h.str]; exact .base (.str b)
  | tup b =>
    cases e
    obtain ⟨a, xs, rfl, (s | ⟨o, s⟩) | ⟨o, its, n, s1, s2, _⟩, _⟩ := h.tup
    · exact .base (.tup s)
    · exact .fTuple s
    · exact .kTuple s1 s2
  | lst b => cases e; obtain ⟨a, xs, rfl, s, _⟩ := h.lst; exact .base (.lst s)
  | scr b =>
    cases e
    obtain ⟨a, rfl, (s | ⟨o, s⟩) | ⟨o, its, n, s1, s2, _⟩⟩ := h.scr
    · exact .base (.lst s)
    · exact .base (.frz s)
    · exact .kList s1 s2
  | dct _ _ =>
    cases e
    rcases h with h | ⟨_, _, _, e, _⟩
    · simp only [RSh] at h
      obtain ⟨a, kvs, rfl, _, s, _⟩ := h
      exact .base (.dK s)
    · cases e
  | ins _ _ _ => cases e
section
variable {X : Cx} {τ : Nat → OT} {q : Bool} {md : Md} {a : Expr} {ma : M D} {pos p1 p2 : Pos}
theorem e_isi {c : String} {x : Str} (hv : bootBuiltins x = some (.type c)) (hn : x ≠ "__name__") (hd : (x == ("__debug__" : Str)) = false) (ha : PE X a (tE X.K τ q md ma)) (hi : X.mg "isinstance" = none) (hm : X.mg x = none) (hg1 : Gl X "isinstance") (hg2 : Gl X x) (hh : Hand md)
    (h1 : starEach (a :: [.Name x p1]) X.env = (false, eval a X.env) :: starEach [.Name x p1] X.env) (h2 : starEach [Expr.Name x p1] X.env = (false, eval (.Name x p1) X.env) :: starEach [] X.env) (hpl : (backTo pos (starEach [Expr.Name x p1] X.env)).any (·.1) = false) :
    PE X (.Call (.Name "isinstance" p2) [a, .Name x p1] [] pos) (tE X.K τ q .sh (m1 (bIsi c) ma)) :=
  (pe_callB call_isi hg1 hi (by decide +kernel) (pa_cons ha (pa_cons (pe_bltn (v := .ty c) hg2 hm hv rfl hn hd) pa_nil h2) h1) (by decide) (by decide) h1 hpl).mono fun σ H Q ⟨Z, own, ρ, d, ρ', rs, e, k⟩ => by
    obtain ⟨x, ρ1, e1, e⟩ := bind_ok e
    obtain ⟨e3, rfl⟩ := ofO_ok e
    refine ⟨Z, own, ρ, x, ρ', rs, e1, fun v Z1 own1 H1 S1 rs1 rm1 _ x1 => ?_⟩
    obtain ⟨t, et, e3⟩ := Option.bind_eq_some_iff.mp e3
    obtain ⟨b, eb, rfl⟩ := Option.map_eq_some_iff.mp e3
    exact ⟨v, .ty c, .type t, .type c, b, rfl, .ty c, (rm1.pk0 hh).tyx et, kit_ty eb, fin_sh rs1 x1 Grow.refl (d := .bl b) (S := fun _ => False) (.inl (by simp only [RSh])) NewS.none k⟩
theorem e_isi_int (ha : PE X a (tE X.K τ q md ma)) (hi : X.mg "isinstance" = none) (hm : X.mg "int" = none) (hg1 : Gl X "isinstance" := by rfl) (hg2 : Gl X "int" := by rfl) (hh : Hand md := by trivial)
    (h1 : starEach (a :: [.Name "int" p1]) X.env = (false, eval a X.env) :: starEach [.Name "int" p1] X.env := by rfl) (h2 : starEach [Expr.Name "int" p1] X.env = (false, eval (.Name "int" p1) X.env) :: starEach [] X.env := by rfl) (hpl : (backTo pos (starEach [Expr.Name "int" p1] X.env)).any (·.1) = false := by rfl) :
    PE X (.Call (.Name "isinstance" p2) [a, .Name "int" p1] [] pos) (tE X.K τ q .sh (m1 (bIsi "int") ma)) := e_isi (by decide +kernel) (by decide) (by decide) ha hi hm hg1 hg2 hh h1 h2 hpl
theorem e_isi_bool (ha : PE X a (tE X.K τ q md ma)) (hi : X.mg "isinstance" = none) (hm : X.mg "bool" = none) (hg1 : Gl X "isinstance" := by rfl) (hg2 : Gl X "bool" := by rfl) (hh : Hand md := by trivial)
    (h1 : starEach (a :: [.Name "bool" p1]) X.env = (false, eval a X.env) :: starEach [.Name "bool" p1] X.env := by rfl) (h2 : starEach [Expr.Name "bool" p1] X.env = (false, eval (.Name "bool" p1) X.env) :: starEach [] X.env := by rfl) (hpl : (backTo pos (starEach [Expr.Name "bool" p1] X.env)).any (·.1) = false := by rfl) :
    PE X (.Call (.Name "isinstance" p2) [a, .Name "bool" p1] [] pos) (tE X.K τ q .sh (m1 (bIsi "bool") ma)) := e_isi (by decide +kernel) (by decide) (by decide) ha hi hm hg1 hg2 hh h1 h2 hpl
theorem e_isi_tuple (ha : PE X a (tE X.K τ q md ma)) (hi : X.mg "isinstance" = none) (hm : X.mg "tuple" = none) (hg1 : Gl X "isinstance" := by rfl) (hg2 : Gl X "tuple" := by rfl) (hh : Hand md := by trivial)
    (h1 : starEach (a :: [.Name "tuple" p1]) X.env = (false, eval a X.env) :: starEach [.Name "tuple" p1] X.env := by rfl) (h2 : starEach [Expr.Name "tuple" p1] X.env = (false, eval (.Name "tuple" p1) X.env) :: starEach [] X.env := by rfl) (hpl : (backTo pos (starEach [Expr.Name "tuple" p1] X.env)).any (·.1) = false := by rfl) :
    PE X (.Call (.Name "isinstance" p2) [a, .Name "tuple" p1] [] pos) (tE X.K τ q .sh (m1 (bIsi "tuple") ma)) := e_isi (by decide +kernel) (by decide) (by decide) ha hi hm hg1 hg2 hh h1 h2 hpl
theorem e_isi_list (ha : PE X a (tE X.K τ q md ma)) (hi : X.mg "isinstance" = none) (hm : X.mg "list" = none) (hg1 : Gl X "isinstance" := by rfl) (hg2 : Gl X "list" := by rfl) (hh : Hand md := by trivial)
    (h1 : starEach (a :: [.Name "list" p1]) X.env = (false, eval a X.env) :: starEach [.Name "list" p1] X.env := by rfl) (h2 : starEach [Expr.Name "list" p1] X.env = (false, eval (.Name "list" p1) X.env) :: starEach [] X.env := by rfl) (hpl : (backTo pos (starEach [Expr.Name "list" p1] X.env)).any (·.1) = false := by rfl) :
    PE X (.Call (.Name "isinstance" p2) [a, .Name "list" p1] [] pos) (tE X.K τ q .sh (m1 (bIsi "list") ma)) := e_isi (by decide +kernel) (by decide) (by decide) ha hi hm hg1 hg2 hh h1 h2 hpl
theorem e_isi_str (ha : PE X a (tE X.K τ q md ma)) (hi : X.mg "isinstance" = none) (hm : X.mg "str" = none) (hg1 : Gl X "isinstance" := by rfl) (hg2 : Gl X "str" := by rfl) (hh : Hand md := by trivial)
    (h1 : starEach (a :: [.Name "str" p1]) X.env = (false, eval a X.env) :: starEach [.Name "str" p1] X.env := by rfl) (h2 : starEach [Expr.Name "str" p1] X.env = (false, eval (.Name "str" p1) X.env) :: starEach [] X.env := by rfl) (hpl : (backTo pos (starEach [Expr.Name "str" p1] X.env)).any (·.1) = false := by rfl) :
    PE X (.Call (.Name "isinstance" p2) [a, .Name "str" p1] [] pos) (tE X.K τ q .sh (m1 (bIsi "str") ma)) := e_isi (by decide +kernel) (by decide) (by decide) ha hi hm hg1 hg2 hh h1 h2 hpl
end
theorem isi_int_int {i : Int} : bIsi "int" (.int i) = some (.bl true) := by
  show (kitB "int" "int").map D.bl = _
  rw [show kitB "int" "int" = some true by decide +kernel]; rfl
theorem isi_bool_int {i : Int} : bIsi "bool" (.int i) = some (.bl false) := by
  show (kitB "int" "bool").map D.bl = _
  rw [show kitB "int" "bool" = some false by decide +kernel]; rfl
theorem isi_tuple_tup {l : List D} : bIsi "tuple" (.tup l) = some (.bl true) := by
  show (kitB "tuple" "tuple").map D.bl = _
  rw [show kitB "tuple" "tuple" = some true by decide +kernel]; rfl
end CL

namespace CL
open PySem
set_option autoImplicit false
/-! ### plain arithmetic -/
theorem ediv_unique {a b q : Int} (hb : 0 < b) (h1 : b * q ≤ a) (h2 : a < b * q + b) : a / b = q := by
  have e1 : b * (a / b) ≤ a := Int.mul_ediv_self_le (by omega)
  have e2 : a < b * (a / b) + b := Int.lt_mul_ediv_self_add hb
  have c1 : b * (a / b) < b * (q + 1) := by rw [Int.mul_add, Int.mul_one]; omega
  have c2 : b * q < b * (a / b + 1) := by rw [Int.mul_add, Int.mul_one]; omega
  have d1 := Int.lt_of_mul_lt_mul_left c1 (by omega)
  have d2 := Int.lt_of_mul_lt_mul_left c2 (by omega)
  omega
def near (x g : Int) : Int := (2 * x + g) / (2 * g)
theorem near_le {x g : Int} (hg : 0 < g) : 2 * (g * near x g) ≤ 2 * x + g ∧ 2 * x + g < 2 * (g * near x g) + 2 * g := by
  have e1 : 2 * g * near x g ≤ 2 * x + g := Int.mul_ediv_self_le (by omega)
  have e2 : 2 * x + g < 2 * g * near x g + 2 * g := Int.lt_mul_ediv_self_add (by omega)
  rw [Int.mul_assoc] at e1 e2
  exact ⟨e1, e2⟩
theorem near_eq {x g q : Int} (hg : 0 < g) (h1 : 2 * (g * q) ≤ 2 * x + g) (h2 : 2 * x + g < 2 * (g * q) + 2 * g) : near x g = q := ediv_unique (by omega) (by rw [Int.mul_assoc]; exact h1) (by rw [Int.mul_assoc]; exact h2)
theorem near_floor {x g : Int} (hg : 0 < g) : near x g = if 2 * x < (2 * (x / g) + 1) * g then x / g else x / g + 1 := by
  have e1 : g * (x / g) ≤ x := Int.mul_ediv_self_le (by omega)
  have e2 : x < g * (x / g) + g := Int.lt_mul_ediv_self_add hg
  have e3 : (2 * (x / g) + 1) * g = 2 * (g * (x / g)) + g := by rw [Int.add_mul, Int.one_mul, Int.mul_assoc, Int.mul_comm (x / g) g]
  rw [e3]
  split
  · exact near_eq hg (by omega) (by omega)
  · refine near_eq hg ?_ ?_ <;> rw [Int.mul_add, Int.mul_one] <;> omega
theorem near_move {x g d : Int} (hg : 0 < g) : near (x + d * g) g = near x g + d := by
  obtain ⟨h1, h2⟩ := near_le (x := x) hg
  have e : d * g = g * d := Int.mul_comm d g
  have e2 : g * (near x g + d) = g * near x g + g * d := Int.mul_add _ _ _
  refine near_eq hg ?_ ?_ <;> rw [e2, e] <;> omega
theorem near_times {x g t : Int} (ht : 0 < t) : near (x * t) (g * t) = near x g := by
  unfold near
  have e1 : 2 * (x * t) + g * t = t * (2 * x + g) := by rw [Int.mul_add, Int.mul_comm t g, ← Int.mul_assoc, Int.mul_comm (2 * x) t]
  have e2 : 2 * (g * t) = t * (2 * g) := by rw [← Int.mul_assoc, Int.mul_comm (2 * g) t]
  rw [e1, e2, Int.mul_ediv_mul_of_pos _ _ ht]
theorem near_bound {x g : Int} (hg : 0 < g) : (near x g).natAbs ≤ x.natAbs + 1 := by
  obtain ⟨h1, h2⟩ := near_le (x := x) hg
  generalize near x g = q at *
  by_cases hq : 0 ≤ q
  · have : 1 * q ≤ g * q := Int.mul_le_mul_of_nonneg_right (by omega) hq
    have hgx : g * (q - 1) ≤ x - 0 ∨ q ≤ 1 := by
      by_cases h : q ≤ 1
      · exact .inr h
      · left; rw [Int.mul_sub, Int.mul_one]; omega
    rcases hgx with h | h
    · by_cases q1 : q ≤ 1
      · omega
      · have : 1 * (q - 1) ≤ g * (q - 1) := Int.mul_le_mul_of_nonneg_right (by omega) (by omega)
        omega
    · omega
  · have : g * (q + 1) ≤ 1 * (q + 1) ∨ q + 1 > 0 := by
      by_cases h : q + 1 > 0
      · exact .inr h
      · left; exact Int.mul_le_mul_of_nonpos_right (by omega) (by omega)
    rcases this with h | h
    · rw [Int.mul_add, Int.mul_one] at h; omega
    · omega
theorem natAbs_fmod_lt {a b : Int} (hb : b ≠ 0) : (a.fmod b).natAbs < b.natAbs := by
  have e1 : 0 ≤ a % b := Int.emod_nonneg a hb
  have e2 : a % b < b.natAbs := Int.emod_lt a hb
  rw [Int.fmod_eq_emod]
  split
  · omega
  · rename_i h
    have : a % b ≠ 0 := fun z => h (.inr (Int.dvd_of_emod_eq_zero z))
    omega
theorem gcd_fmod (a b : Int) : Int.gcd b (a.fmod b) = Int.gcd a b := by
  rw [Int.fmod_def, Int.gcd_sub_mul_left_right, Int.gcd_comm]
def gcdB : MS := whileN fuel (m2 bNe (mV 1) (mC (.int 0))) (sPar 0 1 (mCons (mV 1) (mCons (m2 bMod (mV 0) (mV 1)) mNil)))
theorem ne_int0 {b : Int} : bNe (.int b) (.int 0) = some (.bl (!decide (b = 0))) := by
  simp [bNe, D.okB, D.eqv, D.py, PyData.eqv]
  by_cases h : b = 0 <;> simp [h]
theorem gcd_loop : ∀ (n : Nat) (a b : Int) (r : Sl), b.natAbs < n → b.natAbs < 2 ^ 100 → ∃ g : Int, g.natAbs = Int.gcd a b ∧ whileN n (m2 bNe (mV 1) (mC (.int 0))) (sPar 0 1 (mCons (mV 1) (mCons (m2 bMod (mV 0) (mV 1)) mNil))) (some (.int a) :: some (.int b) :: r) = .ok (.nx, some (.int g) :: some (.int 0) :: r)
  | 0, a, b, r, h, _ => by omega
  | n + 1, a, b, r, h, hb => by
    by_cases h0 : b = 0
    · subst h0
      exact ⟨a, (Int.gcd_zero_right a).symm, rfl⟩
    · have hf := natAbs_fmod_lt (a := a) h0
      obtain ⟨g, e1, e2⟩ := gcd_loop n b (a.fmod b) r (by omega) (by omega)
      refine ⟨g, by rw [e1, gcd_fmod], ?_⟩
      have c : m2 bNe (mV 1) (mC (.int 0)) (some (.int a) :: some (.int b) :: r) = .ok (.bl true, some (.int a) :: some (.int b) :: r) := by
        simp [m2, CL.bind, mV, mC, ne_int0, ofO, h0]
      have hd : b.natAbs < bigD := lt_bigD hb
      have d : sPar 0 1 (mCons (mV 1) (mCons (m2 bMod (mV 0) (mV 1)) mNil)) (some (.int a) :: some (.int b) :: r) = .ok (.nx, some (.int b) :: some (.int (a.fmod b)) :: r) := by
        simp [sPar, mCons, mNil, m2, CL.bind, mV, bMod, ofO, h0, hd]
      unfold whileN
      simp only [c, d]
      exact e2
theorem lt_fuel {n : Nat} (h : n < 2 ^ 200) : n < fuel := Nat.lt_of_lt_of_le h (Nat.pow_le_pow_right (by decide) (by decide))
def divisorB : MS := (sSeq (whileN fuel (m2 bNe (mV 1) (mC (.int 0))) (sPar 0 1 (mCons (mV 1) (mCons (m2 bMod (mV 0) (mV 1)) mNil)))) (sRet (mN bAbs (mCons (mV 0) mNil))))
theorem divisor_eq {a b : Int} (h : b.natAbs < 2 ^ 100) : runP 0 divisorB [.int a, .int b] = .ok (.int (Int.gcd a b : Nat)) := by
  refine runP_of ?_
  obtain ⟨g, e1, e2⟩ := gcd_loop fuel a b [] (lt_fuel (by omega)) h
  unfold divisorB
  simp only [W_sSeq]
  refine ⟨_, _, e2, ?_⟩
  simp only [Kq_nx, W_sRet, W_mN, W_mCons, W_mV, W_mNil]
  simp [bAbs]
  rw [← e1]
  split <;> omega
def spotB (F : List D → Res D) : MS := (sSeq (sAsg (pN 3) (mCallP F (mCons (mCallP F (mCons (mV 0) (mCons (mV 1) mNil))) (mCons (mV 2) mNil)))) (sSeq (sIf (m2 bLt (mV 2) (mC (.int 0))) (sAsg (pN 3) (m1 bNeg (mV 3))) (sK .nx)) (sRet (mN bTup (mCons (m2 bDiv (mV 0) (mV 3)) (mCons (m2 bDiv (mV 1) (mV 3)) (mCons (m2 bDiv (mV 2) (mV 3)) mNil)))))))
/-- d above 0: by is what all three have in common -/
theorem spot_eq {n m d : Int} (hm : m.natAbs < 2 ^ 100) (hd : 0 < d) (hd2 : d < 2 ^ 100) : ∃ n' m' d' h : Int, runP 1 (spotB (runP 0 divisorB)) [.int n, .int m, .int d] = .ok (.tup [.int n', .int m', .int d']) ∧ 0 < h ∧ n = n' * h ∧ m = m' * h ∧ d = d' * h ∧ 0 < d' ∧ n'.natAbs ≤ n.natAbs ∧ m'.natAbs ≤ m.natAbs ∧ d' ≤ d := by
  have e1 := divisor_eq (a := n) (b := m) hm
  have e2 := divisor_eq (a := ((Int.gcd n m : Nat) : Int)) (b := d) (by omega)
  generalize hg : Int.gcd ((Int.gcd n m : Nat) : Int) d = g at e2
  have g1 : (g : Int) ∣ (Int.gcd n m : Nat) := by rw [← hg]; exact Int.gcd_dvd_left _ _
  have g2 : (g : Int) ∣ d := by rw [← hg]; exact Int.gcd_dvd_right _ _
  have g3 : (g : Int) ∣ n := Int.dvd_trans g1 (Int.gcd_dvd_left _ _)
  have g4 : (g : Int) ∣ m := Int.dvd_trans g1 (Int.gcd_dvd_right _ _)
  have gp : 0 < (g : Int) := by
    have : g ≠ 0 := fun z => by rw [z] at g2; have := Int.zero_dvd.mp g2; omega
    omega
  have gl : (g : Int) ≤ d := Int.le_of_dvd hd g2
  have gD : g < bigD := lt_bigD (by omega)
  refine ⟨n / g, m / g, d / g, g, ?_, gp, (Int.ediv_mul_cancel g3).symm, (Int.ediv_mul_cancel g4).symm, (Int.ediv_mul_cancel g2).symm, Int.ediv_pos_of_pos_of_dvd hd (by omega) g2, Int.natAbs_ediv_le_natAbs _ _, Int.natAbs_ediv_le_natAbs _ _, Int.ediv_le_self _ (by omega)⟩
  refine runP_of ?_
  unfold spotB
  simp only [W_sSeq, W_sAsg, W_mCallP, W_mCons, W_mV, W_mNil, pN]
  simp [e1, e2]
  simp only [Kq_nx, W_sSeq, W_sIf, W_m2, W_mV, W_mC, W_sK, W_sRet, W_mN, W_mCons, W_mNil]
  simp [bLt, show ¬ d < 0 by omega, show 0 ≤ d by omega, Kq_nx, W_sRet, W_mN, W_mCons, W_m2, W_mV, W_mNil, bDiv, gD, show g ≠ 0 by omega, bTup, Int.fdiv_eq_ediv_of_nonneg _ (show (0 : Int) ≤ g by omega)]
theorem orboth {A B C : Prop} (h : A ∨ B) (c : C) : (A ∧ C) ∨ (B ∧ C) := h.elim (fun a => .inl ⟨a, c⟩) (fun b => .inr ⟨b, c⟩)
theorem ne_pair {a b : Int} : bNe (.tup [.int a, .int b]) (.tup [.int a, .int b]) = some (.bl false) := by
  simp [bNe, D.okB, D.okL, D.eqv, D.py, D.pyL, PyData.eqv, PyData.eqvAll]
theorem eq_int2 {a b : Int} : bEq (.int a) (.int b) = some (.bl (decide (a = b))) := by
  simp [bEq, D.okB, D.eqv, D.py, PyData.eqv]
  by_cases h : a = b <;> simp [h]
theorem ne_int2 {a b : Int} : bNe (.int a) (.int b) = some (.bl (!decide (a = b))) := by
  simp [bNe, D.okB, D.eqv, D.py, PyData.eqv]
  by_cases h : a = b <;> simp [h]
theorem eq_nil2 : bEq (.lst []) (.lst []) = some (.bl true) := rfl
end CL

namespace CL
open PySem PySem.Spec L2 PyProof.Rows
set_option autoImplicit false
/-! ### a slot's own list lent to an expression -/
mutual
def D.pure : D → Bool
  | .non => true
  | .bl _ => true
  | .int _ => true
  | .str _ => true
  | .tup l => D.pureL l
  | .ins _ _ l => D.pureL l
  | _ => false
def D.pureL : List D → Bool
  | [] => true
  | d :: ds => D.pure d && D.pureL ds
end
mutual
theorem RSh.anyZ {K : PySem.W.Frag} {Z Z' : Addr → Prop} {H : Hp} : ∀ (d : D) (v : V), D.pure d = true → RSh K Z H d v → RSh K Z' H d v
  | .non, _, _, h => by simpa only [RSh] using h
  | .bl _, _, _, h => by simpa only [RSh] using h
  | .int _, _, _, h => by simpa only [RSh] using h
  | .str _, _, _, h => by simpa only [RSh] using h
  | .tup l, _, p, h => by
    simp only [RSh] at h ⊢
    obtain ⟨a, xs, e, q, r⟩ := h
    exact ⟨a, xs, e, q, RShL.anyZ l xs (by simpa only [D.pure] using p) r⟩
  | .ins c ns l, _, p, h => by
    simp only [RSh] at h ⊢
    obtain ⟨C, a, dx, xs, e, k1, k2, k3, q, hl, r⟩ := h
    exact ⟨C, a, dx, xs, e, k1, k2, k3, q, hl, RShL.anyZ l xs (by simpa only [D.pure] using p) r⟩
  | .lst _, _, p, _ => by simp [D.pure] at p
  | .scr _, _, p, _ => by simp [D.pure] at p
  | .dct _ _, _, p, _ => by simp [D.pure] at p
theorem RShL.anyZ {K : PySem.W.Frag} {Z Z' : Addr → Prop} {H : Hp} : ∀ (ds : List D) (vs : List V), D.pureL ds = true → RShL K Z H ds vs → RShL K Z' H ds vs
  | [], _, _, h => by simpa only [RShL] using h
  | d :: ds, _, p, h => by
    simp only [RShL] at h ⊢
    simp only [D.pureL, Bool.and_eq_true] at p
    obtain ⟨w, ws, e, a, b⟩ := h
    exact ⟨w, ws, e, RSh.anyZ d w p.1 a, RShL.anyZ ds ws p.2 b⟩
end
def leafP : OT → D → Bool
  | .sh, d => d.pure
  | .ol t0 t, .lst (x :: l) => leafP t0 x && l.all (leafP t)
  | .ol _ _, .lst [] => true
  | _, _ => false
theorem R.anyZ {K : PySem.W.Frag} {Z Z' : Addr → Prop} {H : Hp} : ∀ {t : OT} {d : D} {v : V} {S : Addr → Prop}, leafP t d = true → R K Z H t d v S → R K Z' H t d v S
  | .sh, d, v, _, p, h => RSh.anyZ d v (by simpa only [leafP] using p) h
  | .ol t0 t, _, _, S, p, h => by
    obtain ⟨l, a, xs, ow, rfl, e2, e3, e4, e5, e6, e7, e8⟩ := h
    refine ⟨l, a, xs, ow, rfl, e2, e3, e4, e5, e6, fun d v p1 q => R.anyZ ?_ (e7 d v p1 q), fun k d v p1 q => R.anyZ ?_ (e8 k d v p1 q)⟩
    · cases l with
      | nil => simp at p1
      | cons x l => simp at p1; subst p1; simp only [leafP, Bool.and_eq_true] at p; exact p.1
    · cases l with
      | nil => simp at p1
      | cons x l =>
        simp only [leafP, Bool.and_eq_true, List.all_eq_true] at p
        exact p.2 d (List.mem_of_getElem? (by simpa using p1))
def borL (τ : Nat → OT) (i : Nat) : Nat → Sl → Sl → Prop
  | k, a :: ρ, b :: ρ' => (if k = i then b = a else (match b with | none => True | some d => (τ k = .sh ∧ a = some d) ∨ leafP (τ k) d = true)) ∧ borL τ i (k + 1) ρ ρ'
  | _, [], [] => True
  | _, _, _ => False
theorem borL_get {τ : Nat → OT} {i : Nat} : ∀ {k : Nat} {ρ ρ' : Sl}, borL τ i k ρ ρ' → ∀ j d, ρ'[j]? = some (some d) → (k + j = i ∧ ρ[j]? = some (some d)) ∨ (k + j ≠ i ∧ ((τ (k + j) = .sh ∧ ρ[j]? = some (some d)) ∨ leafP (τ (k + j)) d = true))
  | k, a :: ρ, b :: ρ', h, 0, d, e => by
    simp at e
    subst e
    simp only [borL] at h
    by_cases hk : k = i
    · rw [if_pos hk] at h
      exact .inl ⟨by omega, by simp [← h.1]⟩
    · rw [if_neg hk] at h
      refine .inr ⟨by omega, ?_⟩
      rcases h.1 with z | z
      · exact .inl ⟨z.1, by simp [z.2]⟩
      · exact .inr z
  | k, a :: ρ, b :: ρ', h, j + 1, d, e => by
    simp only [borL] at h
    have := borL_get h.2 j d (by simpa using e)
    rw [show k + 1 + j = k + (j + 1) by omega] at this
    simpa using this
  | _, [], [], _, j, d, e => by simp at e
  | _, [], _ :: _, h, _, _, _ => by simp [borL] at h
  | _, _ :: _, [], h, _, _, _ => by simp [borL] at h
open Classical in
noncomputable def mBor (τ : Nat → OT) (i : Nat) (m : M D) : M D := fun ρ => match m ρ with
  | .ok (d, ρ') => if d.pure = true ∧ borL τ i 0 ρ ρ' then .ok (d, ρ') else .bad
  | .exc e => .exc e
  | .bad => .bad
def fzT (τ : Nat → OT) (i : Nat) : Nat → OT := fun j => if j = i then .sh else τ j
theorem e_bor {X : Cx} {τ : Nat → OT} {q : Bool} {a : Expr} {ma : M D} (i : Nat) (h : PE X a (tE X.K (fzT τ i) q .sh ma)) : PE X a (tE X.K τ q .sh (mBor τ i ma)) := h.mono fun σ H Q ⟨Z, own, ρ, d, ρ', rs, e, k⟩ => by
  unfold mBor at e
  split at e
  case h_2 => cases e
  case h_3 => cases e
  rename_i d1 ρ1 e1
  split at e
  case isFalse => cases e
  rename_i hc
  cases e
  obtain ⟨hp, hb⟩ := hc
  have bg := borL_get hb
  classical
  have rs' : RS X.K (fzT τ i) (fun a => Z a ∨ own a = some i) (fun a => if own a = some i then none else own a) H ρ σ := by
    refine ⟨fun j d e => ?_, fun a j e => ?_, fun a j e z => ?_, fun a z => z.elim (rs.zt a) fun z e => ?_, rs.len⟩
    · obtain ⟨v, h1, h2⟩ := rs.sl j d e
      refine ⟨v, h1, ?_⟩
      show R X.K _ H (if j = i then .sh else τ j) d v _
      by_cases hij : j = i
      · rw [if_pos hij]; subst hij; exact R.freeze h2
      · rw [if_neg hij]
        refine R.pres (fun _ z => .inl z) (fun _ _ s _ => s) (fun _ _ _ s => s) (fun _ _ _ e => e) (R.mono h2 fun a ha => ?_)
        show (if own a = some i then none else own a) = some j
        rw [if_neg (fun z => by rw [ha] at z; cases z; exact hij rfl)]; exact ha
    · split at e
      · cases e
      · exact rs.ls a j e
    · split at e
      · cases e
      · rename_i n
        rcases z with z | z
        · exact rs.dz a j e z
        · exact n z
    · obtain ⟨xs, hx, _⟩ := rs.ls a i z
      rw [hx] at e; cases e
  refine ⟨_, _, ρ, d, ρ', rs', e1, fun v Z' own' H' S r1 r2 r3 x => ?_⟩
  have zk : ∀ a, Z a → Z' a ∧ own a ≠ some i := fun a z => ⟨x.z a (.inl z), fun e => rs.dz a i e z⟩
  have oi : ∀ a, own a = some i → (if own a = some i then (none : Option Nat) else own a) = none := fun a e => if_pos e
  have kp : ∀ a o, own a = some i → H a = some o → H' a = some o := fun a o e h => x.keep a o h (.inl (oi a e))
  have on' : ∀ a j, own' a = some j → own a ≠ some i ∧ ((own a = some j) ∨ H a = none) := fun a j e => by
    rcases x.on a j e with z | z
    · split at z
      · cases z
      · rename_i n; exact ⟨n, .inl z⟩
    · refine ⟨fun w => ?_, .inr z⟩
      obtain ⟨xs, hx, _⟩ := rs.ls a i w
      rw [hx] at z; cases z
  refine k v (fun a => Z' a ∧ own a ≠ some i) (fun a => if own a = some i then some i else own' a) H' (fun _ => False) ⟨fun j d' e => ?_, fun a j e => ?_, fun a j e z => ?_, fun a z => r1.zt a z.1, r1.len⟩ (RSh.anyZ _ _ hp r2) (fun _ z => z.elim) ⟨zk, fun a z => ?_, fun a j e => ?_, fun a o e hh => ?_, x.live⟩
  · have old : ρ[j]? = some (some d') → (τ j = .sh ∨ j = i) → ∃ v, σ[j]? = some (some v) ∧ R X.K (fun a => Z' a ∧ own a ≠ some i) H' (τ j) d' v (fun a => (if own a = some i then some i else own' a) = some j) := fun e hs => by
      obtain ⟨w, h1, h2⟩ := rs.sl j d' e
      refine ⟨w, h1, ?_⟩
      rcases hs with hs | hs
      · rw [hs] at h2 ⊢
        exact RSh.pres zk (rs'.nl x) (fun a o z s => rs'.kz x (.inl (.inl z)) s) _ _ h2
      · subst hs
        exact R.mono (R.pres zk (rs'.nl x) (fun a o z s => rs'.kz x (.inl (.inl z)) s) (fun a o s h => kp a o s h) h2) fun a ha => if_pos ha
    rcases bg j d' e with ⟨c1, c2⟩ | ⟨c1, c2⟩
    · exact old c2 (.inr (by omega))
    · rw [Nat.zero_add] at c1 c2
      rcases c2 with c2 | c2
      · exact old c2.2 (.inl c2.1)
      · obtain ⟨w, h1, h2⟩ := r1.sl j d' e
        have h2 : R X.K Z' H' (if j = i then .sh else τ j) d' w _ := h2
        rw [if_neg c1] at h2
        refine ⟨w, h1, R.mono (R.anyZ c2 h2) fun a ha => ?_⟩
        rw [if_neg (on' a j ha).1]; exact ha
  · split at e
    · rename_i w
      obtain ⟨o, ho, hm⟩ := rs.ls a i w
      exact ⟨o, kp a o w ho, hm⟩
    · exact r1.ls a j e
  · split at e
    · rename_i w; exact z.2 w
    · exact r1.dz a j e z.1
  · rcases x.zn a z.1 with w | w | ⟨_, _, w⟩
    · exact w.elim .inl fun w => absurd w z.2
    · exact .inr (.inl w)
    · simp at w
  · split at e
    · rename_i w; cases e; exact .inl w
    · exact (on' a j e).2
  · refine x.keep a o e (hh.imp (fun z => ?_) id)
    show (if own a = some i then none else own a) = none
    rw [z]; simp
theorem W_mBor {τ : Nat → OT} {i : Nat} {m : M D} {ρ : Sl} {Q : D → Sl → Prop} : W (mBor τ i m) ρ Q ↔ W m ρ fun d ρ' => (d.pure = true ∧ borL τ i 0 ρ ρ') ∧ Q d ρ' := by
  constructor
  · rintro ⟨d, ρ', e, q⟩
    unfold mBor at e
    split at e
    · split at e
      · rename_i e1 hc; cases e; exact ⟨_, _, e1, hc, q⟩
      · cases e
    · cases e
    · cases e
  · rintro ⟨d, ρ', e, hc, q⟩
    exact ⟨d, ρ', by unfold mBor; simp only [e]; rw [if_pos hc], q⟩
/-! ### dict displays -/
def D.key : D → Option Key
  | .int i => some (Sum.inl i)
  | .str x => some (Sum.inr x)
  | _ => none
section
variable {X : Cx} {τ : Nat → OT} {q q1 q2 : Bool} {a b : Expr} {ma mb : M D} {pos : Pos}
theorem e_dict0 : PE X (.Dict [] [] pos) (tE X.K τ true .sh (mC (.dct [] []))) := pe_dnewK.mono fun σ H Q ⟨Z, own, ρ, d, ρ', rs, e, k⟩ => by
  unfold mC at e; cases e
  intro p hp
  have g : Grow H (upd H p (.dK [])) := Grow.new hp
  exact k _ _ own _ (fun _ => False) (rs.grow g (NewS.one trivial hp)) (by simp only [Rm, R, RSh, RShL]; exact ⟨p, [], rfl, .inr rfl, upd_same, rfl, rfl⟩) (fun _ z => z.elim) (ExtF.grow g (NewS.one trivial hp))
def bDict1 (k v : D) : Option D := k.key.map fun _ => .dct [k] [v]
end
/-! ### a tuple from behind -/
section
variable {prog : Program} {w : World} {A : Around} {E : Value → Shared → Prop} {s : Shared}
theorem pick_rev (ys : Array Value) : ((List.range ys.size).filterMap fun (m : Nat) => ys[(((ys.size : Int) - 1) + (m : Int) * (-1)).toNat]?).toArray = ys.toList.reverse.toArray := by
  have e : (fun (m : Nat) => ys[(((ys.size : Int) - 1) + (m : Int) * (-1)).toNat]?) = (ys[·]?) ∘ fun (m : Nat) => (((ys.size : Int) - 1) + (m : Int) * (-1)).toNat := rfl
  rw [e, ← List.filterMap_map]
  have e2 : (List.range ys.size).map (fun (m : Nat) => (((ys.size : Int) - 1) + (m : Int) * (-1)).toNat) = (List.range ys.size).map fun k => ys.size - 1 - k := List.map_congr_left fun k hk => by
    have := List.mem_range.mp hk
    omega
  rw [e2, PySem.W.krv_range, List.filterMap_reverse, PySem.W.krv_all]
theorem applied_rev {sl : Addr} {v1 v2 v3 : Value} {n : Nat} {Q : Int × Int × Nat → Shared → Prop} (hs : s.heap.IsSliceOf sl v1 v2 v3) (p1 : IsPart v1 none) (p2 : IsPart v2 none) (p3 : IsPart v3 (some (-1)))
    (h : Q ((n : Int) - 1, -1, n) s) : wpAny (model prog w) A (Builtin.Slice.sliceApplied (.ref sl) (pure (n : Int))) Q E s := by
  obtain ⟨ob, h1, h2, h3⟩ := id hs
  unfold Builtin.Slice.sliceApplied Builtin.Slice.sliceFields
  refine wpAny_bind (wpAny_bind (wpAny_field h1 h3 (x := v1) rfl (wpAny_bind (wpAny_field h1 h3 (x := v2) rfl (wpAny_bind (wpAny_field h1 h3 (x := v3) rfl (wpAny_pure ?_)))))))
  refine wpAny_bind (HT.slicePart_ p3 ?_)
  show wpAny _ _ (if ((-1 : Int) == 0) = true then _ else _) _ _ s
  rw [if_neg (by decide)]
  refine wpAny_bind (HT.slicePart_ p1 (wpAny_bind (HT.slicePart_ p2 (wpAny_bind (wpAny_pure ?_)))))
  show wpAny _ _ (match Builtin.Slice.sliceAdjust none none (-1) (n : Int) with | (lo, hi) => pure (lo, (-1 : Int), Builtin.Slice.slicePlaces lo hi (-1))) _ _ s
  have e1 : Builtin.Slice.sliceAdjust none none (-1) (n : Int) = ((n : Int) - 1, -1) := by simp [Builtin.Slice.sliceAdjust]
  have e2 : Builtin.Slice.slicePlaces ((n : Int) - 1) (-1) (-1) = n := by
    simp only [Builtin.Slice.slicePlaces]
    rw [if_neg (by decide)]
    by_cases h0 : (n : Int) - 1 > -1
    · rw [if_pos h0, show (- -1 : Int) = 1 by decide, Int.ediv_one]; omega
    · rw [if_neg h0]; omega
  rw [e1]
  show wpAny _ _ (pure ((n : Int) - 1, (-1 : Int), Builtin.Slice.slicePlaces ((n : Int) - 1) (-1) (-1))) _ _ s
  rw [e2]
  exact wpAny_pure h
theorem item_tuple_rev {t sl : Addr} {ys : Array Value} {v1 v2 v3 : Value} {Q : Value → Shared → Prop} (ht : PyProof.Rows.IsTup s.heap t ys) (hs : s.heap.IsSliceOf sl v1 v2 v3) (p1 : IsPart v1 none) (p2 : IsPart v2 none) (p3 : IsPart v3 (some (-1)))
    (h : Q (.ref s.heap.objs.size) { s with heap := s.heap.push { cls := .type "tuple", data := .seq ys.toList.reverse.toArray } }) (hz : ys.size ≤ sizeLine) : wpAny (model prog w) A (getItem (.ref t) (.ref sl)) Q E s := by
  have ho : sizeOk (.seq ys.toList.reverse.toArray) := by
    show ys.toList.reverse.toArray.size ≤ sizeLine
    simpa using hz
  obtain ⟨ob, h1, h2, h3⟩ := id hs
  have ts : s.TypeIs (.ref sl) "slice" := ⟨ob, h1, h2⟩
  unfold getItem
  try with_reducible refine wpAny_holding ?_
  first | refine wpAny_bind (wpAny_pure ?_) | skip
  refine wpAny_bind (wpAny_sequenceKey ht.typeIs (by decide) ?_)
  refine wpAny_bind (wpAny_callSpecial?_slot (name := Str.ofString "__getitem__") ht.typeIs PyProof.Rows.slot_tuple_getitem (wpAny_call_entry PyProof.Rows.slot_tuple_getitem ht.typeIs PyProof.Rows.entry_tuple_getitem ?_ (PyProof.Rows.args_tuple_getitem _ _)))
  show wpAny _ _ (Builtin.Tuple.tupleItemsOf (.ref t) >>= _) _ _ s
  refine wpAny_bind (PyProof.Rows.tupleItemsOf_ ht (wpAny_bind (wpAny_typeOf ts ?_)))
  rw [if_pos (by decide)]
  refine wpAny_bind (applied_rev hs p1 p2 p3 ?_)
  show wpAny _ _ (if (((ys.size : Int) - 1) == 0 && (-1 : Int) == 1 && ys.size == ys.size) = true then _ else _) _ _ s
  rw [if_neg (by simp), pick_rev]
  first
    | exact wpAny_bind (m := Builtin.Tuple.tupleExact _) (wpAny_newObj_type (wpAny_pure ⟨_, rfl, wpAny_pure h⟩) ho)
    | exact wpAny_bind (m := Builtin.Tuple.tupleExact _) (wpAny_newObj_type (wpAny_bind (wpAny_pure (wpAny_pure ⟨_, rfl, wpAny_pure h⟩))) ho)
    | exact wpAny_bind (wpAny_bind (m := Builtin.Tuple.tupleExact _) (wpAny_newObj_type (wpAny_pure (wpAny_pure ⟨_, rfl, wpAny_pure h⟩)) ho))
    | exact wpAny_bind (wpAny_bind (m := Builtin.Tuple.tupleExact _) (wpAny_newObj_type (wpAny_pure ⟨_, rfl, wpAny_pure h⟩) ho))
end
section
variable {X : Cx}
def tRevT (K : PySem.W.Frag) (te : TE) : TE := fun σ H Q => te σ H fun x H1 => ∃ a xs, x = .ref a ∧ SqT K H1 a xs ∧ ∀ p, H1 p = none → Q (.ref p) (upd H1 p (.tup xs.reverse))
theorem pe_revT {e : Expr} {te : TE} {k : Nat} {p1 p2 p3 pos : Pos} (he : PE X e te) : PE X (.Subscript e (.Slice none none (some (.UnaryOp .USub (.Constant (.int 1) k p1) p2)) p3) pos) (tRevT X.K te) := by
  refine ⟨fun pins s σ H Q I h => ?_⟩
  refine PyProof.Rows.Subscript_ (thn (he.run pins s σ H _ I h) fun v s1 ⟨x, H1, I1, r1, a, xs, ex, hx, qq⟩ => ?_)
  subst ex
  cases r1
  have hst : PO X (some (.UnaryOp .USub (.Constant (.int 1) k p1) p2)) (tPart (tUn (rU fun i => .int (-i)) (tC (.int 1)))) := po_some (pe_un un_neg pe_int)
  refine wpAny_Slice (thn (po_none.run pins s1 σ H1 (fun o H2 => o = none ∧ H2 = H1) I1 ⟨rfl, rfl⟩) fun vl s2 ⟨l, H2, I2, pl, el, e2⟩ => ?_)
  subst el e2
  refine thn (po_none.run pins s2 σ H2 (fun o H3 => o = none ∧ H3 = H2) I2 ⟨rfl, rfl⟩) fun vu s3 ⟨u, H3, I3, pu, eu, e3⟩ => ?_
  subst eu e3
  refine thn (hst.run pins s3 σ H3 (fun o H4 => o = some (-1) ∧ H4 = H3) I3 ⟨1, rfl, -1, rfl, rfl, rfl⟩) fun vs s4 ⟨o, H4, I4, ps, eo, e4⟩ => ?_
  subst eo e4
  have J : Inv X pins σ H4 { s4 with heap := s4.heap.push { cls := .type "slice", data := .fields #[vl, vu, vs] } } := I4.kept (t' := s4.toks) fun b ob q => Heap.get?_push_of_some _ q
  obtain ⟨its, r, ht, hz⟩ := J.tuple hx
  have hlen := r.length
  show wpAny (model X.prog X.w) X.A (subscriptTail e (.Slice none none (some (.UnaryOp .USub (.Constant (.int 1) k p1) p2)) p3) (.ref a) (.ref s4.heap.objs.size)) (EP X pins σ Q) X.xe { s4 with heap := s4.heap.push { cls := .type "slice", data := .fields #[vl, vu, vs] } }
  refine tail_any (ops := [.ref a, .ref s4.heap.objs.size]) ht.typeIs (PyProof.Rows.slot_tuple_getitem.lookup) ?_ (by with_unfolding_all rfl)
  refine item_tuple_rev ht (Heap.IsSliceOf.new _ vl vu vs) pl pu ps ?_ (by rw [List.size_toArray]; omega)
  refine ⟨.ref _, _, J.laid (t' := s4.toks) (o := .tup xs.reverse) (fun b ob q => Heap.get?_push_of_some _ q) (Nat.le_refl _) ?_, rfl, qq _ (J.hok.fresh (Nat.le_refl _))⟩
  exact ⟨by rw [List.length_reverse]; exact hz, _, r.reverse, PyProof.Rows.IsTup.new _ _⟩
def bRevT : D → Option D
  | .tup l => some (.tup l.reverse)
  | _ => none
variable {τ : Nat → OT} {q : Bool} {md : Md} {e : Expr} {ma : M D} {pos p2 : Pos}
theorem e_revT {k1 : Nat} {p1 p3 : Pos} (he : PE X e (tE X.K τ q md ma)) (hm : Hand md := by trivial) : PE X (.Subscript e (.Slice none none (some (.UnaryOp .USub (.Constant (.int 1) k1 p1) p2)) p3) pos) (tE X.K τ q .sh (m1 bRevT ma)) := (pe_revT he).mono fun σ H Q ⟨Z, own, ρ, d, ρ', rs, e, k⟩ => by
  obtain ⟨x, ρ1, e1, f1⟩ := bind_ok e
  obtain ⟨f2, rfl⟩ := ofO_ok f1
  unfold bRevT at f2
  split at f2
  · rename_i l
    cases f2
    refine ⟨Z, own, ρ, _, ρ', rs, e1, fun v Z1 own1 H1 S1 rs1 rm1 _ x1 => ?_⟩
    obtain ⟨a, xs, rfl, s1, l1⟩ := (rm1.pk0 hm).tup
    refine ⟨a, xs, rfl, s1, fun p hp => ?_⟩
    have g : Grow H1 (upd H1 p (.tup xs.reverse)) := Grow.new hp
    exact fin_sh rs1 x1 g (RF.tup (g.shL l1.reverse) (SqT.of upd_same)) NewS.none k
  · cases f2
end
end CL

namespace CL
open PySem PySem.Spec L2 PyProof.Rows
open AutoSeq1 (wpAny_loadPart')
set_option autoImplicit false
/-! ### enumerate of a tuple -/
theorem enum_newT (t : Addr) (ys : Array Value) :
    Meets (Builtin.«enumerate.__new__» ⟨[.type "enumerate", .ref t], []⟩) (fun _ R s => s.heap.IsTuple t ys ∧
      R (.ok (.ret (.ref (s.heap.push { cls := .type "tuple_iterator", data := .fields #[.ref t, .int 0 0] }).objs.size)))
        { s with heap := (s.heap.push { cls := .type "tuple_iterator", data := .fields #[.ref t, .int 0 0] }).push { cls := .type "enumerate", data := .fields #[.none, .bool false, .ref s.heap.objs.size, rawInt 0, .none, .none] } }) :=
  .of_wp fun prog w A R s h => by
    obtain ⟨hp, g, d, tk, os⟩ := s; obtain ⟨ht, h⟩ := h
    have hsub := sub_enumerate
    have q1 : ∀ {A' : Around} {E : Value → Shared → Prop} {Q : Value → Shared → Prop}, Q (.ref hp.objs.size) ⟨hp.push { cls := .type "tuple_iterator", data := .fields #[.ref t, .int 0 0] }, g, d, tk, os⟩ → wpAny (model prog w) A' (pyIter (.ref t)) Q E ⟨hp, g, d, tk, os⟩ :=
      fun q => wpAny_pyIter_tuple ht q
    wp_walk using q1
    refine wpAny_stack_any fun st => wpAny_pure ?_
    split
    · rename_i c _ _ _ _ _
      cases (c == Value.type "enumerate")
      · wp_walk using q1
        exact ⟨_, rfl, h⟩
      · wp_walk using q1
        exact ⟨_, rfl, h⟩
    · wp_walk using q1
      exact ⟨_, rfl, h⟩
theorem enum_tuple {prog : Program} {w : World} {A : Around} {E : Value → Shared → Prop} {s : Shared} {t : Addr} {ys : Array Value} {Q : Value → Shared → Prop} (hT : s.heap.IsTuple t ys)
    (h : ∀ h', IsEnum h' (s.heap.objs.size + 1) s.heap.objs.size 0 .none → h'.IsTupleIter s.heap.objs.size t 0 → h'.objs.size = s.heap.objs.size + 2 →
      (∀ b o, s.heap.get? b = some o → h'.get? b = some o) → Q (.ref (s.heap.objs.size + 1)) { s with heap := h' }) :
    wpAny (model prog w) A (call (.type "enumerate") [.ref t]) Q E s := by
  refine callType_new F.called_enumerate (by decide) (F.typeCall_enumerate_1 _) (F.newCall_enumerate_1 _) (fun ob => F.args_object_init_2 ob _) F.entry_enumerate_new (enum_newT t ys) ⟨hT, ?_⟩
  have hz : (s.heap.push { cls := .type "tuple_iterator", data := .fields #[.ref t, .int 0 0] }).objs.size = s.heap.objs.size + 1 := Heap.size_push ..
  show _ ∧ _
  rw [hz]
  have he : IsEnum ((s.heap.push { cls := .type "tuple_iterator", data := .fields #[.ref t, .int 0 0] }).push { cls := .type "enumerate", data := .fields #[.none, .bool false, .ref s.heap.objs.size, rawInt 0, .none, .none] }) (s.heap.objs.size + 1) s.heap.objs.size 0 .none := by
    have := Heap.get?_push_size (s.heap.push { cls := .type "tuple_iterator", data := .fields #[.ref t, .int 0 0] }) (o := { cls := .type "enumerate", data := .fields #[.none, .bool false, .ref s.heap.objs.size, rawInt 0, .none, .none] }) rfl
    rw [hz] at this; exact this
  refine ⟨⟨_, he, rfl⟩, h _ he ⟨_, Heap.get?_push_of_some _ (Heap.get?_push_size _ rfl), rfl, rfl⟩ (by rw [Heap.size_push, hz]) fun b o x => Heap.get?_push_of_some _ (Heap.get?_push_of_some _ x)⟩
/-- the tuple at a, each item in a new pair -/
def IteT (K : PySem.W.Frag) (a : Addr) : It :=
  ⟨fun i H => ∃ (xs : List V) (x : V), SqT K H a xs ∧ xs[i]? = some x, fun i H v H' => ∃ T x, v = .ref T ∧ H T = none ∧ H' = upd H T (.tup [.int (i : Nat), x]) ∧ ∀ xs, SqT K H a xs → xs[i]? = some x, fun i H => ∃ xs : List V, SqT K H a xs ∧ xs.length = i⟩
theorem turn_enumT {P : Program} {w : World} {K : PySem.W.Frag} {elts : List Expr} {kk : Nat} {tpos : Pos} (a e it : Addr) (ha : a ≠ e ∧ a ≠ it) :
    Turn P w K (.Tuple elts kk tpos) (IteT K a) [e, it] e (fun i h => (∃ old, IsEnum h e it ((i : Nat) : Int) old) ∧ h.IsTupleIter it a i ∧ e ≠ it) where
  mem := by simp
  obj := fun i h st b hb => by
    obtain ⟨⟨old, he⟩, ⟨o, ho, hc, hd⟩, _⟩ := st
    rcases (show b = e ∨ b = it by simpa using hb) with z | z
    · rw [z]; exact ⟨_, he, fun v q => nomatch q⟩
    · rw [z]; exact ⟨o, ho, fun v q => by rw [hd] at q; cases q⟩
  keep := fun i h h' st k => let ⟨⟨old, he⟩, hi, hne⟩ := st; ⟨⟨old, k e (by simp) _ he⟩, hi.at fun o q => k it (by simp) o q, hne⟩
  item := by
    intro X hP hw hK hc i pins s σ H E I hf st hg
    subst hP hw hK
    obtain ⟨⟨old, he⟩, hit, hne⟩ := st
    obtain ⟨xs, x, hq, hx⟩ := hg
    obtain ⟨its, rv, p, hz⟩ := I.tuple hq
    obtain ⟨u, hu, ru⟩ := rv.get hx
    have hel : e < s.heap.objs.size := Heap.lt_size he
    have hil : it < s.heap.objs.size := by obtain ⟨_, q, _⟩ := hit; exact Heap.lt_size q
    have hh : X.A.in1.handled = none := I.ok.hd hc
    have hlt : i < its.toArray.size := by
      have := (List.getElem?_eq_some_iff.mp hu).1
      simpa using this
    refine wpAny_pyNext_enum_itemC (Draws.tuple hh it a ha.2 its.toArray) he ⟨hit, p⟩ hlt hne (by simp [hne, Ne.symm ha.1]) fun x' h' tk hP ho hst hT hsz hk => ?_
    have ex : x' = u := by
      have hP : its.toArray[i]? = some x' := hP
      rw [List.getElem?_toArray, hu] at hP
      exact (Option.some.inj hP).symm
    subst ex
    refine ⟨_, rfl, wpAny_letOwnedTupleGo_enum (s := { s with heap := h', toks := tk + 1 }) ho fun h'' he' sb => ?_⟩
    have hT2 : h''.get? s.heap.objs.size = some { cls := .type "tuple", data := .seq #[.int i tk, x'] } := (sb.2 _ (Nat.ne_of_gt hel)).trans hT
    have new : ObjOk X.prog X.w (upd H s.heap.objs.size (.tup [.int (i : Nat), x])) h'' s.heap.objs.size (.tup [.int (i : Nat), x]) := ⟨by show 2 ≤ sizeLine; decide, [.int i tk, x'], .cons ⟨_, rfl⟩ (.cons ru .nil), ⟨_, hT2, rfl, _, rfl⟩⟩
    have J : Inv X pins σ (upd H s.heap.objs.size (.tup [.int (i : Nat), x])) { s with heap := h'', toks := tk + 1 } :=
      I.turnedNew (ch := [e, it]) (fun b ob hb q => (sb.2 b (fun z => hb (by simp [z]))).trans (hk b ob (fun z => hb (by simp [z])) (fun z => hb (by simp [z])) q)) hf (Nat.le_refl _) new
    refine ⟨.ref s.heap.objs.size, _, J, rfl, ⟨_, x, rfl, I.hok.fresh (Nat.le_refl _), rfl, fun ys hy => by rw [I.tuple_inj hy hq]; exact hx⟩, ⟨⟨x', ?_⟩, hst.1.at fun o q => (sb.2 it (Ne.symm hne)).trans q, hne⟩, fun b hb => ?_⟩
    · rw [show ((i + 1 : Nat) : Int) = (i : Int) + 1 by omega]; exact he'
    · have hb' : b < s.heap.objs.size := by
        rcases (show b = e ∨ b = it by simpa using hb) with z | z
        · rw [z]; exact hel
        · rw [z]; exact hil
      rw [upd_ne (Nat.ne_of_lt hb')]
      exact (hf b hb).1
  done := by
    intro X hP hw hK hc i pins s σ H E I hf st hg
    subst hP hw hK
    obtain ⟨⟨old, he⟩, hit, hne⟩ := st
    obtain ⟨xs, hq, hx⟩ := hg
    obtain ⟨its, rv, p, hz⟩ := I.tuple hq
    obtain ⟨f0, f1, f2, f3, f4, f5⟩ := hf it (by simp)
    have hl := rv.length
    have hh : X.A.in1.handled = none := I.ok.hd hc
    have ei : its.toArray.size = i := by simp; omega
    refine wpAny_pyNext_enum_endD (Draws.tuple hh it a ha.2 its.toArray) he ⟨by rw [ei]; exact hit, p⟩ fun h' eb => ⟨rfl, I.turned (t' := s.toks) (fun b o hb q => eb b o hb q) f0 f1 f3 f4 f5⟩
  self := fun A i s Q E st h => let ⟨⟨_, he⟩, _⟩ := st; wpAny_pyIter_enum he h
def iEnumA (K : PySem.W.Frag) (ta : TA) : TI := fun σ H R => ta σ H fun vs H1 => ∃ a xs, vs = [.ref a] ∧ ((SqL K H1 a xs ∧ R (Ite K a) H1) ∨ (SqT K H1 a xs ∧ R (IteT K a) H1))
theorem pi_enumA {X : Cx} {e : Expr} {ta : TA} {p pos tpos : Pos} {elts : List Expr} {kk : Nat} (hg : Gl X "enumerate") (hm : X.mg "enumerate" = none) (ha : PA X [e] ta) (hs : starEach [e] X.env = [(false, eval e X.env)] := by rfl) :
    PI X (.Tuple elts kk tpos) (.Call (.Name "enumerate" p) [e] [] pos) (iEnumA X.K ta) := by
  refine ⟨fun pins s σ H R I h => ?_⟩
  refine Call_ (ld_blt I hg hm boot_enumerate (PyProof.Rows.callWith_type1 (thn (ha.run pos pins s σ H _ I h) fun us s1 ⟨vs, H1, J, r1, a, xs, ex, q1⟩ => ?_) hs rfl))
  subst ex
  cases r1 with
  | cons r rr =>
    cases rr
    cases r
    have fin : ∀ b ∈ [s1.heap.objs.size + 1, s1.heap.objs.size], s1.heap.objs.size ≤ b := fun b hb => by
      rcases (show b = s1.heap.objs.size + 1 ∨ b = s1.heap.objs.size by simpa using hb) with z | z
      · rw [z]; exact Nat.le_add_right _ _
      · rw [z]; exact Nat.le_refl _
    rcases q1 with ⟨hq, q⟩ | ⟨hq, q⟩
    · obtain ⟨its, rv, p', hz⟩ := J.list hq
      refine call_enumerate_list p'.isList fun h' he hit hsz hk => wpAny_pyIter_enum he ?_
      have J2 : Inv X pins σ H1 { s1 with heap := h' } := J.kept (t' := s1.toks) hk
      exact ⟨s1.heap.objs.size + 1, [s1.heap.objs.size + 1, s1.heap.objs.size], _, _, H1, rfl, J2, turn_enum a (s1.heap.objs.size + 1) s1.heap.objs.size, ⟨⟨.none, he⟩, hit, Nat.succ_ne_self _⟩, fun b hb => J.fpOk (fin b hb) (J.hok.fresh (fin b hb)), q⟩
    · obtain ⟨its, rv, p', hz⟩ := J.tuple hq
      have la : a < s1.heap.objs.size := p'.lt
      refine enum_tuple p' fun h' he hit hsz hk => wpAny_pyIter_enum he ?_
      have J2 : Inv X pins σ H1 { s1 with heap := h' } := J.kept (t' := s1.toks) hk
      exact ⟨s1.heap.objs.size + 1, [s1.heap.objs.size + 1, s1.heap.objs.size], _, _, H1, rfl, J2, turn_enumT a (s1.heap.objs.size + 1) s1.heap.objs.size ⟨Nat.ne_of_lt (Nat.lt_succ_of_lt la), Nat.ne_of_lt la⟩, ⟨⟨.none, he⟩, hit, Nat.succ_ne_self _⟩, fun b hb => J.fpOk (fin b hb) (J.hok.fresh (fin b hb)), q⟩
end CL

namespace CL
open PySem PySem.Spec L2
set_option autoImplicit false
/-! ### pairs walked -/
def enumFrom : Nat → List D → List D
  | _, [] => []
  | k, d :: ds => .tup [.int (k : Nat), d] :: enumFrom (k + 1) ds
theorem enumFrom_len : ∀ (k : Nat) (l : List D), (enumFrom k l).length = l.length
  | _, [] => rfl
  | k, d :: ds => by simp [enumFrom, enumFrom_len (k + 1) ds]
theorem enumFrom_get : ∀ {k i : Nat} {l : List D} {d : D}, (enumFrom k l)[i]? = some d → ∃ e, l[i]? = some e ∧ d = .tup [.int ((k + i : Nat) : Int), e]
  | _, _, [], _, h => by simp [enumFrom] at h
  | k, 0, e :: l, d, h => by simp [enumFrom] at h; exact ⟨e, by simp, by simp [← h]⟩
  | k, i + 1, e :: l, d, h => by
    obtain ⟨e', h1, h2⟩ := enumFrom_get (k := k + 1) (i := i) (by simpa [enumFrom] using h)
    exact ⟨e', by simpa using h1, by rw [h2]; congr 3; omega⟩
def enumL : List D → Option (List D)
  | [.tup l] => some (enumFrom 0 l)
  | [.lst l] => some (enumFrom 0 l)
  | _ => none
def zipL : List D → List D → List D
  | a :: as, b :: bs => .tup [a, b] :: zipL as bs
  | _, _ => []
theorem zipL_len : ∀ (a b : List D), (zipL a b).length = min a.length b.length
  | [], b => by simp [zipL]
  | a :: as, [] => by simp [zipL]
  | a :: as, b :: bs => by simp [zipL, zipL_len as bs]
theorem zipL_get : ∀ {i : Nat} {a b : List D} {d : D}, (zipL a b)[i]? = some d → ∃ x y, a[i]? = some x ∧ b[i]? = some y ∧ d = .tup [x, y]
  | _, [], _, _, h => by simp [zipL] at h
  | _, _ :: _, [], _, h => by simp [zipL] at h
  | 0, a :: as, b :: bs, d, h => by simp [zipL] at h; exact ⟨a, b, by simp, by simp, h.symm⟩
  | i + 1, a :: as, b :: bs, d, h => by
    obtain ⟨x, y, h1, h2, h3⟩ := zipL_get (i := i) (by simpa [zipL] using h)
    exact ⟨x, y, by simpa using h1, by simpa using h2, h3⟩
def zip2 : List D → Option (List D)
  | [.tup l, .tup m] => some (zipL l m)
  | [.lst l, .lst m] => some (zipL l m)
  | _ => none
section
variable {X : Cx} {τ : Nat → OT} {q : Bool} {a b : Expr} {ms : M (List D)} {pos p tpos : Pos} {elts : List Expr} {kk : Nat}
theorem shL1 {K : PySem.W.Frag} {Z : Addr → Prop} {H : Hp} {d : D} {vs : List V} (h : RShL K Z H [d] vs) : ∃ v, vs = [v] ∧ RSh K Z H d v := by
  simp only [RShL] at h
  obtain ⟨v, ws, rfl, r, rfl⟩ := h
  exact ⟨v, rfl, r⟩
theorem shL2 {K : PySem.W.Frag} {Z : Addr → Prop} {H : Hp} {d e : D} {vs : List V} (h : RShL K Z H [d, e] vs) : ∃ v w, vs = [v, w] ∧ RSh K Z H d v ∧ RSh K Z H e w := by
  simp only [RShL] at h
  obtain ⟨v, ws, rfl, r, w, us, rfl, r2, rfl⟩ := h
  exact ⟨v, w, rfl, r, r2⟩
theorem pairRel {K : PySem.W.Frag} {Z : Addr → Prop} {H : Hp} {T : Addr} {d e : D} {v w : V} (hT : H T = none) (r1 : RSh K Z H d v) (r2 : RSh K Z H e w) : Grow H (upd H T (.tup [v, w])) ∧ RSh K Z (upd H T (.tup [v, w])) (.tup [d, e]) (.ref T) := by
  have g : Grow H (upd H T (.tup [v, w])) := Grow.new hT
  refine ⟨g, ?_⟩
  simp only [RSh, RShL]
  exact ⟨T, [v, w], rfl, SqT.of upd_same, v, [w], rfl, g.sh r1, w, [], rfl, g.sh r2, rfl⟩
theorem pi_know {tg e : Expr} {ti : TI} (h : PI X tg e ti) : PI X tg e (fun σ H R => ti σ H fun J H1 => (∀ a xs, SqT X.K H1 a xs ∨ SqL X.K H1 a xs → xs.length ≤ sizeLine) → R J H1) := ⟨fun pins s σ H R I hw =>
  thn (h.run pins s σ H _ I hw) fun v s1 h1 => thn h1 fun itv s2 ⟨it, fp, tn, J, H', h1, I2, h3, h4, h5, h6⟩ => ⟨it, fp, tn, J, H', h1, I2, h3, h4, h5, h6 fun a xs q => q.elim (fun q => by
    obtain ⟨_, _, _, z⟩ := I2.tuple q; exact z) fun q => by obtain ⟨_, _, _, z⟩ := I2.list q; exact z⟩⟩
theorem i_enum (ha : PA X [a] (tAs X.K τ q ms)) (hm : X.mg "enumerate" = none := by assumption) (hg : Gl X "enumerate" := by rfl) (hs : starEach [a] X.env = [(false, eval a X.env)] := by rfl) :
    PI X (.Tuple elts kk tpos) (.Call (.Name "enumerate" p) [a] [] pos) (tI X.K τ q (mItN enumL ms)) := (pi_know (pi_enumA hg hm ha hs)).mono fun σ H Rk ⟨Z, own, ρ, ds, ρ', rs, e, k⟩ => by
  obtain ⟨d, ρ1, e1, e⟩ := bind_ok e
  obtain ⟨e3, rfl⟩ := ofL_ok e
  refine ⟨Z, own, ρ, d, ρ', rs, e1, fun vs Z1 own1 H1 rs1 rl x1 => ?_⟩
  unfold enumL at e3
  split at e3
  · rename_i l
    cases e3
    obtain ⟨v, rfl, rv⟩ := shL1 rl
    simp only [RSh] at rv
    obtain ⟨t, xs, rfl, s, r⟩ := rv
    refine ⟨t, xs, rfl, .inr ⟨s, fun hsz => k _ Z1 own1 H1 rs1 ⟨fun Z2 H2 lt i hi => ?_, fun Z2 H2 lt i d hd x H3 y => ?_, fun Z2 H2 lt => ?_, ?_⟩ x1⟩⟩
    · rw [enumFrom_len, r.len] at hi
      exact ⟨xs, xs[i], NL.sqT lt.2.1 s, List.getElem?_eq_getElem hi⟩
    · obtain ⟨e', g1, rfl⟩ := enumFrom_get hd
      obtain ⟨T, z, rfl, hT, rfl, hz⟩ := y
      obtain ⟨w, g2, g3⟩ := r.get g1
      rw [hz xs (NL.sqT lt.2.1 s)] at g2; cases g2
      rw [Nat.zero_add]
      exact pairRel hT (by simp only [RSh]) (RSh.pres lt.1 lt.2.1 lt.2.2 e' _ g3)
    · exact ⟨xs, NL.sqT lt.2.1 s, by rw [enumFrom_len, r.len]⟩
    · rw [enumFrom_len, r.len]
      exact hsz t xs (.inl s)
  · rename_i l
    cases e3
    obtain ⟨v, rfl, rv⟩ := shL1 rl
    simp only [RSh] at rv
    obtain ⟨t, xs, rfl, z, s, r⟩ := rv
    refine ⟨t, xs, rfl, .inl ⟨SqL.of s, fun hsz => k _ Z1 own1 H1 rs1 ⟨fun Z2 H2 lt i hi => ?_, fun Z2 H2 lt i d hd x H3 y => ?_, fun Z2 H2 lt => ?_, ?_⟩ x1⟩⟩
    · rw [enumFrom_len, r.len] at hi
      exact ⟨xs, xs[i], SqL.of (lt.2.2 t _ z s), List.getElem?_eq_getElem hi⟩
    · obtain ⟨e', g1, rfl⟩ := enumFrom_get hd
      obtain ⟨T, y', rfl, hT, rfl, hz⟩ := y
      obtain ⟨w, g2, g3⟩ := r.get g1
      rw [hz xs (SqL.of (lt.2.2 t _ z s))] at g2; cases g2
      rw [Nat.zero_add]
      exact pairRel hT (by simp only [RSh]) (RSh.pres lt.1 lt.2.1 lt.2.2 e' _ g3)
    · exact ⟨xs, SqL.of (lt.2.2 t _ z s), by rw [enumFrom_len, r.len]; exact Nat.le_refl _⟩
    · rw [enumFrom_len, r.len]
      exact hsz t xs (.inr (SqL.of s))
  · cases e3
theorem i_zip2 (ha : PA X [a, b] (tAs X.K τ q ms)) (hm : X.mg "zip" = none := by assumption) (hg : Gl X "zip" := by rfl) (hs : starEach [a, b] X.env = (false, eval a X.env) :: starEach [b] X.env := by rfl) (hpl : (backTo pos (starEach [b] X.env)).any (·.1) = false := by rfl) :
    PI X (.Tuple elts kk tpos) (.Call (.Name "zip" p) [a, b] [] pos) (tI X.K τ q (mItN zip2 ms)) := (pi_know (RZ.pi_zipA hg hm ha hs hpl)).mono fun σ H Rk ⟨Z, own, ρ, ds, ρ', rs, e, k⟩ => by
  obtain ⟨d, ρ1, e1, e⟩ := bind_ok e
  obtain ⟨e3, rfl⟩ := ofL_ok e
  refine ⟨Z, own, ρ, d, ρ', rs, e1, fun vs Z1 own1 H1 rs1 rl x1 => ?_⟩
  unfold zip2 at e3
  split at e3
  · rename_i l m
    cases e3
    obtain ⟨v, w, rfl, rv, rw'⟩ := shL2 rl
    simp only [RSh] at rv rw'
    obtain ⟨t, xs, rfl, s, r⟩ := rv
    obtain ⟨u, ys, rfl, s2, r2⟩ := rw'
    refine ⟨t, u, xs, ys, rfl, .inr ⟨s, s2, fun hsz => k _ Z1 own1 H1 rs1 ⟨fun Z2 H2 lt i hi => ?_, fun Z2 H2 lt i d hd x H3 y => ?_, fun Z2 H2 lt => ?_, ?_⟩ x1⟩⟩
    · rw [zipL_len, r.len, r2.len] at hi
      exact ⟨xs, ys, xs[i], ys[i], NL.sqT lt.2.1 s, NL.sqT lt.2.1 s2, List.getElem?_eq_getElem (by omega), List.getElem?_eq_getElem (by omega)⟩
    · obtain ⟨x', y', g1, g2, rfl⟩ := zipL_get hd
      obtain ⟨T, z1, z2, rfl, hT, rfl, hz1, hz2⟩ := y
      obtain ⟨w1, k1, k2⟩ := r.get g1
      obtain ⟨w2, k3, k4⟩ := r2.get g2
      rw [hz1 xs (NL.sqT lt.2.1 s)] at k1; cases k1
      rw [hz2 ys (NL.sqT lt.2.1 s2)] at k3; cases k3
      exact pairRel hT (RSh.pres lt.1 lt.2.1 lt.2.2 _ _ k2) (RSh.pres lt.1 lt.2.1 lt.2.2 _ _ k4)
    · exact ⟨xs, ys, NL.sqT lt.2.1 s, NL.sqT lt.2.1 s2, by rw [zipL_len, r.len, r2.len]; omega⟩
    · have := hsz t xs (.inl s)
      rw [zipL_len, r.len]; omega
  · rename_i l m
    cases e3
    obtain ⟨v, w, rfl, rv, rw'⟩ := shL2 rl
    simp only [RSh] at rv rw'
    obtain ⟨t, xs, rfl, z1, s, r⟩ := rv
    obtain ⟨u, ys, rfl, z2, s2, r2⟩ := rw'
    refine ⟨t, u, xs, ys, rfl, .inl ⟨SqL.of s, SqL.of s2, fun hsz => k _ Z1 own1 H1 rs1 ⟨fun Z2 H2 lt i hi => ?_, fun Z2 H2 lt i d hd x H3 y => ?_, fun Z2 H2 lt => ?_, ?_⟩ x1⟩⟩
    · rw [zipL_len, r.len, r2.len] at hi
      exact ⟨xs, ys, xs[i], ys[i], SqL.of (lt.2.2 t _ z1 s), SqL.of (lt.2.2 u _ z2 s2), List.getElem?_eq_getElem (by omega), List.getElem?_eq_getElem (by omega)⟩
    · obtain ⟨x', y', g1, g2, rfl⟩ := zipL_get hd
      obtain ⟨T, y1, y2, rfl, hT, rfl, hz1, hz2⟩ := y
      obtain ⟨w1, k1, k2⟩ := r.get g1
      obtain ⟨w2, k3, k4⟩ := r2.get g2
      rw [hz1 xs (SqL.of (lt.2.2 t _ z1 s))] at k1; cases k1
      rw [hz2 ys (SqL.of (lt.2.2 u _ z2 s2))] at k3; cases k3
      exact pairRel hT (RSh.pres lt.1 lt.2.1 lt.2.2 _ _ k2) (RSh.pres lt.1 lt.2.1 lt.2.2 _ _ k4)
    · exact ⟨xs, ys, SqL.of (lt.2.2 t _ z1 s), SqL.of (lt.2.2 u _ z2 s2), by rw [zipL_len, r.len, r2.len]; omega⟩
    · have := hsz t xs (.inr (SqL.of s))
      rw [zipL_len, r.len]; omega
  · cases e3
end
/-! ### small things -/
def bIsB (a b : D) : Option D := match a, b with | .bl x, .bl y => some (.bl (decide (x = y))) | _, _ => none
def bNotB (a b : D) : Option D := match a, b with | .bl x, .bl y => some (.bl (!decide (x = y))) | _, _ => none
def bStr : List D → Option D
  | [.int i] => if i.natAbs < bigR then some (.str (toString i)) else none
  | [.str x] => some (.str x)
  | _ => none
def maxL : List Int → Option Int
  | [] => none
  | a :: l => some (l.foldl max a)
def minL : List Int → Option Int
  | [] => none
  | a :: l => some (l.foldl min a)
theorem foldl_max : ∀ (l : List Int) (a : Int), (l.foldl max a = a ∨ l.foldl max a ∈ l) ∧ a ≤ l.foldl max a ∧ ∀ y ∈ l, y ≤ l.foldl max a
  | [], a => by simp
  | b :: l, a => by
    obtain ⟨h1, h2, h3⟩ := foldl_max l (max a b)
    simp only [List.foldl_cons]
    refine ⟨?_, by omega, fun y hy => ?_⟩
    · rcases h1 with h | h
      · rw [h]
        rcases Int.le_total a b with z | z
        · rw [Int.max_eq_right z]; simp
        · rw [Int.max_eq_left z]; simp
      · right; simp [h]
    · rcases List.mem_cons.mp hy with rfl | hy
      · omega
      · exact h3 y hy
theorem foldl_min : ∀ (l : List Int) (a : Int), (l.foldl min a = a ∨ l.foldl min a ∈ l) ∧ l.foldl min a ≤ a ∧ ∀ y ∈ l, l.foldl min a ≤ y
  | [], a => by simp
  | b :: l, a => by
    obtain ⟨h1, h2, h3⟩ := foldl_min l (min a b)
    simp only [List.foldl_cons]
    refine ⟨?_, by omega, fun y hy => ?_⟩
    · rcases h1 with h | h
      · rw [h]
        rcases Int.le_total a b with z | z
        · rw [Int.min_eq_left z]; simp
        · rw [Int.min_eq_right z]; simp
      · right; simp [h]
    · rcases List.mem_cons.mp hy with rfl | hy
      · omega
      · exact h3 y hy
theorem maxL_is {l : List Int} {m n : Int} (h : maxL l = some m) (h1 : n ∈ l) (h2 : ∀ y ∈ l, y ≤ n) : n = m := by
  cases l with
  | nil => simp at h1
  | cons a l =>
    cases h
    obtain ⟨g1, g2, g3⟩ := foldl_max l a
    have q1 : l.foldl max a ≤ n := by
      rcases g1 with g | g
      · rw [g]; exact h2 a (by simp)
      · exact h2 _ (by simp [g])
    have q2 : n ≤ l.foldl max a := by
      rcases List.mem_cons.mp h1 with rfl | z
      · exact g2
      · exact g3 n z
    omega
theorem minL_is {l : List Int} {m n : Int} (h : minL l = some m) (h1 : n ∈ l) (h2 : ∀ y ∈ l, n ≤ y) : n = m := by
  cases l with
  | nil => simp at h1
  | cons a l =>
    cases h
    obtain ⟨g1, g2, g3⟩ := foldl_min l a
    have q1 : n ≤ l.foldl min a := by
      rcases g1 with g | g
      · rw [g]; exact h2 a (by simp)
      · exact h2 _ (by simp [g])
    have q2 : l.foldl min a ≤ n := by
      rcases List.mem_cons.mp h1 with rfl | z
      · exact g2
      · exact g3 n z
    omega
def bMax1 : List D → Option D
  | [.lst l] => (intsOf l).bind fun ns => (maxL ns).map .int
  | _ => none
def bMin1 : List D → Option D
  | [.lst l] => (intsOf l).bind fun ns => (minL ns).map .int
  | _ => none
section
variable {X : Cx}
theorem o_isB : OpR X (compareOp .Is) (rF2 X.K bIsB) := by
  intro pins s σ H x y v u Q I r1 r2 h
  obtain ⟨Z, a, b, d, p1, p2, e, k⟩ := h
  unfold bIsB at e
  split at e
  · cases e
    rw [p1.bl] at r1
    rw [p2.bl] at r2
    exact op_isBl pins s σ H _ _ v u Q I r1 r2 ⟨_, _, rfl, rfl, fin0 (by simp only [RSh]) k⟩
  · cases e
theorem o_notB : OpR X (compareOp .IsNot) (rF2 X.K bNotB) := by
  intro pins s σ H x y v u Q I r1 r2 h
  obtain ⟨Z, a, b, d, p1, p2, e, k⟩ := h
  unfold bNotB at e
  split at e
  · cases e
    rw [p1.bl] at r1
    rw [p2.bl] at r2
    exact op_notBl pins s σ H _ _ v u Q I r1 r2 ⟨_, _, rfl, rfl, fin0 (by simp only [RSh]) k⟩
  · cases e
theorem c_str : CallR X (.type "str") (rFn X.K bStr) := by
  intro pins s σ H xs us Q I r h
  obtain ⟨Z, ds, d, pl, e, k⟩ := h
  unfold bStr at e
  split at e
  · split at e
    · rename_i hb
      cases e
      obtain ⟨v, rfl, p⟩ := pl.one
      rw [p.int] at r
      exact call_str_int pins s σ H _ us Q I r ⟨_, rfl, bigR_log hb, fin0 (by simp only [RSh]) k⟩
    · cases e
  · cases e
    obtain ⟨v, rfl, p⟩ := pl.one
    rw [p.str] at r
    exact SkE.call_str_str pins s σ H _ us Q I r ⟨_, rfl, fin0 (by simp only [RSh]) k⟩
  · cases e
theorem c_max1 (hr : X.calm = true) : CallR X (.builtin "max") (rFn X.K bMax1) := by
  intro pins s σ H xs us Q I r h
  obtain ⟨Z, ds, d, pl, e, k⟩ := h
  unfold bMax1 at e
  split at e
  · rename_i l
    obtain ⟨ns, hn, e⟩ := Option.bind_eq_some_iff.mp e
    obtain ⟨m, hm, rfl⟩ := Option.map_eq_some_iff.mp e
    obtain ⟨v, rfl, p⟩ := pl.one
    obtain ⟨a, ys, rfl, s1, l1⟩ := p.lst
    rw [ints_of hn l1] at s1
    refine cr_max hr pins s σ H _ us Q I r ⟨a, ns, rfl, SqL.of s1, ?_, fun m' h1 h2 => ?_⟩
    · cases ns with
      | nil => cases hm
      | cons _ _ => simp
    · rw [maxL_is hm h1 h2]; exact fin0 (by simp only [RSh]) k
  · cases e
theorem c_min1 (hr : X.calm = true) : CallR X (.builtin "min") (rFn X.K bMin1) := by
  intro pins s σ H xs us Q I r h
  obtain ⟨Z, ds, d, pl, e, k⟩ := h
  unfold bMin1 at e
  split at e
  · rename_i l
    obtain ⟨ns, hn, e⟩ := Option.bind_eq_some_iff.mp e
    obtain ⟨m, hm, rfl⟩ := Option.map_eq_some_iff.mp e
    obtain ⟨v, rfl, p⟩ := pl.one
    obtain ⟨a, ys, rfl, s1, l1⟩ := p.lst
    rw [ints_of hn l1] at s1
    refine cr_min hr pins s σ H _ us Q I r ⟨a, ns, rfl, SqL.of s1, ?_, fun m' h1 h2 => ?_⟩
    · cases ns with
      | nil => cases hm
      | cons _ _ => simp
    · rw [minL_is hm h1 h2]; exact fin0 (by simp only [RSh]) k
  · cases e
end
/-! a, b, c = x, y, z -/
def sPar3 (i j l : Nat) (es : M (List D)) : MS := bind es fun vs => fun ρ => match vs with | [u, v, w] => .ok (.nx, ((ρ.set i (some u)).set j (some v)).set l (some w)) | _ => .bad
section
variable {X : Cx} {F : Fr} {q : Bool} {a b c : Expr} {ms : M (List D)} {pos : Pos}
theorem s_par3 (i j l : Nat) {x y z : Str} {px py pz pt pt2 : Pos} {kt k2 : Nat} (hN : X.N.Nodup) (ha : PA X [a, b, c] (tAs X.K F.τ q ms)) (hti : F.τ i = .sh := by rfl) (htj : F.τ j = .sh := by rfl) (htl : F.τ l = .sh := by rfl) (hfi : F.fx i = false := by rfl) (hfj : F.fx j = false := by rfl) (hfl : F.fx l = false := by rfl)
    (hi : X.N[i]? = some x := by rfl) (hj : X.N[j]? = some y := by rfl) (hl : X.N[l]? = some z := by rfl) (hij : i ≠ j := by decide) (hil : i ≠ l := by decide) (hjl : j ≠ l := by decide)
    (hx : X.env.scope.names.lookup x = some .local := by rfl) (hy : X.env.scope.names.lookup y = some .local := by rfl) (hz : X.env.scope.names.lookup z = some .local := by rfl) (hc : X.calm = true := by rfl)
    (hw : swappedStores [.Tuple [.Name x px, .Name y py, .Name z pz] kt pt] (.Tuple [a, b, c] k2 pt2) X.env = pure (some [x, y, z]) := by rfl)
    (hs : swapsWithSole [.Tuple [.Name x px, .Name y py, .Name z pz] kt pt] (.Tuple [a, b, c] k2 pt2) pos.line X.env = pure false := by rfl) :
    PS X (.Assign [.Tuple [.Name x px, .Name y py, .Name z pz] kt pt] (.Tuple [a, b, c] k2 pt2) pos) (tS X.K F (sPar3 i j l ms)) := (ps_par3 hc hN hi hj hl hij hil hjl hx hy hz ha hw hs).mono fun E σ H ⟨Z, own, ρ, f, ρ', rs, e, o⟩ => by
  obtain ⟨xs, ρ1, e1, e⟩ := bind_ok e
  match xs, e1, e with
  | [u, v, w], e1, e =>
    cases e
    refine ⟨Z, own, ρ, _, ρ1, rs, e1, fun vs Z1 own1 H1 rs1 rl x1 => ?_⟩
    simp only [RShL] at rl
    obtain ⟨v1, w1, rfl, r1, v2, w2, rfl, r2, v3, w3, rfl, r3, rfl⟩ := rl
    exact ⟨v1, v2, v3, rfl, o _ Z1 own1 H1 (((rs1.set hti r1).set htj r2).set htl r3) (((Fix.set hfi).trans (Fix.set hfj)).trans (Fix.set hfl)) x1.weak.any⟩
end
def par3W (vs : List D) (P : D → D → D → Prop) : Prop := match vs with
  | [u, v, w] => P u v w
  | _ => False
@[simp] theorem par3W_mk {u v w : D} {P : D → D → D → Prop} : par3W [u, v, w] P ↔ P u v w := Iff.rfl
theorem W_sPar3 {i j l : Nat} {ms : M (List D)} {ρ : Sl} {QF : Fl → Sl → Prop} : W (sPar3 i j l ms) ρ QF ↔ W ms ρ fun vs ρ1 => par3W vs fun u v w => QF .nx (((ρ1.set i (some u)).set j (some v)).set l (some w)) := by
  simp only [sPar3, W_bind]
  constructor <;> refine fun h => h.mono fun d ρ1 q => ?_
  · obtain ⟨f, ρ', e, q⟩ := q
    split at e
    · cases e; exact q
    · cases e
  · unfold par3W at q
    split at q
    · exact ⟨.nx, _, rfl, q⟩
    · exact q.elim
/-! ### in, not in; a list made longer; a dict of one pair -/
def bIn (a b : D) : Option D := match b with
  | .lst l => if D.okB 60 a && D.okB 60 (.lst l) then some (.bl (l.any fun z => D.eqv z a)) else none
  | _ => none
def bNotIn (a b : D) : Option D := match b with
  | .lst l => if D.okB 60 a && D.okB 60 (.lst l) then some (.bl (!l.any fun z => D.eqv z a)) else none
  | _ => none
theorem pyL_any {f : PyData → Bool} : ∀ l : List D, (D.pyL l).any f = l.any fun z => f z.py
  | [] => by simp [D.pyL]
  | d :: l => by simp [D.pyL, pyL_any l]
section
variable {X : Cx}
theorem o_in (hu : X.A.units + 65 < cLine) : OpR X (compareOp .In) (rF2 X.K bIn) := by
  intro pins s σ H x y v u Q I r1 r2 h
  obtain ⟨Z, a, b, d, p1, p2, e, k⟩ := h
  unfold bIn at e
  split at e
  · split at e
    · rename_i ho
      simp only [Bool.and_eq_true] at ho
      cases e
      refine op_inD hu pins s σ H _ _ v u Q I r1 r2 ⟨_, _, p1.dp ho.1, p2.dp ho.2, ok_shaped ho.1, ok_shaped ho.2, fin0 (by simp only [RSh, D.eqv]; rw [pyL_any]) k⟩
    · cases e
  · cases e
theorem o_notin (hu : X.A.units + 65 < cLine) : OpR X (compareOp .NotIn) (rF2 X.K bNotIn) := by
  intro pins s σ H x y v u Q I r1 r2 h
  obtain ⟨Z, a, b, d, p1, p2, e, k⟩ := h
  unfold bNotIn at e
  split at e
  · split at e
    · rename_i ho
      simp only [Bool.and_eq_true] at ho
      cases e
      refine op_notInD hu pins s σ H _ _ v u Q I r1 r2 ⟨_, _, p1.dp ho.1, p2.dp ho.2, ok_shaped ho.1, ok_shaped ho.2, fin0 (by simp only [RSh, D.eqv]; rw [pyL_any]) k⟩
    · cases e
  · cases e
end
def mExt (i : Nat) (m : M D) : M D := bind (mV i) fun _ => bind m fun d => fun ρ => match ρ[i]?, d with
  | some (some (.lst l)), .lst r => if l.length + r.length ≤ 16777216 then .ok (.non, ρ.set i (some (.lst (l ++ r)))) else .bad
  | _, _ => .bad
section
variable {X : Cx} {τ : Nat → OT} {q q1 q2 : Bool} {e a b : Expr} {ma mb : M D} {pos apos p1 p2 : Pos} {x : Str} {kk : Nat}
theorem e_ext (i : Nat) (he : PA X [e] (tAs X.K τ q (mCons ma mNil))) (ht : τ i = .ol .sh .sh := by rfl) (hN : X.N[i]? = some x := by rfl) (hv : Vis X.env.scope x := by first | exact Or.inl rfl | exact Or.inr (Or.inl rfl) | exact Or.inr (Or.inr rfl)) (hd : (x == ("__debug__" : Str)) = false := by decide)
    (hcd : (x == ("__classdict__" : Str)) = false := by decide) (hbase : attributeBase (.Name x p1) "extend" X.env (eval (.Name x p1) X.env) = eval (.Name x p1) X.env := by rfl)
    (hfew : ((backTo pos (starEach [e] X.env)).all (fun x => !x.1) && (backToKw pos (keywordEach [] X.env)).all (fun x => x.1.isSome) && decide ([e].length + ([] : List Keyword).length + (if ([] : List Keyword).isEmpty then 0 else 1) < 30)) = true := by rfl)
    (hline : (apos.endLine == pos.line) = true := by rfl) (hs : starEach [e] X.env = (false, eval e X.env) :: starEach [] X.env := by rfl) (hplain : (backTo pos (starEach [] X.env)).any (·.1) = false := by rfl) :
    PE X (.Call (.Attribute (.Name x p1) "extend" apos) [e] [] pos) (tE X.K τ false .sh (mExt i ma)) :=
  (pe_bm PySem.F.plainAttrs_list PySem.F.slot_list_extend PySem.F.type_list_extend mt_extend (pv i hN hv hd hcd) he hbase hfew hline hs hplain).mono fun σ H Q ⟨Z, own, ρ, d, ρ', rs, e, k⟩ => by
    obtain ⟨y, ρ1, e1, f1⟩ := bind_ok e
    obtain ⟨e1, rfl⟩ := mV_ok e1
    obtain ⟨d1, ρ2, e2, f2⟩ := bind_ok f1
    split at f2
    · rename_i l r hl
      split at f2
      · rename_i hll
        cases f2
        obtain ⟨v, hv1, hr⟩ := rs.sl i y e1
        rw [ht] at hr
        obtain ⟨l0, a, xs, ow, h1, rfl, h3, h4, h5, h6, h7, h8⟩ := hr
        refine ⟨.ref a, hv1, .inl ⟨rfl, xs, SqL.of h3⟩, Z, own, ρ1, [.lst r], ρ2, rs, by unfold mCons; rw [bind_of e2]; rfl, fun vs Z1 own1 H1 rs1 rl x1 => ?_⟩
        obtain ⟨w, rfl, r1⟩ := shL1 rl
        simp only [RSh] at r1
        obtain ⟨b, zs, rfl, zb, hb, rz⟩ := r1
        obtain ⟨a', xs', g1, g2, g3, g4, g5⟩ := rs1.own1 ht hl
        rw [hv1] at g1; cases g1
        obtain ⟨rs2, x2⟩ := g5 (l ++ r) (xs' ++ zs) (g4.append rz)
        refine ⟨a, b, xs', zs, rfl, rfl, g2, hb, by rw [← g4.len, ← rz.len, szL]; exact hll, k _ Z1 own1 _ (fun _ => False) rs2 (by simp only [Rm, R, RSh]) (fun _ z => z.elim) ((x1.weak).transF x2)⟩
      · cases f2
    · cases f2
theorem PPs.one {k v : Expr} {tk tv : TE} (hk : PE X k tk) (hv : PE X v tv) : PPs X pos [some k] [v] [(tk, tv)] := pps_cons hk hv pps_nil
theorem key_rel {K : PySem.W.Frag} {Z : Addr → Prop} {H : Hp} {d : D} {v : V} {k : Key} (h : d.key = some k) (r : RSh K Z H d v) : v = kV k := by
  cases d with
  | int i => cases h; simp only [RSh] at r; exact r
  | str i => cases h; simp only [RSh] at r; exact r
  | _ => cases h
theorem e_dict1 (ha : PE X a (tE X.K τ q1 .sh ma)) (hb : PE X b (tE X.K τ q2 .sh mb)) : PE X (.Dict [some a] [b] pos) (tE X.K τ (q1 && q2) .sh (m2 bDict1 ma mb)) := (pe_disp (PPs.one ha hb) rfl rfl (by simp) (by simp)).mono fun σ H Q ⟨Z, own, ρ, d, ρ', rs, e, k⟩ => by
  obtain ⟨x, ρ1, e1, f1⟩ := bind_ok e
  obtain ⟨y, ρ2, e2, f2⟩ := bind_ok f1
  obtain ⟨f3, rfl⟩ := ofO_ok f2
  unfold bDict1 at f3
  obtain ⟨ky, hk, rfl⟩ := Option.map_eq_some_iff.mp f3
  intro p hp
  have g : Grow H (upd H p (.dK [])) := Grow.new hp
  have n : NewS H (upd H p (.dK [])) (fun a => a = p) := NewS.one trivial hp
  have rs0 := rs.growO g
  have hpz : ¬ Z p := fun z => rs.zt p z hp
  have hpo : own p = none := by
    cases h : own p with
    | none => rfl
    | some i => obtain ⟨o, ho, _⟩ := rs.ls p i h; rw [hp] at ho; cases ho
  refine ⟨Z, own, ρ, x, ρ1, rs0, e1, fun v Z1 own1 H1 S1 rs1 rm1 n1 x1 => ?_⟩
  refine ⟨Z1, own1, ρ1, y, ρ', rs1, e2, fun w Z2 own2 H2 S2 rs2 rm2 n2 x2 => ?_⟩
  have x12 := x1.trans x2
  have h1p : H1 p = some (.dK []) := x1.keep p _ upd_same (.inl hpo)
  have h2p : H2 p = some (.dK []) := x12.keep p _ upd_same (.inl hpo)
  have z2p : ¬ Z2 p := fun z => by
    rcases x12.zn p z with z | z | ⟨_, _, z⟩
    · exact hpz z
    · rw [upd_same] at z; cases z
    · simp at z
  have o2p : own2 p = none := by
    cases h : own2 p with
    | none => rfl
    | some i =>
      rcases x12.on p i h with z | z
      · rw [hpo] at z; cases z
      · rw [upd_same] at z; cases z
  have ra : RSh X.K Z2 H2 x v := rs1.sh x2 rm1
  have rb : RSh X.K Z2 H2 y w := rm2
  have ev := key_rel hk ra
  subst ev
  refine ⟨h2p, [(ky, w)], rfl, by simp, ?_⟩
  have hm : mergeK [] [(ky, w)] = [(ky, w)] := by
    show putK [] ky w = _
    rw [putK_new w (by rfl)]; rfl
  rw [hm]
  have u1 : ∀ b o, Z2 b → H2 b = some o → upd H2 p (.dK [(ky, w)]) b = some o := fun b o z hb => by
    rw [upd_ne (fun e => by subst e; exact z2p z)]; exact hb
  have rs3 : RS X.K τ (fun a => Z2 a ∨ a = p) own2 (upd H2 p (.dK [(ky, w)])) ρ' σ := by
    refine ⟨fun i d e => ?_, fun b i e => ?_, fun b i e z => ?_, fun b z e => ?_, rs2.len⟩
    · obtain ⟨v', a1, a2⟩ := rs2.sl i d e
      refine ⟨v', a1, R.pres (fun _ z => .inl z) (upd_nl h2p trivial) u1 (fun b o s hb => ?_) a2⟩
      rw [upd_ne (fun z => by subst z; rw [o2p] at s; cases s)]; exact hb
    · obtain ⟨o, ho, hm⟩ := rs2.ls b i e
      exact ⟨o, by rw [upd_ne (fun z => by subst z; rw [o2p] at e; cases e)]; exact ho, hm⟩
    · rcases z with z | z
      · exact rs2.dz b i e z
      · subst z; rw [o2p] at e; cases e
    · rcases z with z | z
      · rw [upd_ne (fun w => by subst w; exact z2p z)] at e
        exact rs2.zt b z e
      · subst z; rw [upd_same] at e; cases e
  refine k _ (fun a => Z2 a ∨ a = p) own2 _ (fun _ => False) rs3 ?_ (fun _ z => z.elim) ⟨fun b z => .inl (x12.z b z), fun b z => ?_, fun b i e => ?_, fun b o e h => ?_, fun b e z => ?_⟩
  · simp only [Rm, R, RSh, RShL]
    refine ⟨p, [(ky, w)], rfl, .inr rfl, upd_same, ⟨_, [], rfl, ?_, rfl⟩, w, [], rfl, ?_, rfl⟩
    · exact RSh.pres (fun _ z => .inl z) (upd_nl h2p trivial) u1 _ _ ra
    · exact RSh.pres (fun _ z => .inl z) (upd_nl h2p trivial) u1 _ _ rb
  · rcases z with z | z
    · rcases x12.zn b z with z | z | ⟨_, _, z⟩
      · exact .inl z
      · by_cases hb : b = p
        · subst hb; exact .inr (.inl hp)
        · rw [upd_ne hb] at z; exact .inr (.inl z)
      · simp at z
    · subst z; exact .inr (.inl hp)
  · rcases x12.on b i e with z | z
    · exact .inl z
    · by_cases hb : b = p
      · subst hb; exact .inr hp
      · rw [upd_ne hb] at z; exact .inr z
  · have hb : b ≠ p := fun z => by subst z; rw [hp] at e; cases e
    rw [upd_ne hb]
    exact x12.keep b o (by rw [upd_ne hb]; exact e) h
  · by_cases hb : b = p
    · subst hb; rw [upd_same] at z; cases z
    · rw [upd_ne hb] at z
      exact x12.live b (by rw [upd_ne hb]; exact e) z
end
theorem _root_.L2.Room.units65 {k : Nat} {A : Around} (r : Room k A) : A.units + 65 < cLine := by have := r.un; omega
/-! ### a def that calls itself -/
theorem cal_bad {P : Program} {w : World} {K : PySem.W.Frag} {mg : Str → Option Value} {base : Heap} {k : Nat} {x : Str} {st : Stmt} {ps : List Str} {n : Nat} {rt : OT} (t : TxF K mg x st ps) : CalP P w K mg base k x n rt (fun _ => .bad) := by
  obtain ⟨f, fd, Fu, bd, hm⟩ := t
  refine ⟨f, fd, ps, ⟨fun vs H Q E h => ?_, fun A outer s0 H ar us vs Q E _ _ _ _ _ h => ?_⟩, Fu.kp, bd, hm⟩
  · obtain ⟨_, _, _, _, _, _, e, _⟩ := h; cases e
  · obtain ⟨_, _, _, _, _, _, e, _⟩ := h; cases e
end CL

namespace CL
open PySem PySem.Spec L2
set_option autoImplicit false
/-! ### things with one part put otherwise, as many laws have them -/
def pathD (p : List Nat) : D := .tup (p.map fun (k : Nat) => D.int k)
/-- ints in tuples, at most so deep -/
def itree : Nat → D → Prop
  | _, .int i => i.natAbs < 2 ^ 800
  | n + 1, .tup l => l.length ≤ 1000 ∧ ∀ x ∈ l, itree n x
  | _, _ => False
mutual
def D.nodes : D → Nat
  | .tup l => 1 + D.nodesL l
  | _ => 1
def D.nodesL : List D → Nat
  | [] => 0
  | d :: ds => D.nodes d + D.nodesL ds
end
mutual
/-- a thing of a known kind, and so all that lies in its tuples, numbers not too great -/
def D.dt : D → Bool
  | .int i => decide (i.natAbs < 2 ^ 900)
  | .tup l => D.dtL l
  | .ins _ _ _ => false
  | _ => true
def D.dtL : List D → Bool
  | [] => true
  | d :: ds => D.dt d && D.dtL ds
end
theorem dtL_iff : ∀ {l : List D}, D.dtL l = true ↔ ∀ x ∈ l, x.dt = true
  | [] => by simp [D.dtL]
  | d :: l => by simp [D.dtL, dtL_iff (l := l)]
theorem itree_dt : ∀ {n : Nat} {d : D}, itree n d → d.dt = true
  | n, .int i, h => by
    have h : i.natAbs < 2 ^ 800 := by cases n <;> exact h
    simp only [D.dt, decide_eq_true_eq]
    exact Nat.lt_of_lt_of_le h (Nat.pow_le_pow_right (by decide) (by decide))
  | n + 1, .tup l, h => by
    simp only [D.dt]
    exact dtL_iff.mpr fun x hx => itree_dt (h.2 x hx)
  | 0, .tup l, h => h.elim
  | n, .non, h => by cases n <;> exact h.elim
  | n, .bl _, h => by cases n <;> exact h.elim
  | n, .str _, h => by cases n <;> exact h.elim
  | n, .lst _, h => by cases n <;> exact h.elim
  | n, .dct _ _, h => by cases n <;> exact h.elim
  | n, .ins _ _ _, h => by cases n <;> exact h.elim
  | n, .scr _, h => by cases n <;> exact h.elim
/-- the part at a place -/
inductive At : D → List Nat → D → Prop where
  | nil (d : D) : At d [] d
  | cons {l : List D} {k : Nat} {x : D} {p : List Nat} {e : D} (h : l[k]? = some x) (r : At x p e) : At (.tup l) (k :: p) e
theorem At.itree : ∀ {d : D} {p : List Nat} {e : D} {n : Nat}, At d p e → itree n d → ∃ m, m ≤ n ∧ CL.itree m e
  | _, _, _, n, .nil d, h => ⟨n, Nat.le_refl _, h⟩
  | _, _, _, n + 1, .cons hk r, h => by
    obtain ⟨m, h1, h2⟩ := r.itree (h.2 _ (List.mem_of_getElem? hk))
    exact ⟨m, by omega, h2⟩
  | _, _, _, 0, .cons hk r, h => h.elim
def spotsB (R : List D → Res D) : MS := (sSeq (sAsg (pN 1) (mN bLst (mCons (mN bTup mNil) mNil))) (sSeq (sIf (m1 (bIsi "tuple") (mV 0)) (sFor (pT 2 (psC (pN 2) (psC (pN 3) psN))) (mItN enumL (mCons (mV 0) mNil)) (sAsg (pN 1) (m2 bAdd (mV 1) (mComp [4] (pN 4) (mIt (mCallP R (mCons (mV 3) mNil))) mYes (m2 bAdd (mN bTup (mCons (mV 2) mNil)) (mV 4)))))) (sK .nx)) (sRet (mV 1))))
def spotsR : Nat → List D → Res D
  | 0 => fun _ => .bad
  | n + 1 => runP 4 (spotsB (spotsR n))
theorem isi_tuple_int {i : Int} : bIsi "tuple" (.int i) = some (.bl false) := by
  show (kitB "int" "tuple").map D.bl = _
  rw [show kitB "int" "tuple" = some false by decide +kernel]; rfl
theorem compTo {vs : List Nat} {p : Pt} {e : M D} {α : Type} {g f : α → D} {ρ : Sl} {QL : List D → Sl → Prop} : ∀ {xs : List α}, (∀ x ∈ xs, ∃ ρ1 ρ2, p (g x) ρ = some ρ1 ∧ e ρ1 = .ok (f x, ρ2) ∧ wipeD ρ2 vs = ρ) → QL (xs.map f) ρ → W (compL vs p mYes e (xs.map g)) ρ QL := by
  intro xs
  induction xs generalizing QL with
  | nil => intro _ q; exact W_compNil.mpr q
  | cons x xs ih =>
    intro h q
    obtain ⟨ρ1, ρ2, e1, e2, e3⟩ := h x (by simp)
    refine W_compCons.mpr ⟨ρ1, e1, _, ρ1, rfl, .inl ⟨rfl, f x, ρ2, e2, ?_⟩⟩
    show W (compL vs p mYes e (xs.map g)) (wipeD ρ2 vs) _
    rw [e3]
    exact ih (fun y hy => h y (by simp [hy])) q
theorem spots_loop {R : List D → Res D} (d0 : Option D) (ps : D → List (List Nat)) {Q : Fl → Sl → Prop} : ∀ (l : List D) (k : Nat) (acc : List (List Nat)) (o2 o3 : Option D),
    (∀ x ∈ l, R [x] = .ok (.lst ((ps x).map pathD)) ∧ ∀ p ∈ ps x, p.length ≤ 1000) → acc.length + (l.map fun x => (ps x).length).sum ≤ 16777216 →
    (∀ (out : List (List Nat)) (o2' o3' : Option D), out.length = acc.length + (l.map fun x => (ps x).length).sum → (∀ p ∈ out, p ∈ acc ∨ ∃ (j : Nat) (x : D) (q : List Nat), l[j]? = some x ∧ q ∈ ps x ∧ p = (k + j) :: q) → Q .nx [d0, some (.lst (out.map pathD)), o2', o3', none]) →
    W (forL (pT 2 (psC (pN 2) (psC (pN 3) psN))) (sAsg (pN 1) (m2 bAdd (mV 1) (mComp [4] (pN 4) (mIt (mCallP R (mCons (mV 3) mNil))) mYes (m2 bAdd (mN bTup (mCons (mV 2) mNil)) (mV 4))))) (enumFrom k l)) [d0, some (.lst (acc.map pathD)), o2, o3, none] Q
  | [], k, acc, o2, o3, _, _, hQ => W_forNil.mpr (hQ acc o2 o3 (by simp) fun p hp => .inl hp)
  | x :: l, k, acc, o2, o3, hR, hl, hQ => by
    obtain ⟨hx, hxp⟩ := hR x (by simp)
    simp only [List.map_cons, List.sum_cons] at hl
    refine W_forCons.mpr ⟨[d0, some (.lst (acc.map pathD)), some (.int (k : Nat)), some x, none], rfl, ?_⟩
    simp only [W_sAsg, W_m2, W_mV, W_mComp, W_mIt, W_mCallP, W_mCons, W_mNil]
    simp [hx, itemsOf, wipeD]
    refine compTo (f := fun q => pathD (k :: q)) (fun q hq => ?_) ?_
    · have := hxp q hq
      refine ⟨_, [d0, some (.lst (acc.map pathD)), some (.int (k : Nat)), some x, some (pathD q)], rfl, ?_, rfl⟩
      simp [m2, CL.bind, mN, mCons, mV, mNil, ofO, bTup, pathD, bAdd, show 1 + q.length ≤ 16777216 by omega]
    · refine ⟨.lst ((acc ++ (ps x).map (k :: ·)).map pathD), by simp [bAdd, show acc.length + (ps x).length ≤ 16777216 by omega, Function.comp_def], _, rfl, ?_⟩
      refine spots_loop d0 ps l (k + 1) (acc ++ (ps x).map (k :: ·)) _ _ (fun y hy => hR y (by simp [hy])) (by simp; omega) fun out o2' o3' h2 h3 => hQ out o2' o3' (by rw [h2]; simp; omega) fun p hp => ?_
      rcases h3 p hp with h | ⟨j, y, q, a, b, c⟩
      · rcases List.mem_append.mp h with h | h
        · exact .inl h
        · obtain ⟨q, hq, rfl⟩ := List.mem_map.mp h
          exact .inr ⟨0, x, q, by simp, hq, by simp⟩
      · exact .inr ⟨j + 1, y, q, by simpa using a, b, by rw [c]; congr 1; omega⟩

def spotsF : Nat → D → List (List Nat)
  | n + 1, .tup l => [] :: ((List.range l.length).flatMap fun k => match l[k]? with | some x => (spotsF n x).map (k :: ·) | none => [])
  | _, _ => [[]]
theorem spots_ok : ∀ (n : Nat) (d : D), n ≤ 1000 → itree n d → d.nodes ≤ 1000000 → ∃ ps : List (List Nat), spotsR (n + 1) [d] = .ok (.lst (ps.map pathD)) ∧ ps.length = d.nodes ∧ ∀ p ∈ ps, p.length ≤ n ∧ ∃ e, At d p e := by
  intro n
  induction n with
  | zero =>
    intro d h0 h hn
    cases d with
    | int i =>
      refine ⟨[[]], runP_of ?_, by simp [D.nodes], fun p hp => ?_⟩
      · simp only [spotsB, W_sSeq, W_sAsg, W_mN, W_mCons, W_mNil, pN]
        simp [bTup, bLst, Kq_nx, W_sSeq, W_sIf, W_m1, W_mV, isi_tuple_int, W_sK, W_sRet, pathD]
      · simp at hp; subst hp; exact ⟨Nat.le_refl _, _, .nil _⟩
    | _ => exact h.elim
  | succ n ih =>
    intro d h0 h hn
    cases d with
    | int i =>
      refine ⟨[[]], runP_of ?_, by simp [D.nodes], fun p hp => ?_⟩
      · simp only [spotsB, W_sSeq, W_sAsg, W_mN, W_mCons, W_mNil, pN]
        simp [bTup, bLst, Kq_nx, W_sSeq, W_sIf, W_m1, W_mV, isi_tuple_int, W_sK, W_sRet, pathD]
      · simp at hp; subst hp; exact ⟨Nat.zero_le _, _, .nil _⟩
    | tup l =>
      have nl : ∀ (l : List D) (x : D), x ∈ l → x.nodes ≤ D.nodesL l := by
        intro l
        induction l with
        | nil => intro x hx; simp at hx
        | cons y l ih =>
          intro x hx
          simp only [D.nodesL]
          rcases List.mem_cons.mp hx with rfl | hx
          · omega
          · have := ih x hx; omega
      simp only [D.nodes] at hn
      have hx : ∀ x ∈ l, ∃ ps : List (List Nat), spotsR (n + 1) [x] = .ok (.lst (ps.map pathD)) ∧ ps.length = x.nodes ∧ ∀ p ∈ ps, p.length ≤ n ∧ ∃ e, At x p e := fun x hx => ih x (by omega) (h.2 x hx) (by have := nl l x hx; omega)
      classical
      let ps : D → List (List Nat) := fun x => if hx' : x ∈ l then (hx x hx').choose else []
      have hps : ∀ x ∈ l, spotsR (n + 1) [x] = .ok (.lst ((ps x).map pathD)) ∧ (ps x).length = x.nodes ∧ ∀ p ∈ ps x, p.length ≤ n ∧ ∃ e, At x p e := fun x hx' => by
        have := (hx x hx').choose_spec
        simp only [ps, dif_pos hx']
        exact this
      have hs : (l.map fun x => (ps x).length).sum = D.nodesL l := by
        have : ∀ m : List D, (∀ x ∈ m, (ps x).length = x.nodes) → (m.map fun x => (ps x).length).sum = D.nodesL m := by
          intro m
          induction m with
          | nil => intro _; rfl
          | cons y m ih =>
            intro h
            simp only [List.map_cons, List.sum_cons, D.nodesL]
            rw [h y (by simp), ih fun x hx => h x (by simp [hx])]
        exact this l fun x hx => (hps x hx).2.1
      have big : ∃ d, runP 4 (spotsB (spotsR (n + 1))) [.tup l] = .ok d ∧ ∃ out : List (List Nat), d = .lst (out.map pathD) ∧ out.length = (D.tup l).nodes ∧ ∀ p ∈ out, p.length ≤ n + 1 ∧ ∃ e, At (.tup l) p e := by
        refine runP_ex ?_
        simp only [spotsB, W_sSeq, W_sAsg, W_mN, W_mCons, W_mNil, pN]
        simp [bTup, bLst, Kq_nx, W_sSeq, W_sIf, W_m1, W_mV, isi_tuple_tup, W_sK, W_sRet, W_sFor, W_mItN, W_mCons, W_mNil, enumL]
        refine spots_loop (some (.tup l)) ps l 0 [[]] none none (fun x hx => ⟨(hps x hx).1, fun p hp => ?_⟩) (by rw [hs]; simp; omega) fun out o2 o3 h2 h3 => ?_
        · have := ((hps x hx).2.2 p hp).1; omega
        · simp [Kq_nx, W_sRet, W_mV]
          refine ⟨out, rfl, by rw [h2, hs]; simp [D.nodes], fun p hp => ?_⟩
          rcases h3 p hp with h | ⟨j, x, q, a, b, c⟩
          · simp at h; subst h; exact ⟨Nat.zero_le _, _, .nil _⟩
          · obtain ⟨b1, e, b2⟩ := (hps x (List.mem_of_getElem? a)).2.2 q b
            rw [c]
            exact ⟨by simp; omega, e, .cons (by simpa using a) b2⟩
      obtain ⟨d, h1, out, rfl, h2, h3⟩ := big
      exact ⟨out, h1, h2, h3⟩
    | _ => exact h.elim
def putB (R : List D → Res D) : MS := (sSeq (sIf (m2 bEq (mV 1) (mN bTup mNil)) (sRet (mV 2)) (sK .nx)) (sSeq (sAsg (pN 3) (m2 bIx (mV 1) (mC (.int 0)))) (sRet (m2 bAdd (m2 bAdd (mSl (mV 0) none (some (mV 3))) (mN bTup (mCons (mCallP R (mCons (m2 bIx (mV 0) (mV 3)) (mCons (mSl (mV 1) (some (mC (.int 1))) none) (mCons (mV 2) mNil)))) mNil))) (mSl (mV 0) (some (m2 bAdd (mV 3) (mC (.int 1)))) none)))))
def putR : Nat → List D → Res D
  | 0 => fun _ => .bad
  | n + 1 => runP 1 (putB (putR n))
theorem eq_tup0 {l : List D} : bEq (.tup l) (.tup []) = some (.bl l.isEmpty) := rfl
theorem cut_to {α : Type} {l : List α} {k : Nat} (h : k ≤ l.length) : cutD l none (some (k : Int)) = l.take k := by
  unfold cutD
  rw [HT.sIx_none, HT.sIx_nat]
  simp [Nat.min_eq_left h]
theorem cut_from {α : Type} {l : List α} {k : Nat} : cutD l (some (k : Int)) none = l.drop k := by
  unfold cutD
  rw [HT.sIx_none, HT.sIx_nat]
  rw [List.take_of_length_le (by simp)]
  by_cases h : k ≤ l.length
  · rw [Nat.min_eq_left h]
  · rw [Nat.min_eq_right (by omega), List.drop_of_length_le (by omega), List.drop_of_length_le (by omega)]
theorem at_nat {α : Type} {l : List α} {k : Nat} {x : α} (h : l[k]? = some x) : atI l (k : Int) = some x := by
  have := (List.getElem?_eq_some_iff.mp h).1
  unfold atI ixN
  rw [if_pos (by omega), if_pos (by omega)]
  simpa using h
/-- the part put in -/
def putAt : D → List Nat → D → D
  | _, [], v => v
  | .tup l, k :: p, v => (match l[k]? with | some x => .tup (l.set k (putAt x p v)) | none => .tup l)
  | d, _ :: _, _ => d
theorem put_ok {v : D} : ∀ (n : Nat) {d : D} {p : List Nat} {e : D} {m : Nat}, At d p e → p.length < n → itree m d → putR n [d, pathD p, v] = .ok (putAt d p v)
  | 0, _, _, _, _, _, h, _ => by omega
  | n + 1, _, _, _, m, .nil d, _, _ => by
    refine runP_of ?_
    simp only [putB, W_sSeq, W_sIf, W_m2, W_mV, W_mN, W_mNil]
    simp [pathD, bTup, eq_tup0, W_sRet, W_mV, Kq_ret, putAt]
  | n + 1, _, _, _, m + 1, .cons (l := l) (k := k) (x := x) (p := p) (e := e) hk r, h, ht => by
    have ih := put_ok (v := v) n r (by simp at h; omega) (ht.2 x (List.mem_of_getElem? hk))
    have hl := (List.getElem?_eq_some_iff.mp hk).1
    have h1000 := ht.1
    refine runP_of ?_
    simp only [putB, W_sSeq, W_sIf, W_m2, W_mV, W_mN, W_mNil]
    simp [pathD, bTup, eq_tup0, W_sK, Kq_nx, W_sSeq, W_sAsg, W_m2, W_mV, W_mC, bIx, atI, ixN, pN, W_sRet, W_mSl, W_mPtN, W_mPtS, bSl, W_mN, W_mCons, W_mCallP, W_mNil, hl, hk]
    have e1 : cutD (D.int (k : Nat) :: p.map fun (k : Nat) => D.int k) (some 1) none = p.map fun (k : Nat) => D.int k := cut_from (k := 1)
    have e2 : cutD l none (some (k : Int)) = l.take k := cut_to (by omega)
    have e3 : cutD l (some ((k : Int) + 1)) none = l.drop (k + 1) := by rw [← cut_from (l := l) (k := k + 1)]; norm_cast
    unfold pathD at ih
    have ex : l[k] = x := (List.getElem?_eq_some_iff.mp hk).2
    simp only [e1, e2, e3, ex, ih]
    refine ⟨_, rfl, .tup (l.take k ++ [putAt x p v]), by simp [bAdd]; omega, ?_⟩
    refine ⟨.int ((k : Int) + 1), rfl, _, rfl, ?_⟩
    simp only [putAt, hk, bAdd, e3]
    rw [if_pos (by simp; omega)]
    congr 2
    rw [List.set_eq_take_append_cons_drop, if_pos hl]
    simp
  | n + 1, _, _, _, 0, .cons hk r, h, ht => ht.elim
theorem putAt_dt {v : D} (hv : v.dt = true) : ∀ {d : D} {p : List Nat} {e : D}, At d p e → d.dt = true → (putAt d p v).dt = true
  | _, _, _, .nil d, _ => by simpa [putAt] using hv
  | _, _, _, .cons (l := l) (k := k) (x := x) hk r, h => by
    simp only [putAt, hk, D.dt] at h ⊢
    refine dtL_iff.mpr fun y hy => ?_
    rcases List.mem_or_eq_of_mem_set hy with hy | rfl
    · exact dtL_iff.mp h y hy
    · exact putAt_dt hv r (dtL_iff.mp h x (List.mem_of_getElem? hk))
/-! ### a part looked up; the thing spoilt -/
theorem part_loop : ∀ {d : D} {p : List Nat} {e : D} {o0 o1 o2 o3 o4 o6 o7 : Option D} {Q : Fl → Sl → Prop}, At d p e → (∀ o6', Q .nx [o0, o1, o2, o3, o4, some e, o6', o7]) → W (forL (pN 6) (sAsg (pN 5) (m2 bIx (mV 5) (mV 6))) (p.map fun (k : Nat) => D.int k)) [o0, o1, o2, o3, o4, some d, o6, o7] Q
  | _, _, _, o0, o1, o2, o3, o4, o6, o7, Q, .nil d, h => W_forNil.mpr (h o6)
  | _, _, _, o0, o1, o2, o3, o4, o6, o7, Q, .cons (l := l) (k := k) (x := x) hk r, h => by
    refine W_forCons.mpr ⟨_, rfl, ?_⟩
    simp only [W_sAsg, W_m2, W_mV]
    simp [bIx, at_nat hk, pN]
    exact part_loop r h
theorem pick13 {l : List D} {w : Int} (h : l.length = 13) (h0 : 0 ≤ w) (h1 : w < 13) : ∃ v, bIx (.lst l) (.int w) = some v ∧ v ∈ l := by
  have : w.toNat < l.length := by omega
  refine ⟨l[w.toNat], ?_, List.getElem_mem this⟩
  simp only [bIx, atI, ixN]
  rw [if_pos h0, if_pos (by omega)]
  simp [this]
theorem itree_tup {m : Nat} {l : List D} (h : itree m (.tup l)) : l.length ≤ 1000 ∧ ∀ x ∈ l, x.dt = true := by
  cases m with
  | zero => exact h.elim
  | succ m => exact ⟨h.1, fun x hx => itree_dt (h.2 x hx)⟩
theorem itree_int {m : Nat} {i : Int} (h : itree m (.int i)) : i.natAbs < 2 ^ 800 := by cases m <;> exact h
theorem lt_p900 {n : Nat} (h : n < 2 ^ 801) : n < 2 ^ 900 := Nat.lt_of_lt_of_le h (Nat.pow_le_pow_right (by decide) (by decide))
theorem lt_bigR8 {n : Nat} (h : n < 2 ^ 800) : n < bigR := Nat.lt_of_lt_of_le h (Nat.pow_le_pow_right (by decide) (by decide))
theorem cut_dt {l : List D} {lo hi : Option Int} (h : ∀ x ∈ l, x.dt = true) : ∀ x ∈ cutD l lo hi, x.dt = true := fun x hx => h x (List.mem_of_mem_drop (List.mem_of_mem_take hx))
def spoiltB (F : Fn) (S P : List D → Res D) : MS := (sSeq (sAsg (pN 2) (mCall F (.io 0 :: (.e (mC (.int 13)) :: [])))) (sSeq (sAsg (pN 3) (mCallP S (mCons (mV 1) mNil))) (sSeq (sAsg (pN 4) (m2 bIx (mV 3) (mCall F (.io 0 :: (.e (mN bLen (mCons (mV 3) mNil)) :: []))))) (sSeq (sAsg (pN 5) (mV 1)) (sSeq (sFor (pN 6) (mIt (mV 4)) (sAsg (pN 5) (m2 bIx (mV 5) (mV 6)))) (sSeq (sIf (m1 (bIsi "tuple") (mV 5)) (sSeq (sAsg (pN 7) (mN bLst (mCons (mL listOfD (mCons (mV 5) mNil)) (mCons (m2 bAdd (mV 5) (mN bTup (mCons (mC (.int 0)) mNil))) (mCons (mSl (mV 5) none (some (m1 bNeg (mC (.int 1))))) (mCons (mSl (mV 5) (some (mC (.int 1))) none) (mCons (m2 bAdd (mV 5) (mV 5)) (mCons (mN bTup mNil) (mCons (mC .non) (mCons (mC (.dct [] [])) (mCons (m1 bRevT (mV 5)) (mCons (m2 bAdd (mV 5) (mSl (mV 5) none (some (mC (.int 1))))) mNil)))))))))))) (sRet (mCallP P (mCons (mV 1) (mCons (mV 4) (mCons (m2 bIx (m2 bAdd (mV 7) (mN bLst (mCons (mN bLst (mCons (mV 5) mNil)) (mCons (mC (.str "x")) (mCons (mN bTup (mCons (mV 5) mNil)) mNil))))) (mV 2)) mNil)))))) (sK .nx)) (sSeq (sAsg (pN 7) (mN bLst (mCons (m2 bAdd (mV 5) (mC (.int 1))) (mCons (m2 bSub (mV 5) (mC (.int 1))) (mCons (m2 bSub (mC (.int 0)) (mV 5)) (mCons (mC (.int 0)) (mCons (m2 bEq (m2 bMod (mV 5) (mC (.int 2))) (mC (.int 1))) (mCons (mC (.bl true)) (mCons (mC .non) (mCons (mN bStr (mCons (mV 5) mNil)) (mCons (mN bTup (mCons (mV 5) mNil)) (mCons (mN bLst (mCons (mV 5) mNil)) (mCons (m2 bDict1 (mV 5) (mC (.int 0))) (mCons (mC (.int 1)) mNil)))))))))))))) (sRet (mCallP P (mCons (mV 1) (mCons (mV 4) (mCons (m2 bIx (m2 bAdd (mV 7) (mN bLst (mCons (m2 bPow (mC (.int 10)) (mC (.int 39))) mNil))) (mV 2)) mNil))))))))))))
def D.sz : D → Nat
  | .tup l => l.length
  | _ => 0
theorem putAt_sz {v : D} (hv : v.sz ≤ 2001) : ∀ {d : D} {p : List Nat} {e : D} {n : Nat}, At d p e → itree n d → (putAt d p v).sz ≤ 2001
  | _, _, _, _, .nil d, _ => by simpa [putAt] using hv
  | _, _, _, n, .cons (l := l) (k := k) (x := x) hk r, h => by
    simp only [putAt, hk, D.sz, List.length_set]
    have := (itree_tup h).1
    omega
theorem spoilt_stepS {dk d : D} {n : Nat} {Q : D → List D → Prop} (hd : Deck dk) (ht : itree n d) (hn : n ≤ 11) (hs : d.nodes ≤ 1000000) (k : ∀ v dk', v.dt = true → v.sz ≤ 2001 → Deck dk' → Q v [dk', d]) :
    ∃ r out, runF [.ol (.ol .sh .sh) .sh, .sh] 6 (spoiltB drawF (spotsR 12) (putR 12)) [dk, d] = .ok (r, out) ∧ Q r out := by
  have ht : itree 11 d := by
    have : ∀ (m j : Nat) (d : D), itree m d → itree (m + j) d := by
      intro m
      induction m with
      | zero => intro j d h; cases d with
        | int i => cases j <;> exact h
        | _ => exact h.elim
      | succ m ih => intro j d h; cases d with
        | int i => rw [show m + 1 + j = (m + j) + 1 by omega]; exact h
        | tup l => rw [show m + 1 + j = (m + j) + 1 by omega]; exact ⟨h.1, fun x hx => ih j x (h.2 x hx)⟩
        | _ => exact h.elim
    have := this n (11 - n) d ht
    rwa [show n + (11 - n) = 11 by omega] at this
  obtain ⟨ps, hp1, hp2, hp3⟩ := spots_ok 11 d (by omega) ht hs
  have hps : 0 < ps.length := by
    rw [hp2]; cases d <;> simp [D.nodes]
    omega
  refine runF_ex ?_
  unfold spoiltB
  simp only [W_sSeq, W_sAsg, W_mCall, evA, W_mCons, W_mC, W_mV, W_mNil, fillA]
  simp
  refine draw_step hd (by omega) (by omega) fun w dk1 w0 w1 hd1 => ?_
  simp [backA, pN]
  simp only [Kq_nx, W_sSeq, W_sAsg, W_mCallP, W_mCons, W_mV, W_mNil]
  simp [hp1, pN]
  simp only [Kq_nx, W_sSeq, W_sAsg, W_m2, W_mCall, W_mV, evA, W_mCons, W_mN, W_mNil, fillA]
  simp [bLen]
  refine draw_step hd1 (by omega) (by rw [hp2]; omega) fun j dk2 j0 j1 hd2 => ?_
  have hj : j.toNat < ps.length := by omega
  have hpj := List.getElem_mem hj
  generalize hp : ps[j.toNat] = p at hpj
  have hpk : (ps.map pathD)[j.toNat]? = some (pathD p) := by simp [hj, hp]
  have hat : bIx (.lst (ps.map pathD)) (.int j) = some (pathD p) := by
    have := at_nat hpk
    rw [Int.toNat_of_nonneg j0] at this
    exact this
  obtain ⟨lp, e, hae⟩ := hp3 p hpj
  simp [backA, hat, pN]
  simp only [W_sFor, W_mIt, W_mV]
  simp [itemsOf, pathD]
  refine part_loop hae fun o6 => ?_
  obtain ⟨m, _, hm⟩ := hae.itree ht
  have fin : ∀ v : D, v.dt = true → v.sz ≤ 2001 → ∃ r, putR 12 [d, .tup (p.map fun (k : Nat) => D.int k), v] = .ok r ∧ r.dt = true ∧ r.sz ≤ 2001 := fun v hv hz => ⟨_, put_ok 12 hae (by omega) ht, putAt_dt hv hae (itree_dt ht), putAt_sz hz hae ht⟩
  simp only [Kq_nx, W_sSeq, W_sIf, W_m1, W_mV]
  cases e with
  | tup l =>
    obtain ⟨l0, ld⟩ := itree_tup hm
    simp [isi_tuple_tup]
    simp only [W_sSeq, W_sAsg, W_mN, W_mCons, W_mL, W_m2, W_mSl, W_m1, W_mPtN, W_mPtS, W_mV, W_mC, W_mNil]
    simp [listOfD, bTup, bAdd, bSl, bNeg, bRevT, bLst, pN, show l.length + 1 ≤ 16777216 by omega, show l.length + l.length ≤ 16777216 by omega]
    refine ⟨_, ⟨by
      have : (cutD l none (some 1)).length ≤ l.length := by unfold cutD; simp; omega
      omega, rfl⟩, ?_⟩
    simp only [Kq_nx, W_sSeq, W_sRet, W_mCallP, W_mCons, W_mV, W_m2, W_mN, W_mC, W_mNil]
    simp [bLst, bTup, bAdd]
    obtain ⟨v, hv, hm⟩ := pick13 (l := [.lst l, .tup (l ++ [.int 0]), .tup (cutD l none (some (-1))), .tup (cutD l (some 1) none), .tup (l ++ l), .tup [], .non, .dct [] [], .tup l.reverse, .tup (l ++ cutD l none (some 1)), .lst [.tup l], .str "x", .tup [.tup l]]) rfl w0 w1
    refine ⟨v, hv, ?_⟩
    have dv : v.dt = true := by
      simp only [List.mem_cons, List.not_mem_nil, or_false] at hm
      have d0 : (D.int 0).dt = true := by decide +kernel
      clear hp1 hp2 hp3 hat hpk hpj hv fin k
      have q1 := cut_dt (lo := none) (hi := some (-1)) ld
      have q2 := cut_dt (lo := some 1) (hi := none) ld
      have q3 := cut_dt (lo := none) (hi := some 1) ld
      rcases hm with rfl | rfl | rfl | rfl | rfl | rfl | rfl | rfl | rfl | rfl | rfl | rfl | rfl <;> simp [D.dt, dtL_iff] <;> grind
    have sv : v.sz ≤ 2001 := by
      simp only [List.mem_cons, List.not_mem_nil, or_false] at hm
      have q : ∀ lo hi, (cutD l lo hi).length ≤ l.length := fun lo hi => by unfold cutD; simp; omega
      have q1 := q none (some (-1))
      have q2 := q (some 1) none
      have q3 := q none (some 1)
      rcases hm with rfl | rfl | rfl | rfl | rfl | rfl | rfl | rfl | rfl | rfl | rfl | rfl | rfl <;> simp [D.sz] <;> omega
    obtain ⟨r, h1, h2, h3⟩ := fin v dv sv
    refine ⟨r, h1, ?_⟩
    simp [Kq_ret, outs]
    exact k r dk2 h2 h3 hd2
  | int i =>
    have hi := itree_int hm
    simp [isi_tuple_int]
    simp only [W_sK, Kq_nx, W_sSeq, W_sAsg, W_mN, W_mCons, W_m2, W_mV, W_mC, W_mNil]
    simp [bAdd, bSub, bMod, eq_int2, bStr, lt_bigR8 hi, bTup, bLst, bDict1, D.key, pN]
    simp only [Kq_nx, W_sRet, W_mCallP, W_mCons, W_mV, W_m2, W_mN, W_mC, W_mNil]
    simp [bLst, bAdd, bPow]
    obtain ⟨v, hv, hm⟩ := pick13 (l := [.int (i + 1), .int (i - 1), .int (-i), .int 0, .bl (decide (i.fmod 2 = 1)), .bl true, .non, .str (toString i), .tup [.int i], .lst [.int i], .dct [.int i] [.int 0], .int 1, .int 1000000000000000000000000000000000000000]) rfl w0 w1
    refine ⟨v, hv, ?_⟩
    have dv : v.dt = true := by
      simp only [List.mem_cons, List.not_mem_nil, or_false] at hm
      have q : (2 : Nat) ^ 800 + 1 < 2 ^ 801 := by decide +kernel
      have z1 : (i + 1).natAbs < 2 ^ 900 := lt_p900 (by omega)
      have z2 : (i - 1).natAbs < 2 ^ 900 := lt_p900 (by omega)
      have z3 : i.natAbs < 2 ^ 900 := lt_p900 (by omega)
      have z4 : (1000000000000000000000000000000000000000 : Nat) < 2 ^ 900 := by decide +kernel
      have z5 : (1 : Nat) < 2 ^ 900 := by decide +kernel
      have z6 : (0 : Nat) < 2 ^ 900 := by decide +kernel
      rcases hm with rfl | rfl | rfl | rfl | rfl | rfl | rfl | rfl | rfl | rfl | rfl | rfl | rfl <;> simp only [D.dt, D.dtL, Int.natAbs_neg, decide_eq_true_eq, Bool.and_true] <;> assumption
    have sv : v.sz ≤ 2001 := by
      simp only [List.mem_cons, List.not_mem_nil, or_false] at hm
      rcases hm with rfl | rfl | rfl | rfl | rfl | rfl | rfl | rfl | rfl | rfl | rfl | rfl | rfl <;> simp [D.sz]
    obtain ⟨r, h1, h2, h3⟩ := fin v dv sv
    refine ⟨r, h1, ?_⟩
    simp [outs]
    exact k r dk2 h2 h3 hd2
  | _ => cases m <;> exact hm.elim
theorem spoilt_step {dk d : D} {n : Nat} {Q : D → List D → Prop} (hd : Deck dk) (ht : itree n d) (hn : n ≤ 11) (hs : d.nodes ≤ 1000000) (k : ∀ v dk', v.dt = true → Deck dk' → Q v [dk', d]) :
    ∃ r out, runF [.ol (.ol .sh .sh) .sh, .sh] 6 (spoiltB drawF (spotsR 12) (putR 12)) [dk, d] = .ok (r, out) ∧ Q r out := spoilt_stepS hd ht hn hs fun v dk' h _ => k v dk' h
end CL

namespace CL
open PySem PySem.Spec L2
set_option autoImplicit false
/-! ### a new list out of two -/
def bCat : D → D → Option D
  | .lst a, .lst b => if a.length + b.length ≤ 16777216 then some (.lst (a ++ b)) else none
  | _, _ => none
section
variable {X : Cx} {τ : Nat → OT} {q q1 q2 : Bool} {md1 md2 : Md} {a b : Expr} {ma mb : M D} {pos : Pos}
theorem e_catO (ha : PE X a (tE X.K τ q1 md1 ma)) (hb : PE X b (tE X.K τ q2 md2 mb)) (hm1 : Hand md1 := by trivial) (hm2 : Hand md2 := by trivial) (hq : md1 = .sh ∨ q2 = true := by first | exact .inl rfl | exact .inr rfl) :
    PE X (.BinOp a .Add b pos) (tE X.K τ (q1 && q2) (.ow (.ol .sh .sh)) (m2 bCat ma mb)) := (pe_op op_cat ha hb).mono fun σ H Q ⟨Z, own, ρ, d, ρ', rs, e, k⟩ => by
  obtain ⟨x, ρ1, e1, e⟩ := bind_ok e
  obtain ⟨y, ρ2, e2, e⟩ := bind_ok e
  obtain ⟨e3, rfl⟩ := ofO_ok e
  refine ⟨Z, own, ρ, x, ρ1, rs, e1, fun v Z1 own1 H1 S1 rs1 rm1 _ x1 => ⟨Z1, own1, ρ1, y, ρ', rs1, e2, fun w Z2 own2 H2 S2 rs2 rm2 _ x2 => ?_⟩⟩
  unfold bCat at e3
  split at e3
  · rename_i l m
    split at e3
    · rename_i hl
      cases e3
      obtain ⟨a, xs, rfl, s1, l1⟩ := (rs1.pk0 x2 hm1 hq rm1).lst
      obtain ⟨b, ys, rfl, s2, l2⟩ := (rm2.pk0 hm2).lst
      exact ⟨a, b, xs, ys, rfl, rfl, s1, s2, sum_le hl l1.len l2.len, fun p hp => fin_ol rs2 (x1.trans x2) hp ((Grow.new hp).shL (l1.append l2)) k⟩
    · cases e3
  · cases e3
end
end CL

namespace CL
open PySem PySem.Spec L2
set_option autoImplicit false
local macro_rules | `(tactic| walk_at "v") => `(tactic| simp only [W_sSeq, W_sIf, W_sRet, W_sExp, W_sAsg, W_sPar, W_sPar3, W_sK, W_mC, W_mV, W_m1, W_m2, W_mN, W_mL, W_mCons, W_mNil, W_mIf, W_mAnd, W_mOr, W_mChain, W_mCallP, W_mCall, W_mSl, W_mPtN, W_mPtS, W_mIt, W_mItN, W_mIxS, W_mComp, W_sFor, evA, pN, pT, psC, psN, fillA, backA])
local macro_rules | `(tactic| walk_at "n") => `(tactic| simp only [Kq_nx, Kq_ret, Kq_brk, Kq_cnt])
/-! ### grains, points and lines, as most laws draw them -/
abbrev DKt : OT := .ol (.ol .sh .sh) .sh
def pt (x y : Int) : D := .tup [.int x, .int y]
def ln (x y u v : Int) : D := .tup [pt x y, pt u v]
/-- a line of numbers within a bound, its ends unlike -/
def Ln (B : Nat) (d : D) : Prop := ∃ x y u v : Int, d = ln x y u v ∧ x.natAbs ≤ B ∧ y.natAbs ≤ B ∧ u.natAbs ≤ B ∧ v.natAbs ≤ B ∧ ¬ (x = u ∧ y = v)
theorem fd_mul {x g : Int} (hg : 0 < g) (hx : 0 ≤ x) : 0 ≤ x.fdiv g * g ∧ x.fdiv g * g ≤ x := by
  rw [Int.fdiv_eq_ediv_of_nonneg _ (by omega)]
  exact ⟨Int.mul_nonneg (Int.ediv_nonneg hx (by omega)) (by omega), Int.ediv_mul_le _ (by omega)⟩
def grainB : MS := (sRet (m2 bIx (mN bLst (mCons (mC (.int 1)) (mCons (mC (.int 2)) (mCons (mC (.int 3)) (mCons (mC (.int 4)) (mCons (mC (.int 2)) (mCons (mC (.int 6)) (mCons (mC (.int 10)) (mCons (mC (.int 1000)) mNil))))))))) (mCall drawF (.io 0 :: (.e (mC (.int 8)) :: [])))))
theorem grain_step {dk : D} {Q : D → List D → Prop} (hd : Deck dk) (k : ∀ (g : Int) dk', 0 < g → g ≤ 1000 → Deck dk' → Q (.int g) [dk']) : ∃ r out, runF [DKt] 0 grainB [dk] = .ok (r, out) ∧ Q r out := by
  refine runF_ex ?_
  unfold grainB
  walk_at "v"
  simp [bLst]
  refine draw_step hd (by omega) (by omega) fun w dk1 w0 w1 hd1 => ?_
  have : ∃ g : Int, bIx (.lst [.int 1, .int 2, .int 3, .int 4, .int 2, .int 6, .int 10, .int 1000]) (.int w) = some (.int g) ∧ 0 < g ∧ g ≤ 1000 := by
    rcases (show w = 0 ∨ w = 1 ∨ w = 2 ∨ w = 3 ∨ w = 4 ∨ w = 5 ∨ w = 6 ∨ w = 7 by omega) with rfl | rfl | rfl | rfl | rfl | rfl | rfl | rfl
    all_goals exact ⟨_, rfl, by omega, by omega⟩
  obtain ⟨g, h1, h2, h3⟩ := this
  exact ⟨_, h1, _, rfl, k g dk1 h2 h3 hd1⟩
def pointB : MS := (sSeq (sPar 3 4 (mCons (mCall drawF (.io 0 :: (.e (m2 bAdd (m2 bMul (mC (.int 4)) (mV 1)) (mC (.int 1))) :: []))) (mCons (mCall drawF (.io 0 :: (.e (m2 bAdd (m2 bMul (mC (.int 4)) (mV 1)) (mC (.int 1))) :: []))) mNil))) (sSeq (sIf (m2 bEq (mV 2) (mC (.int 1))) (sRet (mN bTup (mCons (m2 bDiv (m2 bAdd (m2 bMul (m2 bDiv (m2 bMul (mC (.int 2)) (mV 3)) (mV 1)) (mV 1)) (mC (.int 1))) (mC (.int 2))) (mCons (m2 bDiv (m2 bAdd (m2 bMul (m2 bDiv (m2 bMul (mC (.int 2)) (mV 4)) (mV 1)) (mV 1)) (mC (.int 1))) (mC (.int 2))) mNil)))) (sK .nx)) (sSeq (sIf (m2 bEq (mV 2) (mC (.int 2))) (sRet (mN bTup (mCons (m2 bMul (m2 bDiv (mV 3) (mV 1)) (mV 1)) (mCons (m2 bMul (m2 bDiv (mV 4) (mV 1)) (mV 1)) mNil)))) (sK .nx)) (sSeq (sIf (m2 bEq (mV 2) (mC (.int 3))) (sRet (mN bTup (mCons (m2 bAdd (m2 bMul (m2 bDiv (mV 3) (mV 1)) (mV 1)) (m2 bDiv (mV 1) (mC (.int 2)))) (mCons (mV 4) mNil)))) (sK .nx)) (sRet (mN bTup (mCons (mV 3) (mCons (mV 4) mNil))))))))
theorem point_step {dk : D} {g w : Int} {Q : D → List D → Prop} (hd : Deck dk) (g0 : 0 < g) (g1 : g ≤ 1000) (k : ∀ (x y : Int) dk', 0 ≤ x → x ≤ 6 * g + 1 → 0 ≤ y → y ≤ 6 * g + 1 → Deck dk' → Q (pt x y) [dk', .int g, .int w]) : ∃ r out, runF [DKt, .sh, .sh] 2 pointB [dk, .int g, .int w] = .ok (r, out) ∧ Q r out := by
  have gm : g.natAbs < 18446744073709551616 := by omega
  have gD : g.natAbs < bigD := lt_bigD (by omega)
  have two : (2 : Nat) < bigD := lt_bigD (by decide)
  have gn : g ≠ 0 := by omega
  refine runF_ex ?_
  unfold pointB
  walk_at "v"
  simp [bMul, bAdd]
  refine draw_step hd (by omega) (by omega) fun x dk1 x0 x1 hd1 => ?_
  simp [backA]
  refine draw_step hd1 (by omega) (by omega) fun y dk2 y0 y1 hd2 => ?_
  simp [backA]
  walk_at "n"; walk_at "v"
  obtain ⟨a1, a2⟩ := fd_mul (x := x) g0 x0
  obtain ⟨b1, b2⟩ := fd_mul (x := y) g0 y0
  obtain ⟨c1, c2⟩ := fd_mul (x := 2 * x) g0 (by omega)
  obtain ⟨d1, d2⟩ := fd_mul (x := 2 * y) g0 (by omega)
  have h2 : ∀ z : Int, z.fdiv 2 = z / 2 := fun z => Int.fdiv_eq_ediv_of_nonneg _ (by omega)
  simp [eq_int2]
  by_cases w1 : w = 1
  · simp [w1, bMul, bDiv, bAdd, gm, gD, two, gn, bTup, Kq_ret, outs]
    simp [w1] at k
    exact k _ _ _ (by rw [h2]; omega) (by rw [h2]; omega) (by rw [h2]; omega) (by rw [h2]; omega) hd2
  · simp [w1]
    walk_at "n"; walk_at "v"
    simp [eq_int2]
    by_cases w2 : w = 2
    · simp [w2, bMul, bDiv, bAdd, gm, gD, gn, bTup, Kq_ret, outs]
      simp [w2] at k
      exact k _ _ _ (by omega) (by omega) (by omega) (by omega) hd2
    · simp [w2]
      walk_at "n"; walk_at "v"
      simp [eq_int2]
      by_cases w3 : w = 3
      · simp [w3, bMul, bDiv, bAdd, gm, gD, gn, two, bTup, Kq_ret, outs]
        simp [w3] at k
        exact k _ _ _ (by rw [h2]; omega) (by rw [h2]; omega) (by omega) (by omega) hd2
      · simp [w3]
        walk_at "n"; walk_at "v"
        simp [bTup, outs]
        exact k _ _ _ (by omega) (by omega) (by omega) (by omega) hd2
theorem eq_pt {x y u v : Int} : bEq (pt x y) (pt u v) = some (.bl (decide (x = u ∧ y = v))) := by
  simp [pt, bEq, D.okB, D.okL, D.eqv, D.py, D.pyL, PyData.eqv, PyData.eqvAll]
  by_cases h1 : x = u <;> by_cases h2 : y = v <;> simp [h1, h2]
theorem ne_pt {x y u v : Int} : bNe (pt x y) (pt u v) = some (.bl (!decide (x = u ∧ y = v))) := by
  simp [pt, bNe, D.okB, D.okL, D.eqv, D.py, D.pyL, PyData.eqv, PyData.eqvAll]
  by_cases h1 : x = u <;> by_cases h2 : y = v <;> simp [h1, h2]
def unlikeB : MS := (sRet (mN bTup (mCons (mV 0) (mCons (m2 bIx (mN bLst (mCons (mV 1) (mCons (mN bTup (mCons (m2 bAdd (m2 bIx (mV 0) (mC (.int 0))) (mC (.int 1))) (mCons (m2 bIx (mV 0) (mC (.int 1))) mNil))) mNil))) (mN bInt (mCons (m2 bEq (mV 0) (mV 1)) mNil))) mNil))))
theorem unlike_ok {x y u v : Int} {B : Nat} (h1 : x.natAbs + 1 ≤ B) (h2 : y.natAbs ≤ B) (h3 : u.natAbs ≤ B) (h4 : v.natAbs ≤ B) : ∃ d, runP 0 unlikeB [pt x y, pt u v] = .ok d ∧ Ln B d := by
  refine runP_ex ?_
  unfold unlikeB
  walk_at "v"
  by_cases c : x = u ∧ y = v
  · simp [eq_pt, c, bInt]
    simp [bLst, bTup, pt, bIx, atI, ixN, bAdd]
    exact ⟨u, v, u + 1, v, rfl, by omega, by omega, by omega, by omega, by omega⟩
  · simp [eq_pt, c, bInt]
    simp [bLst, bTup, pt, bIx, atI, ixN, bAdd]
    exact ⟨x, y, u, v, rfl, by omega, by omega, by omega, by omega, c⟩
def lineB (F P : Fn) (U : List D → Res D) : MS := (sSeq (sAsg (pN 3) (mCall F (.io 0 :: (.e (mC (.int 9)) :: [])))) (sSeq (sAsg (pN 4) (mCall P (.io 0 :: (.e (mV 1) :: (.e (m2 bMod (mV 3) (mC (.int 4))) :: []))))) (sSeq (sAsg (pN 5) (mCall P (.io 0 :: (.e (mV 1) :: (.e (mCall F (.io 0 :: (.e (mC (.int 4)) :: []))) :: []))))) (sSeq (sIf (mOr (m2 bEq (mV 2) (mN bLst mNil)) (m2 bLt (mV 3) (mC (.int 5)))) (sRet (mCallP U (mCons (mV 4) (mCons (mV 5) mNil)))) (sK .nx)) (sSeq (sAsg (pT 2 (psC (pT 2 (psC (pN 6) (psC (pN 7) psN))) (psC (pT 2 (psC (pN 8) (psC (pN 9) psN))) psN))) (m2 bIx (mV 2) (mCall F (.io 0 :: (.e (mN bLen (mCons (mV 2) mNil)) :: []))))) (sSeq (sIf (m2 bGt (mN bMax1 (mCons (mComp [10] (pN 10) (mIt (mN bTup (mCons (mV 6) (mCons (mV 7) (mCons (mV 8) (mCons (mV 9) mNil)))))) mYes (mN bAbs (mCons (mV 10) mNil))) mNil)) (m2 bMul (mC (.int 12)) (mV 1))) (sRet (mCallP U (mCons (mV 4) (mCons (mV 5) mNil)))) (sK .nx)) (sSeq (sIf (m2 bEq (mV 3) (mC (.int 5))) (sRet (mCallP U (mCons (mN bTup (mCons (mV 8) (mCons (mV 9) mNil))) (mCons (mV 5) mNil)))) (sK .nx)) (sSeq (sIf (m2 bEq (mV 3) (mC (.int 6))) (sRet (mCallP U (mCons (mV 4) (mCons (mN bTup (mCons (m2 bSub (m2 bAdd (mV 6) (mV 8)) (m2 bIx (mV 4) (mC (.int 0)))) (mCons (m2 bSub (m2 bAdd (mV 7) (mV 9)) (m2 bIx (mV 4) (mC (.int 1)))) mNil))) mNil)))) (sK .nx)) (sSeq (sIf (m2 bEq (mV 3) (mC (.int 7))) (sRet (mN bTup (mCons (mN bTup (mCons (mV 8) (mCons (mV 9) mNil))) (mCons (mN bTup (mCons (m2 bSub (m2 bMul (mC (.int 2)) (mV 8)) (mV 6)) (mCons (m2 bSub (m2 bMul (mC (.int 2)) (mV 9)) (mV 7)) mNil))) mNil)))) (sK .nx)) (sRet (m2 bIx (mN bLst (mCons (mN bTup (mCons (mN bTup (mCons (mV 6) (mCons (mV 7) mNil))) (mCons (mN bTup (mCons (mV 8) (mCons (mV 9) mNil))) mNil))) (mCons (mN bTup (mCons (mN bTup (mCons (mV 8) (mCons (mV 9) mNil))) (mCons (mN bTup (mCons (mV 6) (mCons (mV 7) mNil))) mNil))) (mCons (mN bTup (mCons (mN bTup (mCons (mV 6) (mCons (mV 7) mNil))) (mCons (mN bTup (mCons (m2 bSub (m2 bMul (mC (.int 2)) (mV 8)) (mV 6)) (mCons (m2 bSub (m2 bMul (mC (.int 2)) (mV 9)) (mV 7)) mNil))) mNil))) mNil)))) (mCall F (.io 0 :: (.e (mC (.int 3)) :: []))))))))))))))
abbrev pointF : Fn := runF [DKt, .sh, .sh] 2 pointB
abbrev unlikeF : List D → Res D := runP 0 unlikeB
def lineF : Fn := runF [DKt, .sh, .sh] 8 (lineB drawF pointF unlikeF)
theorem eq_lst0 {l : List D} : bEq (.lst l) (.lst []) = some (.bl l.isEmpty) := rfl
set_option maxHeartbeats 0 in
theorem line_step {dk : D} {g : Int} {ls : List D} {Q : D → List D → Prop} (hd : Deck dk) (g0 : 0 < g) (g1 : g ≤ 1000) (hl : ∀ d ∈ ls, Ln (40 * g.toNat + 10) d) (h1000 : ls.length ≤ 1000000) (k : ∀ d dk', Ln (40 * g.toNat + 10) d → Deck dk' → Q d [dk', .int g, .lst ls]) : ∃ r out, lineF [dk, .int g, .lst ls] = .ok (r, out) ∧ Q r out := by
  have four : (4 : Int) ≠ 0 := by decide
  refine runF_ex ?_
  unfold lineB
  walk_at "v"
  simp
  refine draw_step hd (by omega) (by omega) fun w dk1 w0 w1 hd1 => ?_
  simp [backA]
  walk_at "n"; walk_at "v"
  simp [bMod]
  refine point_step hd1 g0 g1 fun x y dk2 x0 x1 y0 y1 hd2 => ?_
  simp [backA]
  walk_at "n"; walk_at "v"
  simp
  refine draw_step hd2 (by omega) (by omega) fun w' dk3 w0' w1' hd3 => ?_
  simp [backA]
  refine point_step hd3 g0 g1 fun u v dk4 u0 u1 v0 v1 hd4 => ?_
  simp [backA]
  walk_at "n"; walk_at "v"
  obtain ⟨du, e1, e2⟩ := unlike_ok (x := x) (y := y) (u := u) (v := v) (B := 40 * g.toNat + 10) (by omega) (by omega) (by omega) (by omega)
  simp [bLst, eq_lst0, bLt]
  by_cases c0 : ls = []
  · subst c0
    simp [unlikeF, e1, Kq_ret, outs]
    exact k _ _ e2 hd4
  · simp [c0]
    by_cases c1 : w < 5
    · simp [c1, unlikeF, e1, Kq_ret, outs]
      left
      exact k _ _ e2 hd4
    · right
      refine ⟨by omega, ?_⟩
      walk_at "n"; walk_at "v"
      simp [bLen]
      have pos : 0 < ls.length := List.length_pos_iff.mpr c0
      refine draw_step hd4 (by omega) (by omega) fun j dk5 j0 j1 hd5 => ?_
      have hj : j.toNat < ls.length := by omega
      have hjk : ls[j.toNat]? = some ls[j.toNat] := List.getElem?_eq_getElem hj
      have hat : bIx (.lst ls) (.int j) = some ls[j.toNat] := by
        have := at_nat hjk
        rw [Int.toNat_of_nonneg j0] at this
        exact this
      obtain ⟨a, b, c, d, he, ha, hb, hc, hdd, hne⟩ := hl _ (List.getElem_mem hj)
      rw [he] at hat
      simp [hat, backA]
      refine ⟨[some dk5, some (.int g), some (.lst ls), some (.int w), some (pt x y), some (pt u v), some (.int a), some (.int b), some (.int c), some (.int d), none], rfl, ?_⟩
      walk_at "n"; walk_at "v"
      simp [bTup, itemsOf, wipeD, W_compCons, W_compNil, W_mYes, pN]
      walk_at "v"
      have sm : ∀ z : Int, (if z < 0 then -z else z) = (z.natAbs : Int) := fun z => by split <;> omega
      simp [bAbs, wipeD, bMax1, intsOf, maxL, bMul, bGt, sm]
      have hM : ∃ M : Int, max (a.natAbs : Int) (max (b.natAbs : Int) (max (c.natAbs : Int) (d.natAbs : Int))) = M ∧ (a.natAbs : Int) ≤ M ∧ (b.natAbs : Int) ≤ M ∧ (c.natAbs : Int) ≤ M ∧ (d.natAbs : Int) ≤ M := ⟨_, rfl, by omega, by omega, by omega, by omega⟩
      obtain ⟨M, hM, m1, m2, m3, m4⟩ := hM
      rw [hM]
      clear hM
      by_cases c2 : 12 * g < M
      · left
        simp [c2, unlikeF, e1, Kq_ret, outs]
        exact k _ _ e2 hd5
      · right
        refine ⟨by omega, ?_⟩
        walk_at "n"; walk_at "v"
        clear e1 e2 he hat hjk hl
        have ha' : a.natAbs ≤ 12 * g.toNat := by omega
        have hb' : b.natAbs ≤ 12 * g.toNat := by omega
        have hc' : c.natAbs ≤ 12 * g.toNat := by omega
        have hd' : d.natAbs ≤ 12 * g.toNat := by omega
        simp [eq_int2]
        by_cases w5 : w = 5
        · obtain ⟨d5, f1, f2⟩ := unlike_ok (x := c) (y := d) (u := u) (v := v) (B := 40 * g.toNat + 10) (by omega) (by omega) (by omega) (by omega)
          simp only [pt] at f1
          simp [w5, bTup, unlikeF, pt, f1, Kq_ret, outs]
          exact k _ _ f2 hd5
        · simp [w5]
          walk_at "n"; walk_at "v"
          simp [eq_int2]
          by_cases w6 : w = 6
          · obtain ⟨d5, f1, f2⟩ := unlike_ok (x := x) (y := y) (u := a + c - x) (v := b + d - y) (B := 40 * g.toNat + 10) (by omega) (by omega) (by omega) (by omega)
            simp only [pt] at f1
            simp [w6, bTup, unlikeF, pt, bIx, atI, ixN, bAdd, bSub, f1, Kq_ret, outs]
            exact k _ _ f2 hd5
          · simp [w6]
            walk_at "n"; walk_at "v"
            simp [eq_int2]
            by_cases w7 : w = 7
            · simp [w7, bTup, bMul, bSub, Kq_ret, outs]
              exact k _ _ ⟨c, d, 2 * c - a, 2 * d - b, rfl, by omega, by omega, by omega, by omega, by omega⟩ hd5
            · simp [w7]
              walk_at "n"; walk_at "v"
              simp [bTup, bLst, bMul, bSub]
              refine draw_step hd5 (by omega) (by omega) fun z dk6 z0 z1 hd6 => ?_
              simp [backA]
              rcases (show z = 0 ∨ z = 1 ∨ z = 2 by omega) with rfl | rfl | rfl
              · simp [bIx, atI, ixN, outs]
                exact k _ _ ⟨a, b, c, d, rfl, by omega, by omega, by omega, by omega, by omega⟩ hd6
              · simp [bIx, atI, ixN, outs]
                exact k _ _ ⟨c, d, a, b, rfl, by omega, by omega, by omega, by omega, by omega⟩ hd6
              · simp [bIx, atI, ixN, outs]
                exact k _ _ ⟨a, b, 2 * c - a, 2 * d - b, rfl, by omega, by omega, by omega, by omega, by omega⟩ hd6
def tyLines : Nat → OT := fun i => if i = 0 then .ol (.ol .sh .sh) .sh else if i = 3 then .ol .sh .sh else .sh
noncomputable def linesB : MS := (sSeq (sAsg (pN 3) (mN bLst mNil)) (sSeq (sFor (pN 4) (mItN range1 (mCons (mV 2) mNil)) (sExp (mApp 3 (mBor tyLines 3 (mCall lineF (.io 0 :: (.e (mV 1) :: (.e (mV 3) :: [])))))))) (sRet (mN bTuple (mCons (mV 3) mNil)))))
noncomputable def linesF : Fn := runF [DKt, .sh, .sh] 2 linesB
theorem Ln.pure {B : Nat} {d : D} (h : Ln B d) : d.pure = true := by
  obtain ⟨x, y, u, v, rfl, _⟩ := h
  rfl
theorem Deck.leaf {d : D} (h : Deck d) : leafP DKt d = true := by
  obtain ⟨l, a, n, rfl, _⟩ := h
  have : ∀ l : List Int, leafP (.ol .sh .sh) (.lst (l.map .int)) = true := fun l => by
    cases l with
    | nil => rfl
    | cons x l => simp [leafP, D.pure]
  simp [leafP, this, D.pure]
theorem W_mApp {i : Nat} {m : M D} {ρ : Sl} {Q : D → Sl → Prop} : W (mApp i m) ρ Q ↔ ∃ d0, ρ[i]? = some (some d0) ∧ W m ρ fun d ρ1 => ∃ l, ρ1[i]? = some (some (.lst l)) ∧ l.length < 16777216 ∧ Q .non (ρ1.set i (some (.lst (l ++ [d])))) := by
  unfold mApp
  simp only [W_bind, W_mV]
  constructor
  · rintro ⟨d0, h0, h⟩
    refine ⟨d0, h0, h.mono fun d ρ1 ⟨a, ρ', e, q⟩ => ?_⟩
    dsimp only at e
    split at e
    · rename_i l hl
      split at e
      · rename_i hll; cases e; exact ⟨l, hl, hll, q⟩
      · cases e
    · cases e
  · rintro ⟨d0, h0, h⟩
    refine ⟨d0, h0, h.mono fun d ρ1 ⟨l, hl, hll, q⟩ => ⟨.non, _, by simp [hl, hll], q⟩⟩
theorem lines_loop {g : Int} {o1 o2 : Option D} {Q : Fl → Sl → Prop} (g0 : 0 < g) (g1 : g ≤ 1000) (h1 : o1 = some (.int g)) (h2 : ∃ m : Int, o2 = some (.int m)) : ∀ (xs : List D) (dk : D) (ls : List D) (o4 : Option D), Deck dk → (∀ d ∈ ls, Ln (40 * g.toNat + 10) d) → ls.length + xs.length ≤ 1000000 →
    (∀ dk' ls' o4', Deck dk' → (∀ d ∈ ls', Ln (40 * g.toNat + 10) d) → ls'.length = ls.length + xs.length → Q .nx [some dk', o1, o2, some (.lst ls'), o4']) →
    W (forL (pN 4) (sExp (mApp 3 (mBor tyLines 3 (mCall lineF (.io 0 :: (.e (mV 1) :: (.e (mV 3) :: []))))))) xs) [some dk, o1, o2, some (.lst ls), o4] Q
  | [], dk, ls, o4, hd, hl, _, k => W_forNil.mpr (k dk ls o4 hd hl (by simp))
  | x :: xs, dk, ls, o4, hd, hl, hn, k => by
    subst h1
    obtain ⟨m, rfl⟩ := h2
    simp at hn
    refine W_forCons.mpr ⟨_, rfl, ?_⟩
    simp only [W_sExp, W_mApp, W_mBor]
    refine ⟨_, rfl, ?_⟩
    walk_at "v"
    simp
    refine line_step hd g0 g1 hl (by omega) fun d dk1 hdl hd1 => ?_
    simp [backA]
    refine ⟨⟨hdl.pure, ?_⟩, by omega, ?_⟩
    · simp [borL, tyLines, hd1.leaf]
    · exact lines_loop g0 g1 rfl ⟨m, rfl⟩ xs dk1 (ls ++ [d]) _ hd1 (fun y hy => by
        rcases List.mem_append.mp hy with hy | hy
        · exact hl y hy
        · simp at hy; subst hy; exact hdl) (by simp; omega) fun dk' ls' o4' a b c => k dk' ls' o4' a b (by rw [c]; simp; omega)
theorem lines_step {dk : D} {g n : Int} {Q : D → List D → Prop} (hd : Deck dk) (g0 : 0 < g) (g1 : g ≤ 1000) (n0 : 0 ≤ n) (n1 : n ≤ 100000) (k : ∀ ls dk', (∀ d ∈ ls, Ln (40 * g.toNat + 10) d) → (ls.length : Int) = n → Deck dk' → Q (.tup ls) [dk', .int g, .int n]) : ∃ r out, linesF [dk, .int g, .int n] = .ok (r, out) ∧ Q r out := by
  refine runF_ex ?_
  unfold linesB
  walk_at "v"
  simp [bLst]
  walk_at "n"; walk_at "v"
  have hr : range1 [.int n] = some (rangeL 0 n) := by simp [range1]; omega
  simp [hr]
  have hlen : ((rangeL 0 n).length : Int) = n := by simp [rangeL]; omega
  refine lines_loop g0 g1 rfl ⟨n, rfl⟩ _ dk [] none hd (by simp) (by simp; omega) fun dk' ls' o4' a b c => ?_
  walk_at "n"; walk_at "v"
  simp [bTuple, outs]
  exact k _ _ b (by rw [c]; simpa using hlen) a
end CL

namespace CL
open PySem PySem.Spec L2
set_option autoImplicit false
/-! ### instances that don't change -/
def bFld (f : Str) : D → Option D
  | .ins _ ns fs => (ns.zip fs).lookup f
  | _ => none
theorem zip_lookup {K : PySem.W.Frag} {Z : Addr → Prop} {H : Hp} {f : Str} : ∀ {ns : List Str} {fs : List D} {xs : List V} {d : D}, RShL K Z H fs xs → (ns.zip fs).lookup f = some d → f ∈ ns ∧ ∃ v, (ns.zip xs).lookup f = some v ∧ RSh K Z H d v
  | [], _, _, _, _, h => by simp at h
  | n :: ns, [], _, _, _, h => by simp at h
  | n :: ns, e :: fs, xs, d, r, h => by
    simp only [RShL] at r
    obtain ⟨w, ws, rfl, r1, r2⟩ := r
    simp only [List.zip_cons_cons, List.lookup_cons] at h ⊢
    cases hb : f == n with
    | true =>
      rw [hb] at h
      cases h
      have : f = n := by simpa using hb
      exact ⟨by simp [this], w, rfl, r1⟩
    | false =>
      rw [hb] at h
      obtain ⟨h1, v, h2, h3⟩ := zip_lookup (ns := ns) r2 h
      exact ⟨by simp [h1], v, h2, h3⟩
theorem Pk0.ins {K : PySem.W.Frag} {Z : Addr → Prop} {H : Hp} {c : Str} {ns : List Str} {fs : List D} {v : V} (h : Pk0 K Z H (.ins c ns fs) v) : RSh K Z H (.ins c ns fs) v := by
  rcases h with h | ⟨_, _, _, e, _⟩
  · exact h
  · cases e
section
variable {X : Cx} {τ : Nat → OT} {q q1 q2 : Bool} {md : Md} {a o : Expr} {ma : M D} {ms : M (List D)} {pos apos p : Pos} {e : Expr} {es : List Expr}
theorem e_fld {f : Str} (ha : PE X a (tE X.K τ q md ma)) (hm : Hand md := by trivial) (hb : attributeBase a f X.env (eval a X.env) = eval a X.env := by rfl) : PE X (.Attribute a f pos) (tE X.K τ q .sh (m1 (bFld f) ma)) := (pe_fld ha hb).mono fun σ H Q ⟨Z, own, ρ, d, ρ', rs, e, k⟩ => by
  obtain ⟨x, ρ1, e1, f1⟩ := bind_ok e
  obtain ⟨f2, rfl⟩ := ofO_ok f1
  unfold bFld at f2
  split at f2
  · rename_i c ns fs
    refine ⟨Z, own, ρ, _, ρ', rs, e1, fun v Z1 own1 H1 S1 rs1 rm1 _ x1 => ?_⟩
    have r := (rm1.pk0 hm).ins
    simp only [RSh] at r
    obtain ⟨C, b, dx, xs, rfl, k1, k2, k3, k4, k5, k6⟩ := r
    obtain ⟨g1, w, g2, g3⟩ := zip_lookup k6 f2
    exact ⟨b, C, dx, _, w, rfl, k4, k2, k3 f g1, g2, k w Z1 own1 H1 (fun _ => False) rs1 g3 (fun _ z => z.elim) x1⟩
  · cases f2
/-! methods -/
def bRcv (c m : Str) : D → Option D
  | .ins c' ns fs => if c' = c ∧ ¬ m ∈ ns then some (.ins c' ns fs) else none
  | _ => none
def CalM (P : Program) (w : World) (K : PySem.W.Frag) (mg : Str → Option Value) (base : Heap) (k : Nat) (c m : Str) (n : Nat) (rt : OT) (G : List D → Res D) : Prop :=
  ∃ C f fd ps, PySem.W.nsIn K mainGlobals c = some (some (.ref C)) ∧ Cls K C ∧ FnG P w K mg base k f fd ps (spP K n rt G) ∧ Meth K C m f ∧ Binds K fd ps []
def tMethG (C : Addr) (m : Str) (sp : Sp) (ta : TE) (t : TA) : TE := fun σ H Q => ta σ H fun x H1 => ∃ a dx fs, x = .ref a ∧ H1 a = some (.ins C dx fs) ∧ fs.lookup m = none ∧ t σ H1 fun vs H2 => sp (x :: vs) H2 Q E0
theorem pe_methG {k : Nat} {f C : Addr} {fd : FuncData} {ps : List Str} {sp : Sp} {m : Str} {ta : TE} {t : TA} {pl : Sem Bool} (he : PE X o ta) (c : Cls X.K C) (hm : Meth X.K C m f) (F : FnG X.prog X.w X.K X.mg X.base k f fd ps sp) (hr : Room k X.A) (hgu : X.A.guards = some []) (hb : Binds X.K fd ps []) (ha : PA X (e :: es) t)
    (hst : starEach (e :: es) X.env = (false, eval e X.env) :: starEach es X.env) (hpl : (backTo pos (starEach es X.env)).any (·.1) = false)
    (ht : eval (.Call (.Attribute o m apos) (e :: es) [] pos) X.env = (do let ov ← eval o X.env; standAt apos.atName; let (f, first) ← holding [ov] (getMethod ov m pl); callWith pos f first (backTo pos (starEach (e :: es) X.env)) (backToKw pos (keywordEach [] X.env)))) :
    PE X (.Call (.Attribute o m apos) (e :: es) [] pos) (tMethG C m sp ta t) := by
  refine ⟨fun pins s σ H Q I h => ?_⟩
  refine PySem.W.methodCall_KW (pl := pl) (thn (he.run pins s σ H _ I h) fun u s1 ⟨x, H1, I1, rx, a, dx, fs, ex, ea, l, q⟩ => ?_) ht
  subst ex
  obtain rfl : u = Value.ref a := rx
  refine getmeth_ok I1 ea c hm l ?_
  refine PySem.W.callWith_K (first := [.ref a]) (h₀ := X.base) I.ok.mod.kin hm.kp (thn (ha.run pos pins s1 σ H1 _ I1 q) fun us s2 ⟨vs, H2, I2, r, hsp⟩ => ⟨I2.kIn, ?_⟩) hst hpl
  have r' : Vals (V.ref a :: vs) (Value.ref a :: us) := .cons rfl r
  have hl : ((Value.ref a :: us) ++ []).length = ps.length := by rw [List.append_nil, ← r'.length]; exact F.len _ _ _ _ hsp
  have hbd := hb s2 (.ref a :: us) I2.kIn hl
  rw [List.append_nil] at hbd
  apply wpAny_call
  apply codeAny_mono (F.run X.A X.stack s2 H2 ⟨.ref a :: us, []⟩ (.ref a :: us) (.ref a :: vs) Q E0 hr hgu I2.env0 hbd r' hsp)
  intro res s3 hres
  cases res with
  | error er => exact hres.elim
  | ok fl =>
    cases fl with
    | ret u => exact I2.after hres
    | next => exact hres.elim
    | brk => exact hres.elim
    | cont => exact hres.elim
theorem lookup_none {f : Str} : ∀ {ns : List Str} {xs : List V}, ¬ f ∈ ns → (ns.zip xs).lookup f = none
  | [], _, _ => by simp
  | n :: ns, [], _ => by simp
  | n :: ns, x :: xs, h => by
    simp only [List.zip_cons_cons, List.lookup_cons]
    simp at h
    rw [show (f == n) = false by simpa using h.1]
    exact lookup_none h.2
theorem e_m {k j n : Nat} {c m : Str} {rt : OT} {G : List D → Res D} {pl : Sem Bool} (cal : CalM X.prog X.w X.K X.mg X.base k c m (n + 1) rt G) (hr : Room j X.A) (hgu : X.A.guards = some []) (ho : PE X o (tE X.K τ q1 .sh ma)) (ha : PA X (e :: es) (tAs X.K τ q2 ms)) (hn : ∀ ds (d : D) ρ ρ', ms ρ = .ok (ds, ρ') → ds.length = n) (hj : k ≤ j := by decide)
    (hst : starEach (e :: es) X.env = (false, eval e X.env) :: starEach es X.env := by rfl) (hpl : (backTo pos (starEach es X.env)).any (·.1) = false := by rfl)
    (ht : eval (.Call (.Attribute o m apos) (e :: es) [] pos) X.env = (do let ov ← eval o X.env; standAt apos.atName; let (f, first) ← holding [ov] (getMethod ov m pl); callWith pos f first (backTo pos (starEach (e :: es) X.env)) (backToKw pos (keywordEach [] X.env))) := by rfl) :
    PE X (.Call (.Attribute o m apos) (e :: es) [] pos) (tE X.K τ (q1 && q2) (.ow rt) (mCallP G (mCons (m1 (bRcv c m) ma) ms))) := by
  obtain ⟨C, f, fd, ps, hC, hcl, F, hm, hb⟩ := cal
  refine (pe_methG (pl := pl) ho hcl hm (F.mono hj) hr hgu hb ha hst hpl ht).mono fun σ H Q h => ?_
  have h2 := callP_of (X := X) (τ := τ) (q := q1 && q2) σ H Q h (fun ds d ρ ρ' e => len_cons hn ds d ρ ρ' e)
  obtain ⟨Z, own, ρ, ds, ρ', rs, e, kk⟩ := h2
  obtain ⟨x, ρ1, e1, f1⟩ := bind_ok e
  obtain ⟨xs, ρ2, e2, f2⟩ := bind_ok f1
  cases f2
  obtain ⟨x0, ρ0, e0, f0⟩ := bind_ok e1
  obtain ⟨f3, rfl⟩ := ofO_ok f0
  refine ⟨Z, own, ρ, x0, ρ1, rs, e0, fun v Z1 own1 H1 S1 rs1 rm1 _ x1 => ?_⟩
  unfold bRcv at f3
  split at f3
  · rename_i c' ns fs
    split at f3
    · rename_i hc
      cases f3
      have r : RSh X.K Z1 H1 (.ins c' ns fs) v := rm1
      have r0 := r
      simp only [RSh] at r
      obtain ⟨C', b, dx, ys, rfl, k1, k2, k3, k4, k5, k6⟩ := r
      have : C' = C := by
        rw [hc.1] at k1
        have := k1.symm.trans hC
        simpa using this
      subst this
      refine ⟨b, dx, _, rfl, k4, lookup_none hc.2, Z1, own1, ρ1, xs, ρ', rs1, e2, fun vs Z2 own2 H2 rs2 rl x2 => ?_⟩
      exact kk (.ref b :: vs) Z2 own2 H2 rs2 (by simp only [RShL]; exact ⟨_, vs, rfl, rs1.sh x2 r0, rl⟩) (x1.trans x2)
    · cases f3
  · cases f3
/-! a new one -/
def spI (C : Addr) (ns : List Str) : Sp := fun vs H Q _ => ∃ p dx ws, vs = .ref p :: ws ∧ ws.length = ns.length ∧ H p = some (.ins C dx []) ∧ ∀ H', H' p = some (.ins C dx (ns.zip ws)) → (∀ b, b ≠ p → H' b = H b) → Q .non H'
def MkT (P : Program) (w : World) (K : PySem.W.Frag) (mg : Str → Option Value) (base : Heap) (k : Nat) (c : Str) (ns : List Str) : Prop :=
  ∃ C f fd ps, PySem.W.nsIn K mainGlobals c = some (some (.ref C)) ∧ mg c = some (.ref C) ∧ Cls K C ∧ (∀ f ∈ ns, NoAttr K C f) ∧ Mk K C f ∧ FnOk P w K mg base CX0 k f fd ps (spI C ns) ∧ Binds K fd ps []
def bMake (c : Str) (ns : List Str) (ds : List D) : Option D := if ds.length = ns.length then some (.ins c ns ds) else none
theorem e_make {k j : Nat} {c : Str} {ns : List Str} (T : MkT X.prog X.w X.K X.mg X.base k c ns) (hr : Room j X.A) (ha : PA X (e :: es) (tAs X.K τ q ms)) (hj : k + 1 ≤ j := by decide) (hg : Gl X c := by rfl)
    (hdb : (c == ("__debug__" : Str)) = false := by decide) (he : starEach (e :: es) X.env = (false, eval e X.env) :: starEach es X.env := by rfl) (hpl : (backTo pos (starEach es X.env)).any (·.1) = false := by rfl) :
    PE X (.Call (.Name c p) (e :: es) [] pos) (tE X.K τ q .sh (mN (bMake c ns) ms)) := by
  obtain ⟨C, f, fd, ps, hC, hm, hcl, hna, M, F, hb⟩ := T
  refine (pe_make M F (hr.mono hj) hg hm hb .nil pass0 ha hdb he hpl).mono fun σ H Q ⟨Z, own, ρ, d, ρ', rs, e, k⟩ => ?_
  obtain ⟨xs, ρ1, e1, f1⟩ := bind_ok e
  obtain ⟨f3, rfl⟩ := ofO_ok f1
  unfold bMake at f3
  split at f3
  · rename_i hl
    cases f3
    refine ⟨Z, own, ρ, xs, ρ', rs, e1, fun vs Z1 own1 H1 rs1 rl x1 x dx hx hdx hne => ?_⟩
    refine ⟨x, dx, vs, by rw [List.append_nil], by rw [← rl.len, hl], upd_same, fun H' h1 h2 => ⟨rfl, ?_⟩⟩
    have g : Grow H1 H' := fun b o hb => by
      have n1 : b ≠ x := fun z => by subst z; rw [hx] at hb; cases hb
      have n2 : b ≠ dx := fun z => by subst z; rw [hdx] at hb; cases hb
      rw [h2 b n1, upd_ne n1, upd_ne n2]; exact hb
    refine fin_sh rs1 x1 g (S := fun _ => False) (.inl ?_) NewS.none k
    simp only [RSh]
    exact ⟨C, x, dx, vs, rfl, hC, hcl, hna, h1, by rw [← rl.len, hl], g.shL rl⟩
  · cases f3
end
end CL
namespace CL
open PySem PySem.Spec L2
/-! ### defs of a class as the top has left them -/
structure TxC (K : PySem.W.Frag) (mg : Str → Option Value) (c : Str) (ns : List Str) (C : Addr) : Prop where
  at_ : PySem.W.nsIn K mainGlobals c = some (some (.ref C))
  mgC : mg c = some (.ref C)
  cl : Cls K C
  na : ∀ f ∈ ns, NoAttr K C f
def TxM (K : PySem.W.Frag) (mg : Str → Option Value) (c m qual : Str) (ns : List Str) (st : Stmt) (ps : List Str) : Prop := ∃ C f fd, TxC K mg c ns C ∧ Fun K m qual st f fd ∧ Meth K C m f ∧ Binds K fd ps []
def TxI (K : PySem.W.Frag) (mg : Str → Option Value) (c qual : Str) (ns : List Str) (st : Stmt) (ps : List Str) : Prop := ∃ C f fd, TxC K mg c ns C ∧ Fun K "__init__" qual st f fd ∧ Mk K C f ∧ Binds K fd ps []
theorem putF_new {f : Str} {v : V} : ∀ {fs : List (Str × V)}, (∀ p ∈ fs, ¬ p.1 = f) → putF f v fs = fs ++ [(f, v)]
  | [], _ => rfl
  | p :: fs, h => by
    show (if p.1 = f then (p.1, v) :: fs else p :: putF f v fs) = _
    rw [if_neg (h p (by simp)), putF_new fun q hq => h q (by simp [hq])]
    rfl
theorem putF_le (f : Str) (v : V) : ∀ fs : List (Str × V), (putF f v fs).length ≤ fs.length + 1
  | [] => Nat.le_refl _
  | p :: fs => by
    show (if p.1 = f then (p.1, v) :: fs else p :: putF f v fs).length ≤ _
    split
    · simp
    · simp; exact putF_le f v fs
theorem putF_lt {f : Str} {v : V} {fs : List (Str × V)} {n m : Nat} (h : fs.length < n) (hm : n < m) : (putF f v fs).length < m := by
  have := putF_le f v fs
  omega
end CL

namespace CL
open PySem PySem.Spec L2 PyProof.Rows
set_option autoImplicit false
/-! ### zip of three tuples -/
def Itz3 (K : PySem.W.Frag) (a b c : Addr) : It :=
  ⟨fun i H => ∃ (xs ys zs : List V) (x y z : V), SqT K H a xs ∧ SqT K H b ys ∧ SqT K H c zs ∧ xs[i]? = some x ∧ ys[i]? = some y ∧ zs[i]? = some z,
    fun i H v H' => ∃ T x y z, v = .ref T ∧ H T = none ∧ H' = upd H T (.tup [x, y, z]) ∧ (∀ xs, SqT K H a xs → xs[i]? = some x) ∧ (∀ ys, SqT K H b ys → ys[i]? = some y) ∧ ∀ zs, SqT K H c zs → zs[i]? = some z,
    fun i H => ∃ xs ys zs : List V, SqT K H a xs ∧ SqT K H b ys ∧ SqT K H c zs ∧ min (min xs.length ys.length) zs.length = i⟩
theorem turn_zip3 {P : Program} {w : World} {K : PySem.W.Frag} {elts : List Expr} {kk : Nat} {tpos : Pos} {a b c z TI TO i1 i2 i3 : Addr} (S : ZipSep3 z TI TO i1 i2 i3 [i1, a] [i2, b] [i3, c]) (n1 : a ≠ i1) (n2 : b ≠ i2) (n3 : c ≠ i3) :
    Turn P w K (.Tuple elts kk tpos) (Itz3 K a b c) [z, TI, TO, i1, i2, i3] z (fun i h => IsZip h z TI TO .none ∧ IsTupOf3 h TI (.ref i1) (.ref i2) (.ref i3) ∧ (∃ a1 a2 a3, IsTupOf3 h TO a1 a2 a3) ∧ h.IsTupleIter i1 a i ∧ h.IsTupleIter i2 b i ∧ h.IsTupleIter i3 c i) where
  mem := by simp
  obj := fun i h st q hq => by
    obtain ⟨hz, hTI, ⟨x1, x2, x3, hTO⟩, ⟨o1, e1, _, d1⟩, ⟨o2, e2, _, d2⟩, ⟨o3, e3, _, d3⟩⟩ := st
    rcases (show q = z ∨ q = TI ∨ q = TO ∨ q = i1 ∨ q = i2 ∨ q = i3 by simpa using hq) with r | r | r | r | r | r
    · rw [r]; exact ⟨_, hz, fun v q => nomatch q⟩
    · rw [r]; exact ⟨_, hTI, fun v q => nomatch q⟩
    · rw [r]; exact ⟨_, hTO, fun v q => nomatch q⟩
    · rw [r]; exact ⟨o1, e1, fun v q => by rw [d1] at q; cases q⟩
    · rw [r]; exact ⟨o2, e2, fun v q => by rw [d2] at q; cases q⟩
    · rw [r]; exact ⟨o3, e3, fun v q => by rw [d3] at q; cases q⟩
  keep := fun i h h' st k => by
    obtain ⟨hz, hTI, ⟨x1, x2, x3, hTO⟩, h1, h2, h3⟩ := st
    exact ⟨k z (by simp) _ hz, k TI (by simp) _ hTI, ⟨x1, x2, x3, k TO (by simp) _ hTO⟩, h1.at fun o q => k i1 (by simp) o q, h2.at fun o q => k i2 (by simp) o q, h3.at fun o q => k i3 (by simp) o q⟩
  item := by
    intro X hP hw hK hc i pins s σ H E I hf st hg
    subst hP hw hK
    obtain ⟨hz, hTI, hTO, h1, h2, h3⟩ := st
    obtain ⟨xs, ys, zs, x, y, zz, q1, q2, q3, g1, g2, g3⟩ := hg
    obtain ⟨v1, r1, p1, _⟩ := I.tuple q1
    obtain ⟨v2, r2, p2, _⟩ := I.tuple q2
    obtain ⟨v3, r3, p3, _⟩ := I.tuple q3
    obtain ⟨u1, e1, s1⟩ := r1.get g1
    obtain ⟨u2, e2, s2⟩ := r2.get g2
    obtain ⟨u3, e3, s3⟩ := r3.get g3
    have hh : X.A.in1.handled = none := I.ok.hd hc
    have l1 := (List.getElem?_eq_some_iff.mp e1).1
    have l2 := (List.getElem?_eq_some_iff.mp e2).1
    have l3 := (List.getElem?_eq_some_iff.mp e3).1
    have W := WalksT.zipD3 S (Draws.tuple (prog := X.prog) (w := X.w) hh i1 a n1 v1.toArray) (Draws.tuple hh i2 b n2 v2.toArray) (Draws.tuple hh i3 c n3 v3.toArray)
    refine W.item i s _ _ (by simp; omega) ⟨hz, hTI, hTO, ⟨h1, p1⟩, ⟨h2, p2⟩, ⟨h3, p3⟩⟩ fun T vals h' tk hpt hT hIT hmid hk => ?_
    refine ⟨_, rfl, W.go elts kk tpos i T { s with heap := h', toks := tk } _ _ hmid fun h'' hst hk2 => ?_⟩
    obtain ⟨y1, y2, y3, f1, f2, f3, ev⟩ := hpt
    have ex1 : y1 = u1 := by
      have f1 : v1.toArray[i]? = some y1 := f1
      rw [List.getElem?_toArray, e1] at f1; exact (Option.some.inj f1).symm
    have ex2 : y2 = u2 := by
      have f2 : v2.toArray[i]? = some y2 := f2
      rw [List.getElem?_toArray, e2] at f2; exact (Option.some.inj f2).symm
    have ex3 : y3 = u3 := by
      have f3 : v3.toArray[i]? = some y3 := f3
      rw [List.getElem?_toArray, e3] at f3; exact (Option.some.inj f3).symm
    subst ex1 ex2 ex3 ev
    have nT : T ∉ [z, TO, i1, i2, i3] := W.apart i T h' hmid
    have hIT2 : h''.IsTuple T #[y1, y2, y3] := hIT.at fun o q => hk2 T o nT q
    have new : ObjOk X.prog X.w (upd H T (.tup [x, y, zz])) h'' T (.tup [x, y, zz]) := ⟨by show 3 ≤ sizeLine; decide, [y1, y2, y3], .cons s1 (.cons s2 (.cons s3 .nil)), hIT2⟩
    have J : Inv X pins σ (upd H T (.tup [x, y, zz])) { s with heap := h'', toks := tk } :=
      I.turnedNew (ch := [z, TI, TO, i1, i2, i3]) (fun q ob hq e => hk2 q ob (fun m => hq (by simp at m ⊢; rcases m with m | m | m | m | m <;> simp [m])) (hk q ob (fun m => hq (by simp at m ⊢; rcases m with m | m | m | m | m <;> simp [m])) e)) hf hT new
    obtain ⟨t1, t2, t3, t4, t5, t6⟩ := hst
    refine ⟨.ref T, _, J, rfl, ⟨T, x, y, zz, rfl, I.hok.fresh hT, rfl, fun l hl => by rw [I.tuple_inj hl q1]; exact g1, fun l hl => by rw [I.tuple_inj hl q2]; exact g2, fun l hl => by rw [I.tuple_inj hl q3]; exact g3⟩, ⟨t1, t2, t3, t4.1, t5.1, t6.1⟩, fun q hq => ?_⟩
    have hlt : q ≠ T := fun e => by
      subst e
      have hle : s.heap.objs.size ≤ q := hT
      have : q < s.heap.objs.size := by
        obtain ⟨_, _, _, hTO'⟩ := hTO
        rcases (show q = z ∨ q = TI ∨ q = TO ∨ q = i1 ∨ q = i2 ∨ q = i3 by simpa using hq) with r | r | r | r | r | r
        · rw [r]; exact Heap.lt_size hz
        · rw [r]; exact Heap.lt_size hTI
        · rw [r]; exact Heap.lt_size hTO'
        · rw [r]; obtain ⟨_, e, _⟩ := h1; exact Heap.lt_size e
        · rw [r]; obtain ⟨_, e, _⟩ := h2; exact Heap.lt_size e
        · rw [r]; obtain ⟨_, e, _⟩ := h3; exact Heap.lt_size e
      exact absurd (Nat.lt_of_lt_of_le this hle) (Nat.lt_irrefl _)
    rw [upd_ne hlt]
    exact (hf q hq).1
  done := by
    intro X hP hw hK hc i pins s σ H E I hf st hg
    subst hP hw hK
    obtain ⟨hz, hTI, hTO, h1, h2, h3⟩ := st
    obtain ⟨xs, ys, zs, q1, q2, q3, hi⟩ := hg
    obtain ⟨v1, r1, p1, _⟩ := I.tuple q1
    obtain ⟨v2, r2, p2, _⟩ := I.tuple q2
    obtain ⟨v3, r3, p3, _⟩ := I.tuple q3
    have m1 := r1.length
    have m2 := r2.length
    have m3 := r3.length
    have hh : X.A.in1.handled = none := I.ok.hd hc
    have W := WalksT.zipD3 S (Draws.tuple (prog := X.prog) (w := X.w) hh i1 a n1 v1.toArray) (Draws.tuple hh i2 b n2 v2.toArray) (Draws.tuple hh i3 c n3 v3.toArray)
    have en : min (min v1.toArray.size v2.toArray.size) v3.toArray.size = i := by simp; omega
    rw [en] at W
    refine W.done s _ _ ⟨hz, hTI, hTO, ⟨h1, p1⟩, ⟨h2, p2⟩, ⟨h3, p3⟩⟩ fun h' tk hk => ⟨rfl, ?_⟩
    exact I.turnedL (t' := tk) (ch := [z, TI, TO, i1, i2, i3]) (fun q o hq e => hk q o (fun m => hq (by simp at m ⊢; rcases m with m | m | m | m | m <;> simp [m])) e) hf
  self := fun A i s Q E st h => by
    obtain ⟨hz, _⟩ := st
    exact wpAny_pyIter_zip hz h
def iZip3 (K : PySem.W.Frag) (ta : TA) : TI := fun σ H R => ta σ H fun vs H1 => ∃ a b c xs ys zs, vs = [.ref a, .ref b, .ref c] ∧ SqT K H1 a xs ∧ SqT K H1 b ys ∧ SqT K H1 c zs ∧ R (Itz3 K a b c) H1
theorem pi_zip3 {X : Cx} {e e2 e3 : Expr} {ta : TA} {p pos tpos : Pos} {elts : List Expr} {kk : Nat} (hg : Gl X "zip") (hm : X.mg "zip" = none) (ha : PA X [e, e2, e3] ta)
    (hs : starEach [e, e2, e3] X.env = (false, eval e X.env) :: starEach [e2, e3] X.env) (hpl : (backTo pos (starEach [e2, e3] X.env)).any (·.1) = false) :
    PI X (.Tuple elts kk tpos) (.Call (.Name "zip" p) [e, e2, e3] [] pos) (iZip3 X.K ta) := by
  refine ⟨fun pins s σ H R I h => ?_⟩
  refine Call_ (ld_blt I hg hm PyProof.Rows.boot_zip (PyProof.Rows.callWith_type1 (thn (ha.run pos pins s σ H _ I h) fun us s1 ⟨vs, H1, I1, r1, a, b, c, xs, ys, zs, ex, q1, q2, q3, q⟩ => ?_) hs hpl))
  subst ex
  cases r1 with
  | cons r rr =>
    cases rr with
    | cons r' rr =>
      cases rr with
      | cons r'' rr =>
        cases rr
        cases r
        cases r'
        cases r''
        obtain ⟨v1, s1', p1, _⟩ := I1.tuple q1
        obtain ⟨v2, s2', p2, _⟩ := I1.tuple q2
        obtain ⟨v3, s3', p3, _⟩ := I1.tuple q3
        have la : a < s1.heap.objs.size := p1.lt
        have lb : b < s1.heap.objs.size := p2.lt
        have lc : c < s1.heap.objs.size := p3.lt
        refine zip_begins3 (begins_tuple a v1.toArray) (begins_tuple b v2.toArray) (begins_tuple c v3.toArray) p1 p2 p3 fun h' hz hTI hTO h1 h2 h3 hsz hk => wpAny_pyIter_zip hz ?_
        have J : Inv X pins σ H1 { s1 with heap := h' } := I1.kept (t' := s1.toks) hk
        have S := zip_sep3 (N := s1.heap.objs.size) (fp1 := [a]) (fp2 := [b]) (fp3 := [c]) (by simpa using la) (by simpa using lb) (by simpa using lc)
        refine ⟨s1.heap.objs.size + 5, [s1.heap.objs.size + 5, s1.heap.objs.size + 3, s1.heap.objs.size + 4, s1.heap.objs.size, s1.heap.objs.size + 1, s1.heap.objs.size + 2], _, _, H1, rfl, J, turn_zip3 S (Nat.ne_of_lt la) (Nat.ne_of_lt (Nat.lt_succ_of_lt lb)) (Nat.ne_of_lt (Nat.lt_succ_of_lt (Nat.lt_succ_of_lt lc))), ⟨hz, hTI, ⟨_, _, _, hTO⟩, ⟨_, h1, rfl, rfl⟩, ⟨_, h2, rfl, rfl⟩, ⟨_, h3, rfl, rfl⟩⟩, fun d hd => ?_, q⟩
        have hle : s1.heap.objs.size ≤ d := by
          simp only [List.mem_cons, List.not_mem_nil, or_false] at hd
          rcases hd with z | z | z | z | z | z
          · rw [z]; exact Nat.le_add_right _ _
          · rw [z]; exact Nat.le_add_right _ _
          · rw [z]; exact Nat.le_add_right _ _
          · rw [z]; exact Nat.le_refl _
          · rw [z]; exact Nat.le_add_right _ _
          · rw [z]; exact Nat.le_add_right _ _
        exact I1.fpOk hle (I1.hok.fresh hle)
def zipL3 : List D → List D → List D → List D
  | a :: as, b :: bs, c :: cs => .tup [a, b, c] :: zipL3 as bs cs
  | _, _, _ => []
theorem zipL3_len : ∀ (a b c : List D), (zipL3 a b c).length = min (min a.length b.length) c.length
  | [], b, c => by simp [zipL3]
  | a :: as, [], c => by simp [zipL3]
  | a :: as, b :: bs, [] => by simp [zipL3]
  | a :: as, b :: bs, c :: cs => by simp [zipL3, zipL3_len as bs cs]
theorem zipL3_get : ∀ {i : Nat} {a b c : List D} {d : D}, (zipL3 a b c)[i]? = some d → ∃ x y z, a[i]? = some x ∧ b[i]? = some y ∧ c[i]? = some z ∧ d = .tup [x, y, z]
  | _, [], _, _, _, h => by simp [zipL3] at h
  | _, _ :: _, [], _, _, h => by simp [zipL3] at h
  | _, _ :: _, _ :: _, [], _, h => by simp [zipL3] at h
  | 0, a :: as, b :: bs, c :: cs, d, h => by simp [zipL3] at h; exact ⟨a, b, c, by simp, by simp, by simp, h.symm⟩
  | i + 1, a :: as, b :: bs, c :: cs, d, h => by
    obtain ⟨x, y, z, h1, h2, h3, h4⟩ := zipL3_get (i := i) (by simpa [zipL3] using h)
    exact ⟨x, y, z, by simpa using h1, by simpa using h2, by simpa using h3, h4⟩
def zip3 : List D → Option (List D)
  | [.tup l, .tup m, .tup n] => some (zipL3 l m n)
  | _ => none
section
variable {X : Cx} {τ : Nat → OT} {q : Bool} {a b c : Expr} {ms : M (List D)} {pos p tpos : Pos} {elts : List Expr} {kk : Nat}
theorem i_zip3 (ha : PA X [a, b, c] (tAs X.K τ q ms)) (hm : X.mg "zip" = none := by assumption) (hg : Gl X "zip" := by rfl) (hs : starEach [a, b, c] X.env = (false, eval a X.env) :: starEach [b, c] X.env := by rfl) (hpl : (backTo pos (starEach [b, c] X.env)).any (·.1) = false := by rfl) :
    PI X (.Tuple elts kk tpos) (.Call (.Name "zip" p) [a, b, c] [] pos) (tI X.K τ q (mItN zip3 ms)) := (pi_know (pi_zip3 hg hm ha hs hpl)).mono fun σ H Rk ⟨Z, own, ρ, ds, ρ', rs, e, k⟩ => by
  obtain ⟨d, ρ1, e1, e⟩ := bind_ok e
  obtain ⟨e3, rfl⟩ := ofL_ok e
  refine ⟨Z, own, ρ, d, ρ', rs, e1, fun vs Z1 own1 H1 rs1 rl x1 => ?_⟩
  unfold zip3 at e3
  split at e3
  · rename_i l m n
    cases e3
    simp only [RShL] at rl
    obtain ⟨v1, w1, rfl, r1, v2, w2, rfl, r2, v3, w3, rfl, r3, rfl⟩ := rl
    simp only [RSh] at r1 r2 r3
    obtain ⟨t1, xs, rfl, s1, r1⟩ := r1
    obtain ⟨t2, ys, rfl, s2, r2⟩ := r2
    obtain ⟨t3, zs, rfl, s3, r3⟩ := r3
    refine ⟨t1, t2, t3, xs, ys, zs, rfl, s1, s2, s3, fun hsz => k _ Z1 own1 H1 rs1 ⟨fun Z2 H2 lt i hi => ?_, fun Z2 H2 lt i d hd x H3 y => ?_, fun Z2 H2 lt => ?_, ?_⟩ x1⟩
    · rw [zipL3_len, r1.len, r2.len, r3.len] at hi
      exact ⟨xs, ys, zs, xs[i], ys[i], zs[i], NL.sqT lt.2.1 s1, NL.sqT lt.2.1 s2, NL.sqT lt.2.1 s3, List.getElem?_eq_getElem (by omega), List.getElem?_eq_getElem (by omega), List.getElem?_eq_getElem (by omega)⟩
    · obtain ⟨d1, d2, d3, g1, g2, g3, rfl⟩ := zipL3_get hd
      obtain ⟨T, z1, z2, z3, rfl, hT, rfl, hz1, hz2, hz3⟩ := y
      obtain ⟨u1, k1, k2⟩ := r1.get g1
      obtain ⟨u2, k3, k4⟩ := r2.get g2
      obtain ⟨u3, k5, k6⟩ := r3.get g3
      rw [hz1 xs (NL.sqT lt.2.1 s1)] at k1; cases k1
      rw [hz2 ys (NL.sqT lt.2.1 s2)] at k3; cases k3
      rw [hz3 zs (NL.sqT lt.2.1 s3)] at k5; cases k5
      have g : Grow H2 (upd H2 T (.tup [z1, z2, z3])) := Grow.new hT
      refine ⟨g, ?_⟩
      simp only [RSh, RShL]
      exact ⟨T, [z1, z2, z3], rfl, SqT.of upd_same, z1, [z2, z3], rfl, g.sh (RSh.pres lt.1 lt.2.1 lt.2.2 _ _ k2), z2, [z3], rfl, g.sh (RSh.pres lt.1 lt.2.1 lt.2.2 _ _ k4), z3, [], rfl, g.sh (RSh.pres lt.1 lt.2.1 lt.2.2 _ _ k6), rfl⟩
    · exact ⟨xs, ys, zs, NL.sqT lt.2.1 s1, NL.sqT lt.2.1 s2, NL.sqT lt.2.1 s3, by rw [zipL3_len, r1.len, r2.len, r3.len]⟩
    · have := hsz t1 xs (.inl s1)
      rw [zipL3_len, r1.len]; omega
  · cases e3
end
/-! ### sorted of ints; a list so many times -/
def sortI (l : List Int) : List Int := l.mergeSort (fun a b => decide (a ≤ b))
def sortD : List D → Option (List D)
  | [.lst l] => (intsOf l).map fun ns => (sortI ns).map .int
  | _ => none
theorem sortI_is {l m : List Int} (h1 : m.Perm l) (h2 : m.Pairwise (· ≤ ·)) : m = sortI l := by
  have p : (sortI l).Perm l := List.mergeSort_perm l _
  have s : (sortI l).Pairwise (· ≤ ·) := by
    have := List.pairwise_mergeSort (le := fun (a b : Int) => decide (a ≤ b)) (fun a b c h1 h2 => by simp at *; omega) (fun a b => by simp; omega) l
    exact this.imp fun h => by simpa using h
  exact List.Perm.eq_of_pairwise (fun a b _ _ h1 h2 => by omega) h2 s (h1.trans p.symm)
section
variable {X : Cx}
theorem c_sorted (hr : X.calm = true) : CallR X (.builtin "sorted") (rLn X.K sortD) := by
  intro pins s σ H xs us Q I r h
  obtain ⟨Z, ds, l, pl, e, k⟩ := h
  unfold sortD at e
  split at e
  · rename_i l0
    obtain ⟨ns, hn, rfl⟩ := Option.map_eq_some_iff.mp e
    obtain ⟨v, rfl, p⟩ := pl.one
    obtain ⟨a, ys, rfl, s1, l1⟩ := p.lst
    rw [ints_of hn l1] at s1
    refine cr_sortedI pins s σ H _ us Q I r ⟨a, ns, rfl, SqL.of s1, fun ns' p h1 h2 hp => ?_⟩
    rw [sortI_is h1 h2]
    exact k p _ hp (ints_rel _)
  · cases e
def bRep : D → D → Option D
  | .lst l, .int k => if (-(2 ^ 63) ≤ k ∧ k < 2 ^ 63) ∧ l.length * k.toNat ≤ 16777216 then some (.lst (List.replicate k.toNat l).flatten) else none
  | _, _ => none
theorem rep_rel {K : PySem.W.Frag} {Z : Addr → Prop} {H : Hp} {l : List D} {xs : List V} (h : RShL K Z H l xs) : ∀ n : Nat, RShL K Z H (List.replicate n l).flatten (List.replicate n xs).flatten
  | 0 => by simp [RShL]
  | n + 1 => by
    simp only [List.replicate_succ, List.flatten_cons]
    exact h.append (rep_rel h n)
theorem o_rep : OpR X (binaryOp .Mult) (rF2 X.K bRep) := by
  intro pins s σ H x y v u Q I r1 r2 h
  obtain ⟨Z, a, b, d, p1, p2, e, k⟩ := h
  unfold bRep at e
  split at e
  · rename_i l j
    split at e
    · rename_i hl
      cases e
      obtain ⟨a, xs, rfl, s1, l1⟩ := p1.lst
      rw [p2.int] at r2
      exact op_rep pins s σ H _ _ v u Q I r1 r2 ⟨a, j, xs, rfl, rfl, s1, hl.1.1, hl.1.2, by rw [← l1.len, szL]; exact hl.2, fun p hp => finL hp (rep_rel l1 _) k⟩
    · cases e
  · cases e
end
end CL

namespace CL
set_option autoImplicit false
/-! ### shares of a way, and cells: plain numbers -/
theorem rdiv_le {a b c : Rat} (hb : 0 < b) : a / b ≤ c ↔ a ≤ c * b := by
  have := Rat.lt_div_iff (a := c) (b := a) (c := b) hb
  constructor
  · intro h
    exact Rat.not_lt.mp fun z => absurd (this.mpr z) (Rat.not_lt.mpr h)
  · intro h
    exact Rat.not_lt.mp fun z => absurd (this.mp z) (Rat.not_lt.mpr h)
theorem rle_div {a b c : Rat} (hb : 0 < b) : c ≤ a / b ↔ c * b ≤ a := by
  have := Rat.div_lt_iff (a := a) (b := b) (c := c) hb
  constructor
  · intro h
    exact Rat.not_lt.mp fun z => absurd (this.mpr z) (Rat.not_lt.mpr h)
  · intro h
    exact Rat.not_lt.mp fun z => absurd (this.mp z) (Rat.not_lt.mpr h)
theorem frac_lt {a b c d : Int} (h : 0 < b) (h2 : 0 < d) : ((a : Rat) / b < (c : Rat) / d) ↔ a * d < c * b := by
  have hb : (0 : Rat) < b := by exact_mod_cast h
  have hd : (0 : Rat) < d := by exact_mod_cast h2
  rw [Rat.div_lt_iff hb]
  have : (c : Rat) / d * b = (c * b) / d := by grind
  rw [this, Rat.lt_div_iff hd]
  exact_mod_cast Iff.rfl
theorem frac_eq {a b c d : Int} (h : 0 < b) (h2 : 0 < d) : ((a : Rat) / b = (c : Rat) / d) ↔ a * d = c * b := by
  have hb : (0 : Rat) < b := by exact_mod_cast h
  have hd : (0 : Rat) < d := by exact_mod_cast h2
  constructor
  · intro e
    have : (a : Rat) * d = c * b := by grind
    exact_mod_cast this
  · intro e
    have : (a : Rat) * d = c * b := by exact_mod_cast e
    grind
/-- a number that goes on from f by w lies from L on and below H -/
def Ins (f w L H : Int) (t : Rat) : Prop := (L : Rat) ≤ f + w * t ∧ (f : Rat) + w * t < H
def Meet (f w L H f' w' L' H' : Int) : Prop := ∃ t : Rat, 0 ≤ t ∧ t ≤ 1 ∧ Ins f w L H t ∧ Ins f' w' L' H' t
/-! begins and ends -/
structure Bd where
  n : Int
  d : Int
  o : Bool
def Bd.q (b : Bd) : Rat := (b.n : Rat) / b.d
def Bd.ge (b : Bd) (t : Rat) : Prop := if b.o = true then b.q < t else b.q ≤ t
def Bd.le (b : Bd) (t : Rat) : Prop := if b.o = true then t < b.q else t ≤ b.q
def Bd.lt (a b : Bd) : Bool := decide (a.n * b.d < b.n * a.d)
def Bd.at (a b : Bd) : Bool := decide (a.n * b.d = b.n * a.d)
def laterB (a b : Bd) : Bd := if a.lt b || (a.at b && b.o) then b else a
def soonerB (a b : Bd) : Bd := if b.lt a || (a.at b && b.o) then b else a
def openB (s e : Bd) : Bool := s.lt e || (s.at e && (!s.o && !e.o))
theorem lt_iff {a b : Bd} (ha : 0 < a.d) (hb : 0 < b.d) : a.lt b = true ↔ a.q < b.q := by
  simp only [Bd.lt, decide_eq_true_eq, Bd.q]
  exact (frac_lt ha hb).symm
theorem at_iff {a b : Bd} (ha : 0 < a.d) (hb : 0 < b.d) : a.at b = true ↔ a.q = b.q := by
  simp only [Bd.at, decide_eq_true_eq, Bd.q]
  exact (frac_eq ha hb).symm
theorem laterB_d {a b : Bd} (ha : 0 < a.d) (hb : 0 < b.d) : 0 < (laterB a b).d := by unfold laterB; split <;> assumption
theorem soonerB_d {a b : Bd} (ha : 0 < a.d) (hb : 0 < b.d) : 0 < (soonerB a b).d := by unfold soonerB; split <;> assumption
theorem later_ge {a b : Bd} (ha : 0 < a.d) (hb : 0 < b.d) {t : Rat} : (laterB a b).ge t ↔ a.ge t ∧ b.ge t := by
  unfold laterB
  have h1 := lt_iff ha hb
  have h2 := at_iff ha hb
  unfold Bd.ge
  cases hl : a.lt b <;> cases he : a.at b <;> cases ho : b.o <;> cases hp : a.o <;> simp [hl, he] at h1 h2 <;> simp [ho, hp] <;> (generalize a.q = p at *; generalize b.q = q at *; grind)
theorem sooner_le {a b : Bd} (ha : 0 < a.d) (hb : 0 < b.d) {t : Rat} : (soonerB a b).le t ↔ a.le t ∧ b.le t := by
  unfold soonerB
  have h1 := lt_iff hb ha
  have h2 := at_iff ha hb
  unfold Bd.le
  cases hl : b.lt a <;> cases he : a.at b <;> cases ho : b.o <;> cases hp : a.o <;> simp [hl, he] at h1 h2 <;> simp [ho, hp] <;> (generalize a.q = p at *; generalize b.q = q at *; grind)
theorem open_iff {s e : Bd} (hs : 0 < s.d) (he : 0 < e.d) : openB s e = true ↔ ∃ t : Rat, s.ge t ∧ e.le t := by
  have h1 := lt_iff hs he
  have h2 := at_iff hs he
  unfold openB Bd.ge Bd.le
  generalize s.q = p at *
  generalize e.q = q at *
  constructor
  · intro h
    by_cases c : p < q
    · refine ⟨(p + q) / 2, ?_, ?_⟩ <;> split <;> grind
    · have c' : s.lt e = false := by
        cases hh : s.lt e with
        | true => exact absurd (h1.mp hh) c
        | false => rfl
      simp [c'] at h
      have e1 := h2.mp h.1
      exact ⟨p, by simp [h.2.1], by simp [h.2.2]; grind⟩
  · rintro ⟨t, a, b⟩
    cases hl : s.lt e with
    | true => rfl
    | false =>
      have n1 : ¬ p < q := fun z => by rw [h1.mpr z] at hl; cases hl
      cases ho : s.o <;> cases hp : e.o <;> simp [ho, hp] at a b
      · have : p = q := by grind
        simp [h2.mpr this]
      · exact absurd (show p < q by grind) n1
      · exact absurd (show p < q by grind) n1
      · exact absurd (show p < q by grind) n1
/-- the begin and the end of one row -/
def rowB (f w L H : Int) : Option (Bd × Bd) :=
  if w = 0 then (if L ≤ f ∧ f < H then some (⟨0, 1, false⟩, ⟨1, 1, false⟩) else none)
  else if 0 < w then some (⟨L - f, w, false⟩, ⟨H - f, w, true⟩) else some (⟨f - H, 0 - w, true⟩, ⟨f - L, 0 - w, false⟩)
theorem row_none {f w L H : Int} (h : rowB f w L H = none) {t : Rat} : ¬ Ins f w L H t := by
  unfold rowB at h
  split at h
  · rename_i hw
    split at h
    · cases h
    · rename_i n
      rintro ⟨a, b⟩
      subst hw
      simp at a b
      exact n ⟨by
        have : (L : Rat) ≤ f := by grind
        exact_mod_cast this, by
        have : (f : Rat) < H := by grind
        exact_mod_cast this⟩
  · split at h <;> cases h
theorem row_some {f w L H : Int} {s e : Bd} (h : rowB f w L H = some (s, e)) : 0 < s.d ∧ 0 < e.d ∧ ∀ t : Rat, 0 ≤ t → t ≤ 1 → (Ins f w L H t ↔ s.ge t ∧ e.le t) := by
  unfold rowB at h
  split at h
  · rename_i hw
    split at h
    · rename_i hc
      cases h
      refine ⟨by decide, by decide, fun t t0 t1 => ?_⟩
      subst hw
      have c1 : (L : Rat) ≤ f := by exact_mod_cast hc.1
      have c2 : (f : Rat) < H := by exact_mod_cast hc.2
      simp [Ins, Bd.ge, Bd.le, Bd.q]
      grind
    · cases h
  · rename_i hw
    split at h
    · rename_i hp
      cases h
      refine ⟨hp, hp, fun t t0 t1 => ?_⟩
      have hr : (0 : Rat) < w := by exact_mod_cast hp
      simp only [Ins, Bd.ge, Bd.le, Bd.q]
      simp
      rw [rdiv_le hr, Rat.lt_div_iff hr]
      grind
    · rename_i hn
      cases h
      have hp : 0 < 0 - w := by omega
      refine ⟨hp, hp, fun t t0 t1 => ?_⟩
      have hr : (0 : Rat) < ((0 - w : Int) : Rat) := by exact_mod_cast hp
      simp only [Ins, Bd.ge, Bd.le, Bd.q]
      simp only [if_true, Bool.false_eq_true, if_false]
      rw [Rat.div_lt_iff hr, rle_div hr]
      push_cast
      grind
/-- both rows together -/
def metB (f w L H f' w' L' H' : Int) : Bool := match rowB f w L H with
  | none => false
  | some (s, e) => match rowB f' w' L' H' with
    | none => false
    | some (s', e') => openB (laterB (laterB ⟨0, 1, false⟩ s) s') (soonerB (soonerB ⟨1, 1, false⟩ e) e')
theorem bd0 {t : Rat} : (Bd.mk 0 1 false).ge t ↔ 0 ≤ t := by
  have : (Bd.mk 0 1 false).q = 0 := by simp [Bd.q]; grind
  simp [Bd.ge, this]
theorem bd1 {t : Rat} : (Bd.mk 1 1 false).le t ↔ t ≤ 1 := by
  have : (Bd.mk 1 1 false).q = 1 := by simp [Bd.q]; grind
  simp [Bd.le, this]
theorem metB_iff {f w L H f' w' L' H' : Int} : metB f w L H f' w' L' H' = true ↔ Meet f w L H f' w' L' H' := by
  unfold metB Meet
  cases h1 : rowB f w L H with
  | none => simp; intro t _ _ a; exact absurd a (row_none h1)
  | some p =>
    obtain ⟨s, e⟩ := p
    obtain ⟨d1, d2, i1⟩ := row_some h1
    cases h2 : rowB f' w' L' H' with
    | none => simp; intro t _ _ _ a; exact absurd a (row_none h2)
    | some p' =>
      obtain ⟨s', e'⟩ := p'
      obtain ⟨d3, d4, i2⟩ := row_some h2
      have z0 : 0 < (Bd.mk 0 1 false).d := by decide
      have z1 : 0 < (Bd.mk 1 1 false).d := by decide
      simp only
      rw [open_iff (laterB_d (laterB_d z0 d1) d3) (soonerB_d (soonerB_d z1 d2) d4)]
      constructor
      · rintro ⟨t, a, b⟩
        rw [later_ge (laterB_d z0 d1) d3, later_ge z0 d1] at a
        rw [sooner_le (soonerB_d z1 d2) d4, sooner_le z1 d2] at b
        have t0 : 0 ≤ t := bd0.mp a.1.1
        have t1 : t ≤ 1 := bd1.mp b.1.1
        exact ⟨t, t0, t1, (i1 t t0 t1).mpr ⟨a.1.2, b.1.2⟩, (i2 t t0 t1).mpr ⟨a.2, b.2⟩⟩
      · rintro ⟨t, t0, t1, a, b⟩
        refine ⟨t, ?_, ?_⟩
        · rw [later_ge (laterB_d z0 d1) d3, later_ge z0 d1]
          exact ⟨⟨bd0.mpr t0, ((i1 t t0 t1).mp a).1⟩, ((i2 t t0 t1).mp b).1⟩
        · rw [sooner_le (soonerB_d z1 d2) d4, sooner_le z1 d2]
          exact ⟨⟨bd1.mpr t1, ((i1 t t0 t1).mp a).2⟩, ((i2 t t0 t1).mp b).2⟩
/-! the shares that are tried: ends, where the sides' lines are met, and between these -/
/-- two neighbours of a rising list with a number between them that isn't in it -/
theorem between {X : Rat} : ∀ (l : List Int), l.Pairwise (· ≤ ·) → (∀ a ∈ l, (a : Rat) ≠ X) → (∃ a ∈ l, (a : Rat) < X) → (∃ b ∈ l, X < (b : Rat)) → ∃ a b, (a, b) ∈ l.dropLast.zip l.tail ∧ (a : Rat) < X ∧ X < (b : Rat) ∧ ∀ c ∈ l, c ≤ a ∨ b ≤ c
  | [], _, _, ⟨a, h, _⟩, _ => by simp at h
  | [a], _, _, ⟨c, h, h1⟩, ⟨d, h2, h3⟩ => by
    simp at h h2; subst h h2; grind
  | a :: b :: l, hs, hn, ⟨c, hc, h1⟩, ⟨d, hd, h2⟩ => by
    have hs' := (List.pairwise_cons.mp hs)
    have ha : (a : Rat) < X := by
      rcases List.mem_cons.mp hc with rfl | hc
      · exact h1
      · have : a ≤ c := hs'.1 c hc
        have : (a : Rat) ≤ c := by exact_mod_cast this
        grind
    by_cases hb : X < (b : Rat)
    · refine ⟨a, b, by simp, ha, hb, fun e he => ?_⟩
      rcases List.mem_cons.mp he with rfl | he
      · exact .inl (Int.le_refl _)
      · rcases List.mem_cons.mp he with rfl | he
        · exact .inr (Int.le_refl _)
        · exact .inr ((List.pairwise_cons.mp hs'.2).1 e he)
    · have nb := hn b (by simp)
      have hb' : (b : Rat) < X := by grind
      have hd' : d ∈ b :: l := by
        rcases List.mem_cons.mp hd with rfl | hd
        · grind
        · exact hd
      obtain ⟨p, q, m1, m2, m3, m4⟩ := between (b :: l) hs'.2 (fun e he => hn e (by simp [he])) ⟨b, by simp, hb'⟩ ⟨d, hd', h2⟩
      refine ⟨p, q, ?_, m2, m3, fun e he => ?_⟩
      · simp only [List.dropLast_cons_cons, List.tail_cons, List.zip_cons_cons] at m1 ⊢
        cases l with
        | nil => simp at m1
        | cons z l => simp at m1 ⊢; exact .inr m1
      · rcases List.mem_cons.mp he with rfl | he
        · left
          have : (b : Rat) ≤ p := by
            rcases m4 b (by simp) with z | z
            · exact_mod_cast z
            · have : (q : Rat) ≤ b := by exact_mod_cast z
              grind
          have h' : e ≤ b := hs'.1 b (by simp)
          have : b ≤ p := by exact_mod_cast this
          omega
        · exact m4 e he
/-- where no side is met strictly between two shares, what lies in at one between lies in at the other one -/
theorem row_between {f w L H : Int} {W : Int} {a b : Int} {t p : Rat} (hW : 0 < W) (ht : Ins f w L H t) (h1 : (a : Rat) < 2 * W * t) (h2 : 2 * W * t < (b : Rat)) (h3 : (a : Rat) < 2 * W * p) (h4 : 2 * W * p < (b : Rat))
    (hno : w ≠ 0 → ∀ s : Rat, f + w * s = L ∨ f + w * s = H → ¬ ((a : Rat) < 2 * W * s ∧ 2 * W * s < (b : Rat))) : Ins f w L H p := by
  obtain ⟨i1, i2⟩ := ht
  have hWr : (0 : Rat) < W := by exact_mod_cast hW
  by_cases hw : w = 0
  · subst hw
    simp [Ins] at *
    grind
  · have hwr : (w : Rat) ≠ 0 := by exact_mod_cast hw
    have key : ∀ S : Rat, (S = L ∨ S = H) → ∃ s : Rat, f + w * s = S ∧ ¬ ((a : Rat) < 2 * W * s ∧ 2 * W * s < (b : Rat)) := fun S hS => by
      refine ⟨(S - f) / w, by grind, hno hw _ ?_⟩
      rcases hS with rfl | rfl
      · left; grind
      · right; grind
    obtain ⟨sl, el, nl⟩ := key L (.inl rfl)
    obtain ⟨sh, eh, nh⟩ := key H (.inr rfl)
    -- s lies outside of the open stretch, t and p inside
    have out : ∀ s : Rat, ¬ ((a : Rat) < 2 * W * s ∧ 2 * W * s < (b : Rat)) → (s < t ∧ s < p) ∨ (t < s ∧ p < s) := fun s hs => by
      by_cases c : (a : Rat) < 2 * W * s
      · have c2 : (b : Rat) ≤ 2 * W * s := Rat.not_lt.mp fun z => hs ⟨c, z⟩
        right
        constructor
        · have : 2 * W * t < 2 * W * s := by grind
          exact Rat.lt_of_mul_lt_mul_left this (by grind)
        · have : 2 * W * p < 2 * W * s := by grind
          exact Rat.lt_of_mul_lt_mul_left this (by grind)
      · have c2 : 2 * W * s ≤ (a : Rat) := Rat.not_lt.mp c
        left
        constructor
        · have : 2 * W * s < 2 * W * t := by grind
          exact Rat.lt_of_mul_lt_mul_left this (by grind)
        · have : 2 * W * s < 2 * W * p := by grind
          exact Rat.lt_of_mul_lt_mul_left this (by grind)
    have mono : ∀ x y : Rat, 0 < (w : Rat) → x < y → (w : Rat) * x < w * y := fun x y h h' => Rat.mul_lt_mul_of_pos_left h' h
    have anti : ∀ x y : Rat, (w : Rat) < 0 → x < y → (w : Rat) * y < w * x := fun x y h h' => by
      have := Rat.mul_lt_mul_of_pos_left h' (show (0 : Rat) < -w by grind)
      grind
    rcases (show (w : Rat) < 0 ∨ 0 < (w : Rat) by grind) with hn | hp
    · constructor
      · rcases out sl nl with ⟨x1, x2⟩ | ⟨x1, x2⟩
        · have := anti _ _ hn x1
          grind
        · have := anti _ _ hn x2
          grind
      · rcases out sh nh with ⟨x1, x2⟩ | ⟨x1, x2⟩
        · have := anti _ _ hn x2
          grind
        · have := anti _ _ hn x1
          grind
    · constructor
      · rcases out sl nl with ⟨x1, x2⟩ | ⟨x1, x2⟩
        · have := mono _ _ hp x2
          grind
        · have := mono _ _ hp x1
          grind
      · rcases out sh nh with ⟨x1, x2⟩ | ⟨x1, x2⟩
        · have := mono _ _ hp x1
          grind
        · have := mono _ _ hp x2
          grind
def InsI (f w L H W s : Int) : Prop := 2 * L * W ≤ f * 2 * W + w * s ∧ f * 2 * W + w * s < 2 * H * W
theorem insI_iff {f w L H W s : Int} (hW : 0 < W) : InsI f w L H W s ↔ Ins f w L H ((s : Rat) / (2 * W)) := by
  have hr : (0 : Rat) < 2 * W := by
    have : (0 : Rat) < W := by exact_mod_cast hW
    grind
  have e : ((f : Rat) + w * ((s : Rat) / (2 * W))) * (2 * W) = f * 2 * W + w * s := by grind
  unfold InsI Ins
  constructor
  · rintro ⟨h1, h2⟩
    have h1 : (2 : Rat) * L * W ≤ f * 2 * W + w * s := by exact_mod_cast h1
    have h2 : (f : Rat) * 2 * W + w * s < 2 * H * W := by exact_mod_cast h2
    rw [← e] at h1 h2
    exact ⟨Rat.le_of_mul_le_mul_right (c := 2 * W) (by grind) hr, Rat.lt_of_mul_lt_mul_right (c := 2 * W) (by grind) (by grind)⟩
  · rintro ⟨h1, h2⟩
    have h1 := Rat.mul_le_mul_of_nonneg_right h1 (show (0 : Rat) ≤ 2 * W by grind)
    have h2 := Rat.mul_lt_mul_of_pos_right h2 hr
    rw [e] at h1 h2
    constructor
    · have : (2 : Rat) * L * W ≤ f * 2 * W + w * s := by grind
      exact_mod_cast this
    · have : (f : Rat) * 2 * W + w * s < 2 * H * W := by grind
      exact_mod_cast this
def triedS (C : List Int) (W : Int) : List Int := sortI ((C.filter fun c => decide (0 ≤ c) && decide (c ≤ W)).map fun c => 2 * c)
def triedM (S : List Int) : List Int := (S.dropLast.zip S.tail).map fun p => (p.1 + p.2).fdiv 2
theorem sortI_mem {l : List Int} {x : Int} : x ∈ sortI l ↔ x ∈ l := by unfold sortI; simp
theorem sortI_pair {l : List Int} : (sortI l).Pairwise (· ≤ ·) := by
  have := List.pairwise_mergeSort (le := fun (a b : Int) => decide (a ≤ b)) (fun a b c h1 h2 => by simp at *; omega) (fun a b => by simp; omega) l
  exact this.imp fun h => by simpa using h
theorem triedS_mem {C : List Int} {W s : Int} : s ∈ triedS C W ↔ ∃ c ∈ C, 0 ≤ c ∧ c ≤ W ∧ s = 2 * c := by
  unfold triedS
  rw [sortI_mem]
  simp only [List.mem_map, List.mem_filter, Bool.and_eq_true, decide_eq_true_eq]
  constructor
  · rintro ⟨c, ⟨h1, h2, h3⟩, rfl⟩; exact ⟨c, h1, h2, h3, rfl⟩
  · rintro ⟨c, h1, h2, h3, rfl⟩; exact ⟨c, ⟨h1, h2, h3⟩, rfl⟩
theorem tried_bounds {C : List Int} {W s : Int} (h : s ∈ triedS C W ++ triedM (triedS C W)) : 0 ≤ s ∧ s ≤ 2 * W := by
  have b : ∀ x ∈ triedS C W, 0 ≤ x ∧ x ≤ 2 * W := fun x hx => by
    obtain ⟨c, _, h1, h2, rfl⟩ := triedS_mem.mp hx
    omega
  rcases List.mem_append.mp h with h | h
  · exact b s h
  · obtain ⟨⟨x, y⟩, hp, rfl⟩ := List.mem_map.mp h
    have h1 := b x (List.dropLast_subset _ (List.of_mem_zip hp).1)
    have h2 := b y (List.mem_of_mem_tail (List.of_mem_zip hp).2)
    have e : (x + y).fdiv 2 = (x + y) / 2 := Int.fdiv_eq_ediv_of_nonneg _ (by omega)
    simp only [e]
    omega
theorem tried_iff {f w L H f' w' L' H' W : Int} {C : List Int} (hW : 0 < W) (h0 : 0 ∈ C) (h1 : W ∈ C)
    (c1 : w ≠ 0 → ∀ S : Int, S = L ∨ S = H → ∃ c ∈ C, (c : Rat) * w = W * (S - f)) (c2 : w' ≠ 0 → ∀ S : Int, S = L' ∨ S = H' → ∃ c ∈ C, (c : Rat) * w' = W * (S - f')) :
    (∃ s ∈ triedS C W ++ triedM (triedS C W), InsI f w L H W s ∧ InsI f' w' L' H' W s) ↔ Meet f w L H f' w' L' H' := by
  have hr : (0 : Rat) < 2 * W := by
    have : (0 : Rat) < W := by exact_mod_cast hW
    grind
  constructor
  · rintro ⟨s, hs, i1, i2⟩
    obtain ⟨b1, b2⟩ := tried_bounds hs
    refine ⟨(s : Rat) / (2 * W), ?_, ?_, (insI_iff hW).mp i1, (insI_iff hW).mp i2⟩
    · rw [rle_div hr]
      have : (0 : Rat) ≤ s := by exact_mod_cast b1
      grind
    · rw [rdiv_le hr]
      have : (s : Rat) ≤ 2 * W := by exact_mod_cast b2
      grind
  · rintro ⟨t, t0, t1, i1, i2⟩
    have back : ∀ s : Int, (s : Rat) = 2 * W * t → InsI f w L H W s ∧ InsI f' w' L' H' W s := fun s hs => by
      have e : (s : Rat) / (2 * W) = t := by grind
      exact ⟨(insI_iff hW).mpr (by rw [e]; exact i1), (insI_iff hW).mpr (by rw [e]; exact i2)⟩
    by_cases hx : ∃ s ∈ triedS C W, (s : Rat) = 2 * W * t
    · obtain ⟨s, hs, e⟩ := hx
      exact ⟨s, List.mem_append_left _ hs, back s e⟩
    · have hn : ∀ a ∈ triedS C W, (a : Rat) ≠ 2 * W * t := fun a ha e => hx ⟨a, ha, e⟩
      have m0 : (0 : Int) ∈ triedS C W := triedS_mem.mpr ⟨0, h0, by omega, by omega, by omega⟩
      have mW : 2 * W ∈ triedS C W := triedS_mem.mpr ⟨W, h1, by omega, by omega, rfl⟩
      have l0 : ((0 : Int) : Rat) < 2 * W * t := by
        have := hn 0 m0
        have z : (0 : Rat) ≤ 2 * W * t := Rat.mul_nonneg (by grind) t0
        have : ((0 : Int) : Rat) = 0 := rfl
        grind
      have lW : 2 * W * t < ((2 * W : Int) : Rat) := by
        have := hn (2 * W) mW
        have z : 2 * W * t ≤ 2 * W * 1 := Rat.mul_le_mul_of_nonneg_left t1 (by grind)
        have : ((2 * W : Int) : Rat) = 2 * W := by push_cast; rfl
        grind
      obtain ⟨a, b, hab, la, lb, hgap⟩ := between (triedS C W) sortI_pair hn ⟨0, m0, l0⟩ ⟨2 * W, mW, lW⟩
      have ha := List.dropLast_subset _ (List.of_mem_zip hab).1
      have hb := List.mem_of_mem_tail (List.of_mem_zip hab).2
      obtain ⟨ca, _, a1, a2, ea⟩ := triedS_mem.mp ha
      obtain ⟨cb, _, b1, b2, eb⟩ := triedS_mem.mp hb
      have ab : a < b := by
        have : (a : Rat) < b := by grind
        exact_mod_cast this
      have em : (a + b).fdiv 2 = ca + cb := by
        rw [Int.fdiv_eq_ediv_of_nonneg _ (by omega)]; omega
      have nogap : ∀ (f w L H : Int), (w ≠ 0 → ∀ S : Int, S = L ∨ S = H → ∃ c ∈ C, (c : Rat) * w = W * (S - f)) → w ≠ 0 → ∀ s : Rat, f + w * s = L ∨ f + w * s = H → ¬ ((a : Rat) < 2 * W * s ∧ 2 * W * s < (b : Rat)) := fun f w L H hc hw s hs hh => by
        have hwr : (w : Rat) ≠ 0 := by exact_mod_cast hw
        have : ∃ c ∈ C, (c : Rat) = W * s := by
          rcases hs with hs | hs
          · obtain ⟨c, h1, h2⟩ := hc hw L (.inl rfl)
            refine ⟨c, h1, ?_⟩
            have : (c : Rat) * w = (W * s) * w := by grind
            grind
          · obtain ⟨c, h1, h2⟩ := hc hw H (.inr rfl)
            refine ⟨c, h1, ?_⟩
            have : (c : Rat) * w = (W * s) * w := by grind
            grind
        obtain ⟨c, h1, h2⟩ := this
        have g1 : a < 2 * c := by
          have : (a : Rat) < 2 * c := by grind
          exact_mod_cast this
        have g2 : 2 * c < b := by
          have : (2 : Rat) * c < b := by grind
          exact_mod_cast this
        rcases hgap (2 * c) (triedS_mem.mpr ⟨c, h1, by omega, by omega, rfl⟩) with z | z <;> omega
      refine ⟨ca + cb, List.mem_append_right _ (List.mem_map.mpr ⟨(a, b), hab, em⟩), ?_⟩
      have pm : 2 * (W : Rat) * (((ca + cb : Int) : Rat) / (2 * W)) = ca + cb := by push_cast; grind
      have q1 : (a : Rat) < 2 * W * (((ca + cb : Int) : Rat) / (2 * W)) := by
        rw [pm]
        have : a < ca + cb := by omega
        exact_mod_cast this
      have q2 : 2 * W * (((ca + cb : Int) : Rat) / (2 * W)) < (b : Rat) := by
        rw [pm]
        have : ca + cb < b := by omega
        exact_mod_cast this
      exact ⟨(insI_iff hW).mpr (row_between hW i1 la lb q1 q2 (nogap f w L H c1)), (insI_iff hW).mpr (row_between hW i2 la lb q1 q2 (nogap f' w' L' H' c2))⟩
/-! turned about, moved on -/
theorem meet_back {f w L H f' w' L' H' : Int} : Meet (f + w) (-w) L H (f' + w') (-w') L' H' ↔ Meet f w L H f' w' L' H' := by
  have one : ∀ (f w L H : Int) (t : Rat), Ins (f + w) (-w) L H t ↔ Ins f w L H (1 - t) := fun f w L H t => by
    unfold Ins
    push_cast
    have : (f : Rat) + w + -w * t = f + w * (1 - t) := by grind
    rw [this]
  unfold Meet
  constructor
  · rintro ⟨t, h1, h2, h3, h4⟩
    exact ⟨1 - t, by grind, by grind, (one _ _ _ _ _).mp h3, (one _ _ _ _ _).mp h4⟩
  · rintro ⟨t, h1, h2, h3, h4⟩
    have e : 1 - (1 - t) = t := by grind
    exact ⟨1 - t, by grind, by grind, (one _ _ _ _ _).mpr (by rw [e]; exact h3), (one _ _ _ _ _).mpr (by rw [e]; exact h4)⟩
theorem meet_move {f w L H f' w' L' H' d e : Int} : Meet (f + d) w (L + d) (H + d) (f' + e) w' (L' + e) (H' + e) ↔ Meet f w L H f' w' L' H' := by
  have one : ∀ (f w L H d : Int) (t : Rat), Ins (f + d) w (L + d) (H + d) t ↔ Ins f w L H t := fun f w L H d t => by
    unfold Ins
    push_cast
    constructor
    · rintro ⟨a, b⟩; constructor <;> grind
    · rintro ⟨a, b⟩; constructor <;> grind
  unfold Meet
  simp only [one]
end CL

namespace CLX
open PySem PySem.Spec L2 CL
local macro_rules | `(tactic| walk_at "w") => `(tactic| simp only [Kq_nx, Kq_ret, Kq_brk, Kq_cnt, W_sSeq, W_sIf, W_sRet, W_sExp, W_sAsg, W_sPar, W_sPar3, W_sK, W_mC, W_mV, W_m1, W_m2, W_mN, W_mL, W_mCons, W_mNil, W_mIf, W_mAnd, W_mOr, W_mChain, W_mCallP, W_mCall, W_mSl, W_mPtN, W_mPtS, W_mIt, W_mItN, W_mIxS, W_mComp, W_sFor, evA, pN, pT, psC, psN, fillA, backA])
local macro_rules | `(tactic| walk_at "v") => `(tactic| simp only [W_sSeq, W_sIf, W_sRet, W_sExp, W_sAsg, W_sPar, W_sPar3, W_sK, W_mC, W_mV, W_m1, W_m2, W_mN, W_mL, W_mCons, W_mNil, W_mIf, W_mAnd, W_mOr, W_mChain, W_mCallP, W_mCall, W_mSl, W_mPtN, W_mPtS, W_mIt, W_mItN, W_mIxS, W_mComp, W_sFor, evA, pN, pT, psC, psN, fillA, backA])
local macro_rules | `(tactic| walk_at "n") => `(tactic| simp only [Kq_nx, Kq_ret, Kq_brk, Kq_cnt])
def B_Bound_is_ahead_of : MS := (sRet (m2 bLt (m2 bMul (m1 (bFld "n") (mV 0)) (m1 (bFld "d") (mV 1))) (m2 bMul (m1 (bFld "n") (mV 1)) (m1 (bFld "d") (mV 0)))))
def F_Bound_is_ahead_of : List D → Res D := runP 0 B_Bound_is_ahead_of
def B_Bound_is_at : MS := (sRet (m2 bEq (m2 bMul (m1 (bFld "n") (mV 0)) (m1 (bFld "d") (mV 1))) (m2 bMul (m1 (bFld "n") (mV 1)) (m1 (bFld "d") (mV 0)))))
def F_Bound_is_at : List D → Res D := runP 0 B_Bound_is_at
def B_later : MS := (sSeq (sIf (mOr (mCallP F_Bound_is_ahead_of (mCons (m1 (bRcv "Bound" "is_ahead_of") (mV 0)) (mCons (mV 1) mNil))) (mAnd (mCallP F_Bound_is_at (mCons (m1 (bRcv "Bound" "is_at") (mV 0)) (mCons (mV 1) mNil))) (m1 (bFld "is_out") (mV 1)))) (sRet (mV 1)) (sK .nx)) (sRet (mV 0)))
def F_later : List D → Res D := runP 0 B_later
def B_sooner : MS := (sSeq (sIf (mOr (mCallP F_Bound_is_ahead_of (mCons (m1 (bRcv "Bound" "is_ahead_of") (mV 1)) (mCons (mV 0) mNil))) (mAnd (mCallP F_Bound_is_at (mCons (m1 (bRcv "Bound" "is_at") (mV 0)) (mCons (mV 1) mNil))) (m1 (bFld "is_out") (mV 1)))) (sRet (mV 1)) (sK .nx)) (sRet (mV 0)))
def F_sooner : List D → Res D := runP 0 B_sooner
def B_rims_of : MS := (sRet (mN bTup (mCons (m2 bMul (m2 bSub (m2 bMul (mC (.int 2)) (mV 1)) (mC (.int 1))) (mV 0)) (mCons (m2 bMul (m2 bAdd (m2 bMul (mC (.int 2)) (mV 1)) (mC (.int 1))) (mV 0)) mNil))))
def F_rims_of : List D → Res D := runP 0 B_rims_of
def B_bounds_between : MS := (sSeq (sIf (m2 bEq (mV 1) (mC (.int 0))) (sSeq (sIf (mChain bLe bLt (mV 2) (mV 0) (mV 3)) (sRet (mN bTup (mCons (mN (bMake "Bound" ["n", "d", "is_out"]) (mCons (mC (.int 0)) (mCons (mC (.int 1)) (mCons (mC (.bl false)) mNil)))) (mCons (mN (bMake "Bound" ["n", "d", "is_out"]) (mCons (mC (.int 1)) (mCons (mC (.int 1)) (mCons (mC (.bl false)) mNil)))) mNil)))) (sK .nx)) (sRet (mC .non))) (sK .nx)) (sSeq (sIf (m2 bGt (mV 1) (mC (.int 0))) (sRet (mN bTup (mCons (mN (bMake "Bound" ["n", "d", "is_out"]) (mCons (m2 bSub (mV 2) (mV 0)) (mCons (mV 1) (mCons (mC (.bl false)) mNil)))) (mCons (mN (bMake "Bound" ["n", "d", "is_out"]) (mCons (m2 bSub (mV 3) (mV 0)) (mCons (mV 1) (mCons (mC (.bl true)) mNil)))) mNil)))) (sK .nx)) (sRet (mN bTup (mCons (mN (bMake "Bound" ["n", "d", "is_out"]) (mCons (m2 bSub (mV 0) (mV 3)) (mCons (m2 bSub (mC (.int 0)) (mV 1)) (mCons (mC (.bl true)) mNil)))) (mCons (mN (bMake "Bound" ["n", "d", "is_out"]) (mCons (m2 bSub (mV 0) (mV 2)) (mCons (m2 bSub (mC (.int 0)) (mV 1)) (mCons (mC (.bl false)) mNil)))) mNil))))))
def F_bounds_between : List D → Res D := runP 0 B_bounds_between
def B_met_between : MS := (sSeq (sPar 3 4 (mCons (mN (bMake "Bound" ["n", "d", "is_out"]) (mCons (mC (.int 0)) (mCons (mC (.int 1)) (mCons (mC (.bl false)) mNil)))) (mCons (mN (bMake "Bound" ["n", "d", "is_out"]) (mCons (mC (.int 1)) (mCons (mC (.int 1)) (mCons (mC (.bl false)) mNil)))) mNil))) (sSeq (sFor (pT 3 (psC (pN 5) (psC (pN 6) (psC (pN 7) psN)))) (mItN zip3 (mCons (m2 bIx (mV 1) (mC (.int 0))) (mCons (m2 bIx (mV 1) (mC (.int 1))) (mCons (mV 2) mNil)))) (sSeq (sAsg (pT 2 (psC (pN 8) (psC (pN 9) psN))) (mCallP F_rims_of (mCons (mV 0) (mCons (mV 7) mNil)))) (sSeq (sAsg (pN 10) (mCallP F_bounds_between (mCons (m2 bMul (mC (.int 2)) (mV 5)) (mCons (m2 bMul (mC (.int 2)) (m2 bSub (mV 6) (mV 5))) (mCons (mV 8) (mCons (mV 9) mNil)))))) (sSeq (sIf (m2 bIsN (mV 10) (mC .non)) (sRet (mC .non)) (sK .nx)) (sSeq (sAsg (pN 3) (mCallP F_later (mCons (mV 3) (mCons (m2 bIx (mV 10) (mC (.int 0))) mNil)))) (sAsg (pN 4) (mCallP F_sooner (mCons (mV 4) (mCons (m2 bIx (mV 10) (mC (.int 1))) mNil))))))))) (sSeq (sIf (mOr (mCallP F_Bound_is_ahead_of (mCons (m1 (bRcv "Bound" "is_ahead_of") (mV 3)) (mCons (mV 4) mNil))) (mAnd (mCallP F_Bound_is_at (mCons (m1 (bRcv "Bound" "is_at") (mV 3)) (mCons (mV 4) mNil))) (mAnd (m1 bNot (m1 (bFld "is_out") (mV 3))) (m1 bNot (m1 (bFld "is_out") (mV 4)))))) (sRet (mN bTup (mCons (mV 3) (mCons (mV 4) mNil)))) (sK .nx)) (sRet (mC .non)))))
def F_met_between : List D → Res D := runP 8 B_met_between
def B_meets : MS := (sRet (m2 bNotN (mCallP F_met_between (mCons (mV 0) (mCons (mV 1) (mCons (mV 2) mNil)))) (mC .non)))
def F_meets : List D → Res D := runP 0 B_meets
def B__law_deck : MS := (sRet (mN bLst (mCons (m1 bRev (mL listOfD (mCons (mSl (mV 0) none (some (mC (.int 63)))) mNil))) (mCons (m2 bAdd (mN bSum (mCons (mComp [1] (pN 1) (mIt (mSl (mV 0) none (some (mC (.int 63))))) mYes (m2 bMod (mV 1) (mC (.int 1000003)))) mNil)) (m2 bMul (mC (.int 7919)) (mN bLen (mCons (mSl (mV 0) none (some (mC (.int 63)))) mNil)))) (mCons (mC (.int 0)) mNil)))))
def F__law_deck : List D → Res D := runP 1 B__law_deck
def B__law_draw : MS := (sSeq (sSto 0 1 (m2 bAdd (mIxS 0 1) (mC (.int 1)))) (sSeq (sAsg (pN 2) (mIxS 0 0)) (sSeq (sIf (m2 bNe (mIx0 0) (mN bLst mNil)) (sSeq (sAsg (pN 2) (mPop0 0)) (sIf (m2 bGe (mV 2) (m2 bPow (mC (.int 10)) (mC (.int 18)))) (sSeq (sExp (mApp0 0 (m2 bDiv (mV 2) (mV 1)))) (sRet (m2 bMod (mV 2) (mV 1)))) (sK .nx))) (sK .nx)) (sSeq (sAsg (pN 3) (m2 bMod (m2 bMul (m2 bAdd (m2 bAdd (m2 bMod (mV 2) (mC (.int 2147483629))) (m2 bMul (mC (.int 65537)) (mIxS 0 1))) (mC (.int 3))) (mC (.int 48271))) (mC (.int 2147483647)))) (sSeq (sAsg (pN 3) (m2 bMod (m2 bAdd (m2 bAdd (m2 bMul (mV 3) (mV 3)) (m2 bMul (mC (.int 69621)) (mIxS 0 1))) (mC (.int 17))) (mC (.int 2147483587)))) (sRet (m2 bMod (m2 bDiv (m2 bMod (m2 bAdd (m2 bMul (mV 3) (mV 3)) (mC (.int 39373))) (mC (.int 2147483563))) (mC (.int 64))) (mV 1))))))))
def F__law_draw : Fn := runF [.ol (.ol .sh .sh) .sh, .sh] 2 B__law_draw
def B__law_grain : MS := (sRet (m2 bIx (mN bLst (mCons (mC (.int 1)) (mCons (mC (.int 2)) (mCons (mC (.int 3)) (mCons (mC (.int 4)) (mCons (mC (.int 2)) (mCons (mC (.int 6)) (mCons (mC (.int 10)) (mCons (mC (.int 1000)) mNil))))))))) (mCall F__law_draw (.io 0 :: (.e (mC (.int 8)) :: [])))))
def F__law_grain : Fn := runF [.ol (.ol .sh .sh) .sh] 0 B__law_grain
def B__law_point : MS := (sSeq (sPar 3 4 (mCons (mCall F__law_draw (.io 0 :: (.e (m2 bAdd (m2 bMul (mC (.int 4)) (mV 1)) (mC (.int 1))) :: []))) (mCons (mCall F__law_draw (.io 0 :: (.e (m2 bAdd (m2 bMul (mC (.int 4)) (mV 1)) (mC (.int 1))) :: []))) mNil))) (sSeq (sIf (m2 bEq (mV 2) (mC (.int 1))) (sRet (mN bTup (mCons (m2 bDiv (m2 bAdd (m2 bMul (m2 bDiv (m2 bMul (mC (.int 2)) (mV 3)) (mV 1)) (mV 1)) (mC (.int 1))) (mC (.int 2))) (mCons (m2 bDiv (m2 bAdd (m2 bMul (m2 bDiv (m2 bMul (mC (.int 2)) (mV 4)) (mV 1)) (mV 1)) (mC (.int 1))) (mC (.int 2))) mNil)))) (sK .nx)) (sSeq (sIf (m2 bEq (mV 2) (mC (.int 2))) (sRet (mN bTup (mCons (m2 bMul (m2 bDiv (mV 3) (mV 1)) (mV 1)) (mCons (m2 bMul (m2 bDiv (mV 4) (mV 1)) (mV 1)) mNil)))) (sK .nx)) (sSeq (sIf (m2 bEq (mV 2) (mC (.int 3))) (sRet (mN bTup (mCons (m2 bAdd (m2 bMul (m2 bDiv (mV 3) (mV 1)) (mV 1)) (m2 bDiv (mV 1) (mC (.int 2)))) (mCons (mV 4) mNil)))) (sK .nx)) (sRet (mN bTup (mCons (mV 3) (mCons (mV 4) mNil))))))))
def F__law_point : Fn := runF [.ol (.ol .sh .sh) .sh, .sh, .sh] 2 B__law_point
def B__law_unlike : MS := (sRet (mN bTup (mCons (mV 0) (mCons (m2 bIx (mN bLst (mCons (mV 1) (mCons (mN bTup (mCons (m2 bAdd (m2 bIx (mV 0) (mC (.int 0))) (mC (.int 1))) (mCons (m2 bIx (mV 0) (mC (.int 1))) mNil))) mNil))) (mN bInt (mCons (m2 bEq (mV 0) (mV 1)) mNil))) mNil))))
def F__law_unlike : List D → Res D := runP 0 B__law_unlike
def B__law_line : MS := (sSeq (sAsg (pN 3) (mCall F__law_draw (.io 0 :: (.e (mC (.int 9)) :: [])))) (sSeq (sAsg (pN 4) (mCall F__law_point (.io 0 :: (.e (mV 1) :: (.e (m2 bMod (mV 3) (mC (.int 4))) :: []))))) (sSeq (sAsg (pN 5) (mCall F__law_point (.io 0 :: (.e (mV 1) :: (.e (mCall F__law_draw (.io 0 :: (.e (mC (.int 4)) :: []))) :: []))))) (sSeq (sIf (mOr (m2 bEq (mV 2) (mN bLst mNil)) (m2 bLt (mV 3) (mC (.int 5)))) (sRet (mCallP F__law_unlike (mCons (mV 4) (mCons (mV 5) mNil)))) (sK .nx)) (sSeq (sAsg (pT 2 (psC (pT 2 (psC (pN 6) (psC (pN 7) psN))) (psC (pT 2 (psC (pN 8) (psC (pN 9) psN))) psN))) (m2 bIx (mV 2) (mCall F__law_draw (.io 0 :: (.e (mN bLen (mCons (mV 2) mNil)) :: []))))) (sSeq (sIf (m2 bGt (mN bMax1 (mCons (mComp [10] (pN 10) (mIt (mN bTup (mCons (mV 6) (mCons (mV 7) (mCons (mV 8) (mCons (mV 9) mNil)))))) mYes (mN bAbs (mCons (mV 10) mNil))) mNil)) (m2 bMul (mC (.int 12)) (mV 1))) (sRet (mCallP F__law_unlike (mCons (mV 4) (mCons (mV 5) mNil)))) (sK .nx)) (sSeq (sIf (m2 bEq (mV 3) (mC (.int 5))) (sRet (mCallP F__law_unlike (mCons (mN bTup (mCons (mV 8) (mCons (mV 9) mNil))) (mCons (mV 5) mNil)))) (sK .nx)) (sSeq (sIf (m2 bEq (mV 3) (mC (.int 6))) (sRet (mCallP F__law_unlike (mCons (mV 4) (mCons (mN bTup (mCons (m2 bSub (m2 bAdd (mV 6) (mV 8)) (m2 bIx (mV 4) (mC (.int 0)))) (mCons (m2 bSub (m2 bAdd (mV 7) (mV 9)) (m2 bIx (mV 4) (mC (.int 1)))) mNil))) mNil)))) (sK .nx)) (sSeq (sIf (m2 bEq (mV 3) (mC (.int 7))) (sRet (mN bTup (mCons (mN bTup (mCons (mV 8) (mCons (mV 9) mNil))) (mCons (mN bTup (mCons (m2 bSub (m2 bMul (mC (.int 2)) (mV 8)) (mV 6)) (mCons (m2 bSub (m2 bMul (mC (.int 2)) (mV 9)) (mV 7)) mNil))) mNil)))) (sK .nx)) (sRet (m2 bIx (mN bLst (mCons (mN bTup (mCons (mN bTup (mCons (mV 6) (mCons (mV 7) mNil))) (mCons (mN bTup (mCons (mV 8) (mCons (mV 9) mNil))) mNil))) (mCons (mN bTup (mCons (mN bTup (mCons (mV 8) (mCons (mV 9) mNil))) (mCons (mN bTup (mCons (mV 6) (mCons (mV 7) mNil))) mNil))) (mCons (mN bTup (mCons (mN bTup (mCons (mV 6) (mCons (mV 7) mNil))) (mCons (mN bTup (mCons (m2 bSub (m2 bMul (mC (.int 2)) (mV 8)) (mV 6)) (mCons (m2 bSub (m2 bMul (mC (.int 2)) (mV 9)) (mV 7)) mNil))) mNil))) mNil)))) (mCall F__law_draw (.io 0 :: (.e (mC (.int 3)) :: []))))))))))))))
def F__law_line : Fn := runF [.ol (.ol .sh .sh) .sh, .sh, .sh] 8 B__law_line
def ty__law_lines : Nat → OT := fun i => if i = 0 then .ol (.ol .sh .sh) .sh else if i = 3 then .ol .sh .sh else .sh
noncomputable def B__law_lines : MS := (sSeq (sAsg (pN 3) (mN bLst mNil)) (sSeq (sFor (pN 4) (mItN range1 (mCons (mV 2) mNil)) (sExp (mApp 3 (mBor ty__law_lines 3 (mCall F__law_line (.io 0 :: (.e (mV 1) :: (.e (mV 3) :: [])))))))) (sRet (mN bTuple (mCons (mV 3) mNil)))))
noncomputable def F__law_lines : Fn := runF [.ol (.ol .sh .sh) .sh, .sh, .sh] 2 B__law_lines
def B__law_moved : MS := (sRet (mN bTuple (mCons (mComp [3, 4, 5, 6] (pT 2 (psC (pT 2 (psC (pN 3) (psC (pN 4) psN))) (psC (pT 2 (psC (pN 5) (psC (pN 6) psN))) psN))) (mIt (mV 0)) mYes (mN bTup (mCons (mN bTup (mCons (m2 bAdd (mV 3) (mV 1)) (mCons (m2 bAdd (mV 4) (mV 2)) mNil))) (mCons (mN bTup (mCons (m2 bAdd (mV 5) (mV 1)) (mCons (m2 bAdd (mV 6) (mV 2)) mNil))) mNil)))) mNil)))
def F__law_moved : List D → Res D := runP 4 B__law_moved
def B__law_nearest : MS := (sSeq (sAsg (pT 3 (psC (pN 2) (psC (pN 3) (psC (pN 4) psN)))) (mV 1)) (sRet (mN bTup (mCons (m2 bDiv (m2 bAdd (m2 bMul (mC (.int 2)) (mV 2)) (m2 bMul (mV 0) (mV 4))) (m2 bMul (m2 bMul (mC (.int 2)) (mV 0)) (mV 4))) (mCons (m2 bDiv (m2 bAdd (m2 bMul (mC (.int 2)) (mV 3)) (m2 bMul (mV 0) (mV 4))) (m2 bMul (m2 bMul (mC (.int 2)) (mV 0)) (mV 4))) mNil)))))
def F__law_nearest : List D → Res D := runP 3 B__law_nearest
def B__law_shares : MS := (sSeq (sAsg (pT 2 (psC (pT 2 (psC (pN 3) (psC (pN 4) psN))) (psC (pT 2 (psC (pN 5) (psC (pN 6) psN))) psN))) (mV 1)) (sSeq (sAsg (pN 7) (mN bLst (mCons (mN bTup (mCons (m2 bMul (mC (.int 2)) (mV 3)) (mCons (m2 bMul (mC (.int 2)) (m2 bSub (mV 5) (mV 3))) (mCons (m2 bIx (mV 2) (mC (.int 0))) mNil)))) (mCons (mN bTup (mCons (m2 bMul (mC (.int 2)) (mV 4)) (mCons (m2 bMul (mC (.int 2)) (m2 bSub (mV 6) (mV 4))) (mCons (m2 bIx (mV 2) (mC (.int 1))) mNil)))) mNil)))) (sSeq (sAsg (pN 8) (m2 bMul (mN bMax2 (mCons (mC (.int 1)) (mCons (mN bAbs (mCons (m2 bIx (m2 bIx (mV 7) (mC (.int 0))) (mC (.int 1))) mNil)) mNil))) (mN bMax2 (mCons (mC (.int 1)) (mCons (mN bAbs (mCons (m2 bIx (m2 bIx (mV 7) (mC (.int 1))) (mC (.int 1))) mNil)) mNil))))) (sSeq (sAsg (pN 9) (mN bLst (mCons (mC (.int 0)) (mCons (mV 8) mNil)))) (sSeq (sFor (pT 3 (psC (pN 10) (psC (pN 11) (psC (pN 12) psN)))) (mIt (mV 7)) (sFor (pN 13) (mIt (m2 bRep (mN bLst (mCons (m2 bMul (m2 bSub (m2 bMul (mC (.int 2)) (mV 12)) (mC (.int 1))) (mV 0)) (mCons (m2 bMul (m2 bAdd (m2 bMul (mC (.int 2)) (mV 12)) (mC (.int 1))) (mV 0)) mNil))) (mN bInt (mCons (m2 bNe (mV 11) (mC (.int 0))) mNil)))) (sExp (mApp 9 (m2 bMul (m2 bMul (m2 bSub (mV 13) (mV 10)) (m2 bDiv (mV 8) (mN bAbs (mCons (mV 11) mNil)))) (m2 bIx (mN bLst (mCons (m1 bNeg (mC (.int 1))) (mCons (mC (.int 1)) mNil))) (mN bInt (mCons (m2 bGt (mV 11) (mC (.int 0))) mNil)))))))) (sFz 9 (sSeq (sAsg (pN 9) (mL sortD (mCons (mComp [15] (pN 15) (mIt (mV 9)) (mChain bLe bLe (mC (.int 0)) (mV 15) (mV 8)) (m2 bMul (mC (.int 2)) (mV 15))) mNil))) (sSeq (sAsg (pN 9) (m2 bAdd (mV 9) (mComp [20, 21] (pT 2 (psC (pN 20) (psC (pN 21) psN))) (mItN zip2 (mCons (mSl (mV 9) none (some (m1 bNeg (mC (.int 1))))) (mCons (mSl (mV 9) (some (mC (.int 1))) none) mNil))) mYes (m2 bDiv (m2 bAdd (mV 20) (mV 21)) (mC (.int 2)))))) (sSeq (sAsg (pN 14) (mN bLst mNil)) (sSeq (sFor (pN 15) (mIt (mL sortD (mCons (mV 9) mNil))) (sSeq (sAsg (pN 16) (mC (.bl true))) (sSeq (sFor (pT 3 (psC (pN 10) (psC (pN 11) (psC (pN 12) psN)))) (mIt (mV 7)) (sSeq (sAsg (pN 17) (m2 bAdd (m2 bMul (m2 bMul (mV 10) (mC (.int 2))) (mV 8)) (m2 bMul (mV 11) (mV 15)))) (sSeq (sAsg (pN 18) (m2 bMul (m2 bMul (m2 bMul (mC (.int 2)) (m2 bSub (m2 bMul (mC (.int 2)) (mV 12)) (mC (.int 1)))) (mV 0)) (mV 8))) (sSeq (sAsg (pN 19) (m2 bMul (m2 bMul (m2 bMul (mC (.int 2)) (m2 bAdd (m2 bMul (mC (.int 2)) (mV 12)) (mC (.int 1)))) (mV 0)) (mV 8))) (sAsg (pN 16) (mAnd (mV 16) (mChain bLe bLt (mV 18) (mV 17) (mV 19)))))))) (sIf (mV 16) (sExp (mApp 14 (mN bTup (mCons (mV 15) (mCons (m2 bMul (mC (.int 2)) (mV 8)) mNil))))) (sK .nx))))) (sFz 14 (sRet (mV 14)))))))))))))
def F__law_shares : List D → Res D := runP 19 B__law_shares
def B__law_far : MS := (sSeq (sAsg (pN 1) (m2 bSub (mCall F__law_draw (.io 0 :: (.e (m2 bAdd (m2 bMul (mC (.int 2)) (m2 bPow (mC (.int 10)) (mC (.int 6)))) (mC (.int 1))) :: []))) (m2 bPow (mC (.int 10)) (mC (.int 6))))) (sRet (m2 bIx (mN bLst (mCons (m2 bPow (mC (.int 10)) (mC (.int 6))) (mCons (m1 bNeg (m2 bPow (mC (.int 10)) (mC (.int 6)))) (mCons (mV 1) (mCons (mV 1) mNil))))) (mCall F__law_draw (.io 0 :: (.e (mC (.int 4)) :: []))))))
def F__law_far : Fn := runF [.ol (.ol .sh .sh) .sh] 1 B__law_far
noncomputable def B__law_some_line : MS := (sSeq (sAsg (pN 2) (m2 bEq (mCall F__law_draw (.io 0 :: (.e (mC (.int 8)) :: []))) (mC (.int 5)))) (sSeq (sAsg (pN 3) (mComp [7] (pN 7) (mItN range1 (mCons (mC (.int 2)) mNil)) mYes (m2 bSub (mCall F__law_draw (.io 0 :: (.e (mC (.int 9)) :: []))) (mC (.int 4))))) (sSeq (sAsg (pN 4) (mCall F__law_lines (.io 0 :: (.e (mV 1) :: (.e (m2 bAdd (mC (.int 1)) (mCall F__law_draw (.io 0 :: (.e (mC (.int 3)) :: [])))) :: []))))) (sSeq (sIf (mV 2) (sSeq (sAsg (pT 2 (psC (pN 5) (psC (pN 6) psN))) (mComp [7] (pN 7) (mItN range1 (mCons (mC (.int 2)) mNil)) mYes (mN bTup (mCons (mCall F__law_far (.io 0 :: [])) (mCons (mCall F__law_far (.io 0 :: [])) mNil))))) (sRet (mN bTup (mCons (mV 5) (mCons (m2 bIx (mN bLst (mCons (mV 6) (mCons (mN bTup (mCons (m2 bAdd (m2 bIx (mV 5) (mC (.int 0))) (m2 bIx (mN bLst (mCons (m1 bNeg (mC (.int 1))) (mCons (mC (.int 1)) mNil))) (mN bInt (mCons (m2 bLt (m2 bIx (mV 5) (mC (.int 0))) (mC (.int 0))) mNil)))) (mCons (m2 bIx (mV 5) (mC (.int 1))) mNil))) mNil))) (mN bInt (mCons (m2 bEq (mV 5) (mV 6)) mNil))) mNil))))) (sK .nx)) (sRet (m2 bIx (mCallP F__law_moved (mCons (mSl (mV 4) (some (m1 bNeg (mC (.int 1)))) none) (mCons (m2 bIx (mV 3) (mC (.int 0))) (mCons (m2 bIx (mV 3) (mC (.int 1))) mNil)))) (mC (.int 0))))))))
noncomputable def F__law_some_line : Fn := runF [.ol (.ol .sh .sh) .sh, .sh] 6 B__law_some_line
def B__law_near : MS := (sSeq (sAsg (pT 2 (psC (pT 2 (psC (pN 3) (psC (pN 4) psN))) (psC (pT 2 (psC (pN 5) (psC (pN 6) psN))) psN))) (mV 2)) (sSeq (sAsg (pN 7) (mCall F__law_draw (.io 0 :: (.e (mC (.int 17)) :: [])))) (sSeq (sAsg (pT 2 (psC (pN 8) (psC (pN 9) psN))) (mCallP F__law_nearest (mCons (mV 1) (mCons (mN bTup (mCons (m2 bAdd (m2 bMul (mV 3) (m2 bSub (mC (.int 16)) (mV 7))) (m2 bMul (mV 5) (mV 7))) (mCons (m2 bAdd (m2 bMul (mV 4) (m2 bSub (mC (.int 16)) (mV 7))) (m2 bMul (mV 6) (mV 7))) (mCons (mC (.int 16)) mNil)))) mNil)))) (sSeq (sPar 8 9 (mCons (m2 bSub (m2 bAdd (mV 8) (mCall F__law_draw (.io 0 :: (.e (mC (.int 3)) :: [])))) (mC (.int 1))) (mCons (m2 bSub (m2 bAdd (mV 9) (mCall F__law_draw (.io 0 :: (.e (mC (.int 3)) :: [])))) (mC (.int 1))) mNil))) (sRet (mN bTup (mCons (mN bMax2 (mCons (m1 bNeg (m2 bPow (mC (.int 10)) (mC (.int 6)))) (mCons (mN bMin2 (mCons (m2 bPow (mC (.int 10)) (mC (.int 6))) (mCons (mV 8) mNil))) mNil))) (mCons (mN bMax2 (mCons (m1 bNeg (m2 bPow (mC (.int 10)) (mC (.int 6)))) (mCons (mN bMin2 (mCons (m2 bPow (mC (.int 10)) (mC (.int 6))) (mCons (mV 9) mNil))) mNil))) mNil))))))))
def F__law_near : Fn := runF [.ol (.ol .sh .sh) .sh, .sh, .sh] 7 B__law_near
def B__law_turned : MS := (sSeq (sAsg (pN 4) (mN bLst (mCons (mN bTup (mCons (mV 1) (mCons (mV 2) mNil))) (mCons (mN bTup (mCons (m1 bRevT (mV 1)) (mCons (mV 2) mNil))) mNil)))) (sSeq (sAsg (pN 5) (m2 bIx (mCallP F__law_moved (mCons (mN bTup (mCons (mV 1) mNil)) (mCons (m2 bMul (m2 bIx (mV 3) (mC (.int 0))) (mV 0)) (mCons (m2 bMul (m2 bIx (mV 3) (mC (.int 1))) (mV 0)) mNil)))) (mC (.int 0)))) (sSeq (sAsg (pN 6) (mN bTup (mCons (m2 bAdd (m2 bIx (mV 2) (mC (.int 0))) (m2 bIx (mV 3) (mC (.int 0)))) (mCons (m2 bAdd (m2 bIx (mV 2) (mC (.int 1))) (m2 bIx (mV 3) (mC (.int 1)))) mNil)))) (sSeq (sIf (m2 bLe (mN bMax1 (mCons (mComp [7] (pN 7) (mIt (m2 bAdd (m2 bAdd (m2 bIx (mV 5) (mC (.int 0))) (m2 bIx (mV 5) (mC (.int 1)))) (mV 6))) mYes (mN bAbs (mCons (mV 7) mNil))) mNil)) (m2 bPow (mC (.int 10)) (mC (.int 6)))) (sExp (mApp 4 (mN bTup (mCons (mV 5) (mCons (mV 6) mNil))))) (sK .nx)) (sRet (m2 bAdd (mV 4) (mN bLst (mCons (mN bTup (mCons (mV 1) (mCons (mV 2) mNil))) mNil))))))))
def F__law_turned : List D → Res D := runP 4 B__law_turned

def bdD (b : Bd) : D := .ins "Bound" ["n", "d", "is_out"] [.int b.n, .int b.d, .bl b.o]
def Sm (b : Bd) : Prop := b.n.natAbs < 2 ^ 60 ∧ b.d.natAbs < 2 ^ 60
theorem fld_n {b : Bd} : bFld "n" (bdD b) = some (.int b.n) := rfl
theorem fld_d {b : Bd} : bFld "d" (bdD b) = some (.int b.d) := rfl
theorem fld_o {b : Bd} : bFld "is_out" (bdD b) = some (.bl b.o) := rfl
theorem rcv_a {b : Bd} : bRcv "Bound" "is_ahead_of" (bdD b) = some (bdD b) := by
  unfold bRcv bdD
  exact if_pos ⟨rfl, by decide +kernel⟩
theorem rcv_t {b : Bd} : bRcv "Bound" "is_at" (bdD b) = some (bdD b) := by
  unfold bRcv bdD
  exact if_pos ⟨rfl, by decide +kernel⟩
theorem make_b {n d : Int} {o : Bool} : bMake "Bound" ["n", "d", "is_out"] [.int n, .int d, .bl o] = some (bdD ⟨n, d, o⟩) := rfl
theorem ahead_eq {a b : Bd} (ha : Sm a) (hb : Sm b) : F_Bound_is_ahead_of [bdD a, bdD b] = .ok (.bl (a.lt b)) := by
  have h1 : a.d.natAbs < 18446744073709551616 := by have := ha.2; omega
  have h2 : b.d.natAbs < 18446744073709551616 := by have := hb.2; omega
  refine runP_of ?_
  unfold B_Bound_is_ahead_of
  walk_at "w"
  simp [fld_n, fld_d, bMul, h1, h2, bLt, Bd.lt]
theorem at_eq {a b : Bd} (ha : Sm a) (hb : Sm b) : F_Bound_is_at [bdD a, bdD b] = .ok (.bl (a.at b)) := by
  have h1 : a.d.natAbs < 18446744073709551616 := by have := ha.2; omega
  have h2 : b.d.natAbs < 18446744073709551616 := by have := hb.2; omega
  refine runP_of ?_
  unfold B_Bound_is_at
  walk_at "w"
  simp [fld_n, fld_d, bMul, h1, h2, eq_int2, Bd.at]
theorem later_eq {a b : Bd} (ha : Sm a) (hb : Sm b) : F_later [bdD a, bdD b] = .ok (bdD (laterB a b)) := by
  refine runP_of ?_
  unfold B_later
  walk_at "v"
  simp [rcv_a, rcv_t, fld_o, ahead_eq ha hb, at_eq ha hb]
  unfold laterB
  cases h1 : a.lt b <;> cases h2 : a.at b <;> cases h3 : b.o <;> simp [Kq_nx, Kq_ret, W_sRet, W_mV]
theorem sooner_eq {a b : Bd} (ha : Sm a) (hb : Sm b) : F_sooner [bdD a, bdD b] = .ok (bdD (soonerB a b)) := by
  refine runP_of ?_
  unfold B_sooner
  walk_at "v"
  simp [rcv_a, rcv_t, fld_o, ahead_eq hb ha, at_eq ha hb]
  unfold soonerB
  cases h1 : b.lt a <;> cases h2 : a.at b <;> cases h3 : b.o <;> simp [Kq_nx, Kq_ret, W_sRet, W_mV]
theorem laterB_sm {a b : Bd} (ha : Sm a) (hb : Sm b) : Sm (laterB a b) := by unfold laterB; split <;> assumption
theorem soonerB_sm {a b : Bd} (ha : Sm a) (hb : Sm b) : Sm (soonerB a b) := by unfold soonerB; split <;> assumption
def rowD (f w L H : Int) : D := match rowB f w L H with
  | none => .non
  | some (s, e) => .tup [bdD s, bdD e]
theorem bounds_eq {f w L H : Int} : F_bounds_between [.int f, .int w, .int L, .int H] = .ok (rowD f w L H) := by
  refine runP_of ?_
  unfold B_bounds_between
  walk_at "v"
  simp [eq_int2, bLe, bLt]
  unfold rowD rowB
  by_cases h0 : w = 0
  · simp [h0]
    by_cases h1 : L ≤ f
    · by_cases h2 : f < H
      · simp [h1, h2, make_b, bTup, Kq_ret]
      · simp [h1, h2, show H ≤ f by omega]
        walk_at "w"
        simp
    · simp [h1, show f < L by omega]
      walk_at "w"
  · simp [h0]
    walk_at "n"; walk_at "v"
    simp [bGt]
    by_cases h1 : 0 < w
    · simp [h1, bSub, make_b, bTup, Kq_ret]
    · simp [h1, show w ≤ 0 by omega]
      walk_at "w"
      simp [bSub, make_b, bTup]
theorem row_sm {f w L H : Int} {s e : Bd} (hf : f.natAbs < 2 ^ 50) (hw : w.natAbs < 2 ^ 50) (hL : L.natAbs < 2 ^ 50) (hH : H.natAbs < 2 ^ 50) (h : rowB f w L H = some (s, e)) : Sm s ∧ Sm e := by
  unfold rowB at h
  split at h
  · split at h
    · cases h; exact ⟨⟨by decide, by decide⟩, ⟨by decide, by decide⟩⟩
    · cases h
  · split at h <;> cases h <;> exact ⟨⟨by simp only; omega, by simp only; omega⟩, ⟨by simp only; omega, by simp only; omega⟩⟩
theorem rims_eq {g k : Int} (hg : g.natAbs < 2 ^ 60) : F_rims_of [.int g, .int k] = .ok (.tup [.int ((2 * k - 1) * g), .int ((2 * k + 1) * g)]) := by
  have h : g.natAbs < 18446744073709551616 := by omega
  refine runP_of ?_
  unfold B_rims_of
  walk_at "w"
  simp [bMul, bSub, bAdd, h, bTup]
def cellB (g x y u v i j : Int) : Bool := metB (2 * x) (2 * (u - x)) ((2 * i - 1) * g) ((2 * i + 1) * g) (2 * y) (2 * (v - y)) ((2 * j - 1) * g) ((2 * j + 1) * g)
def stepB : MS := (sSeq (sAsg (pT 2 (psC (pN 8) (psC (pN 9) psN))) (mCallP F_rims_of (mCons (mV 0) (mCons (mV 7) mNil)))) (sSeq (sAsg (pN 10) (mCallP F_bounds_between (mCons (m2 bMul (mC (.int 2)) (mV 5)) (mCons (m2 bMul (mC (.int 2)) (m2 bSub (mV 6) (mV 5))) (mCons (mV 8) (mCons (mV 9) mNil)))))) (sSeq (sIf (m2 bIsN (mV 10) (mC .non)) (sRet (mC .non)) (sK .nx)) (sSeq (sAsg (pN 3) (mCallP F_later (mCons (mV 3) (mCons (m2 bIx (mV 10) (mC (.int 0))) mNil)))) (sAsg (pN 4) (mCallP F_sooner (mCons (mV 4) (mCons (m2 bIx (mV 10) (mC (.int 1))) mNil))))))))
theorem rim_lt {g k : Int} (hg : g.natAbs ≤ 1000) (hk : k.natAbs ≤ 10000000) : ((2 * k - 1) * g).natAbs < 2 ^ 50 ∧ ((2 * k + 1) * g).natAbs < 2 ^ 50 := by
  rw [Int.natAbs_mul, Int.natAbs_mul]
  have h1 : (2 * k - 1).natAbs * g.natAbs ≤ 20000001 * 1000 := Nat.mul_le_mul (by omega) hg
  have h2 : (2 * k + 1).natAbs * g.natAbs ≤ 20000001 * 1000 := Nat.mul_le_mul (by omega) hg
  omega
theorem step_none {g a b k : Int} {s e : Bd} {o1 o2 o8 o9 o10 : Option D} {Q : Fl → Sl → Prop} (hg : g.natAbs ≤ 1000) (h : rowB (2 * a) (2 * (b - a)) ((2 * k - 1) * g) ((2 * k + 1) * g) = none) (hQ : ∀ ρ, Q (.ret .non) ρ) :
    W stepB [some (.int g), o1, o2, some (bdD s), some (bdD e), some (.int a), some (.int b), some (.int k), o8, o9, o10] Q := by
  unfold stepB
  walk_at "v"
  simp [rims_eq (show g.natAbs < 2 ^ 60 by omega)]
  refine ⟨[some (.int g), o1, o2, some (bdD s), some (bdD e), some (.int a), some (.int b), some (.int k), some (.int ((2 * k - 1) * g)), some (.int ((2 * k + 1) * g)), o10], rfl, ?_⟩
  walk_at "n"; walk_at "v"
  simp [bMul, bSub, bounds_eq, rowD, h]
  walk_at "n"; walk_at "v"
  simp [bIsN, D.isNon, Kq_ret]
  exact hQ _
theorem step_some {g a b k : Int} {s e s' e' : Bd} {o1 o2 o8 o9 o10 : Option D} {Q : Fl → Sl → Prop} (hg : g.natAbs ≤ 1000) (hs : Sm s) (he : Sm e) (hs' : Sm s') (he' : Sm e') (h : rowB (2 * a) (2 * (b - a)) ((2 * k - 1) * g) ((2 * k + 1) * g) = some (s', e'))
    (hQ : ∀ o8 o9 o10, Q .nx [some (.int g), o1, o2, some (bdD (laterB s s')), some (bdD (soonerB e e')), some (.int a), some (.int b), some (.int k), o8, o9, o10]) :
    W stepB [some (.int g), o1, o2, some (bdD s), some (bdD e), some (.int a), some (.int b), some (.int k), o8, o9, o10] Q := by
  unfold stepB
  walk_at "v"
  simp [rims_eq (show g.natAbs < 2 ^ 60 by omega)]
  refine ⟨[some (.int g), o1, o2, some (bdD s), some (bdD e), some (.int a), some (.int b), some (.int k), some (.int ((2 * k - 1) * g)), some (.int ((2 * k + 1) * g)), o10], rfl, ?_⟩
  walk_at "n"; walk_at "v"
  simp [bMul, bSub, bounds_eq, rowD, h]
  walk_at "n"; walk_at "v"
  simp [bIsN, D.isNon]
  walk_at "n"; walk_at "v"
  simp [bIx, atI, ixN, later_eq hs hs']
  walk_at "n"; walk_at "v"
  simp [bIx, atI, ixN, sooner_eq he he']
  exact hQ _ _ _
set_option maxHeartbeats 0 in
theorem meets_eq {g x y u v i j : Int} (hg : g.natAbs ≤ 1000) (hx : x.natAbs ≤ 10000000) (hy : y.natAbs ≤ 10000000) (hu : u.natAbs ≤ 10000000) (hv : v.natAbs ≤ 10000000) (hi : i.natAbs ≤ 10000000) (hj : j.natAbs ≤ 10000000) :
    F_meets [.int g, ln x y u v, pt i j] = .ok (.bl (cellB g x y u v i j)) := by
  have key : ∃ d, F_met_between [.int g, ln x y u v, pt i j] = .ok d ∧ (!d.isNon) = cellB g x y u v i j := by
    refine runP_ex ?_
    show W (sSeq (sPar 3 4 (mCons (mN (bMake "Bound" ["n", "d", "is_out"]) (mCons (mC (.int 0)) (mCons (mC (.int 1)) (mCons (mC (.bl false)) mNil)))) (mCons (mN (bMake "Bound" ["n", "d", "is_out"]) (mCons (mC (.int 1)) (mCons (mC (.int 1)) (mCons (mC (.bl false)) mNil)))) mNil))) (sSeq (sFor (pT 3 (psC (pN 5) (psC (pN 6) (psC (pN 7) psN)))) (mItN zip3 (mCons (m2 bIx (mV 1) (mC (.int 0))) (mCons (m2 bIx (mV 1) (mC (.int 1))) (mCons (mV 2) mNil)))) stepB) (sSeq (sIf (mOr (mCallP F_Bound_is_ahead_of (mCons (m1 (bRcv "Bound" "is_ahead_of") (mV 3)) (mCons (mV 4) mNil))) (mAnd (mCallP F_Bound_is_at (mCons (m1 (bRcv "Bound" "is_at") (mV 3)) (mCons (mV 4) mNil))) (mAnd (m1 bNot (m1 (bFld "is_out") (mV 3))) (m1 bNot (m1 (bFld "is_out") (mV 4)))))) (sRet (mN bTup (mCons (mV 3) (mCons (mV 4) mNil)))) (sK .nx)) (sRet (mC .non))))) _ _
    walk_at "v"
    simp [make_b]
    walk_at "n"; walk_at "v"
    simp [ln, pt, bIx, atI, ixN, zip3, zipL3]
    refine W_forCons.mpr ⟨_, rfl, ?_⟩
    have z0 : Sm ⟨0, 1, false⟩ := ⟨by decide, by decide⟩
    have z1 : Sm ⟨1, 1, false⟩ := ⟨by decide, by decide⟩
    obtain ⟨r1, r2⟩ := rim_lt hg hi
    obtain ⟨r3, r4⟩ := rim_lt hg hj
    cases h1 : rowB (2 * x) (2 * (u - x)) ((2 * i - 1) * g) ((2 * i + 1) * g) with
    | none =>
      have hc : cellB g x y u v i j = false := by unfold cellB metB; rw [h1]
      rw [hc]
      refine step_none hg h1 fun ρ => ?_
      simp [Kq_ret, D.isNon]
    | some p =>
      obtain ⟨s, e⟩ := p
      obtain ⟨m1, m2⟩ := row_sm (by omega) (by omega) r1 r2 h1
      refine step_some hg z0 z1 m1 m2 h1 fun o8 o9 o10 => .inl ⟨.inl rfl, ?_⟩
      refine W_forCons.mpr ⟨_, rfl, ?_⟩
      cases h2 : rowB (2 * y) (2 * (v - y)) ((2 * j - 1) * g) ((2 * j + 1) * g) with
      | none =>
        have hc : cellB g x y u v i j = false := by unfold cellB metB; rw [h1, h2]
        rw [hc]
        refine step_none hg h2 fun ρ => ?_
        simp [Kq_ret, D.isNon]
      | some p' =>
        obtain ⟨s', e'⟩ := p'
        obtain ⟨m3, m4⟩ := row_sm (by omega) (by omega) r3 r4 h2
        have k1 := laterB_sm z0 m1
        have k2 := soonerB_sm z1 m2
        refine step_some hg k1 k2 m3 m4 h2 fun o8 o9 o10 => .inl ⟨.inl rfl, W_forNil.mpr ?_⟩
        have k3 := laterB_sm k1 m3
        have k4 := soonerB_sm k2 m4
        have hc : cellB g x y u v i j = openB (laterB (laterB ⟨0, 1, false⟩ s) s') (soonerB (soonerB ⟨1, 1, false⟩ e) e') := by unfold cellB metB; rw [h1, h2]
        rw [hc]
        clear hc
        generalize laterB (laterB ⟨0, 1, false⟩ s) s' = A at *
        generalize soonerB (soonerB ⟨1, 1, false⟩ e) e' = B at *
        walk_at "n"; walk_at "v"
        simp [rcv_a, rcv_t, fld_o, ahead_eq k3 k4, at_eq k3 k4, bNot]
        unfold openB
        cases A.lt B <;> cases A.at B <;> cases A.o <;> cases B.o <;> simp [bTup, Kq_nx, Kq_ret, W_sRet, W_mC, D.isNon]
  obtain ⟨d, h1, h2⟩ := key
  refine runP_of ?_
  unfold B_meets
  walk_at "w"
  simp [h1, bNotN]
  rw [← h2]; simp

/-! the shares of the law -/
theorem W_sFz {i : Nat} {m : MS} {ρ : Sl} {Q : Fl → Sl → Prop} : W (sFz i m) ρ Q ↔ W m ρ fun f ρ' => Q f (ρ'.set i none) := by
  unfold sFz
  constructor
  · rintro ⟨f, ρ', e, q⟩
    dsimp only at e
    split at e
    · rename_i e1; cases e; exact ⟨_, _, e1, q⟩
    · cases e
    · cases e
  · rintro ⟨f, ρ', e, q⟩
    exact ⟨f, _, by simp only [e], q⟩
def sgn (w : Int) : Int := if 0 < w then 1 else -1
def cutAt (f w U S : Int) : Int := (S - f) * (U.fdiv (if w < 0 then -w else w)) * sgn w
def cutsOf (f w L H U : Int) : List Int := if w = 0 then [] else [cutAt f w U L, cutAt f w U H]
theorem sgn_ix {w : Int} : bIx (.lst [.int (-1), .int 1]) (.int (if 0 < w then 1 else 0)) = some (.int (sgn w)) := by
  unfold sgn
  split <;> rfl
def sideB : MS := (sExp (mApp 9 (m2 bMul (m2 bMul (m2 bSub (mV 13) (mV 10)) (m2 bDiv (mV 8) (mN bAbs (mCons (mV 11) mNil)))) (m2 bIx (mN bLst (mCons (m1 bNeg (mC (.int 1))) (mCons (mC (.int 1)) mNil))) (mN bInt (mCons (m2 bGt (mV 11) (mC (.int 0))) mNil))))))
def rowL : MS := (sFor (pN 13) (mIt (m2 bRep (mN bLst (mCons (m2 bMul (m2 bSub (m2 bMul (mC (.int 2)) (mV 12)) (mC (.int 1))) (mV 0)) (mCons (m2 bMul (m2 bAdd (m2 bMul (mC (.int 2)) (mV 12)) (mC (.int 1))) (mV 0)) mNil))) (mN bInt (mCons (m2 bNe (mV 11) (mC (.int 0))) mNil)))) sideB)
theorem side_step {g f w k U S : Int} {C : List Int} {o1 o2 o3 o4 o5 o6 o7 o14 o15 o16 o17 o18 o19 o20 o21 : Option D} {Q : Fl → Sl → Prop} (hw : w ≠ 0) (hwb : w.natAbs < 2 ^ 60) (hWb : U.natAbs < 2 ^ 130) (hS : S.natAbs < 2 ^ 60) (hf : f.natAbs < 2 ^ 60) (hC : C.length < 100)
    (hQ : Q .nx [some (.int g), o1, o2, o3, o4, o5, o6, o7, some (.int U), some (.lst ((C ++ [cutAt f w U S]).map .int)), some (.int f), some (.int w), some (.int k), some (.int S), o14, o15, o16, o17, o18, o19, o20, o21]) :
    W sideB [some (.int g), o1, o2, o3, o4, o5, o6, o7, some (.int U), some (.lst (C.map .int)), some (.int f), some (.int w), some (.int k), some (.int S), o14, o15, o16, o17, o18, o19, o20, o21] Q := by
  have ab : (if w < 0 then -w else w) ≠ 0 := by split <;> omega
  have ab2 : (if w < 0 then -w else w).natAbs < bigD := lt_bigD (by split <;> omega)
  have m1 : (S - f).natAbs < 18446744073709551616 := by omega
  have m2 : (sgn w).natAbs < 18446744073709551616 := by unfold sgn; split <;> decide
  unfold sideB
  simp only [W_sExp, W_mApp]
  walk_at "v"
  simp [bSub, bAbs, bDiv, ab, ab2, bMul, m1, bGt, bInt, bNeg, bLst, sgn_ix, m2]
  refine ⟨by omega, ?_⟩
  simpa [cutAt] using hQ
theorem row_step {g f w k U : Int} {C : List Int} {o1 o2 o3 o4 o5 o6 o7 o13 o14 o15 o16 o17 o18 o19 o20 o21 : Option D} {Q : Fl → Sl → Prop} (hg : g.natAbs ≤ 1000) (hk : k.natAbs ≤ 10000000) (hwb : w.natAbs < 2 ^ 60) (hWb : U.natAbs < 2 ^ 130) (hf : f.natAbs < 2 ^ 60) (hC : C.length < 90)
    (hQ : ∀ o13, Q .nx [some (.int g), o1, o2, o3, o4, o5, o6, o7, some (.int U), some (.lst ((C ++ cutsOf f w ((2 * k - 1) * g) ((2 * k + 1) * g) U).map .int)), some (.int f), some (.int w), some (.int k), o13, o14, o15, o16, o17, o18, o19, o20, o21]) :
    W rowL [some (.int g), o1, o2, o3, o4, o5, o6, o7, some (.int U), some (.lst (C.map .int)), some (.int f), some (.int w), some (.int k), o13, o14, o15, o16, o17, o18, o19, o20, o21] Q := by
  have gm : g.natAbs < 18446744073709551616 := by omega
  obtain ⟨r1, r2⟩ := rim_lt hg hk
  unfold rowL
  walk_at "v"
  simp [bMul, bSub, bAdd, gm, bLst, ne_int2, bInt]
  by_cases h0 : w = 0
  · simp [h0, bRep, itemsOf, W_forNil]
    have := hQ o13
    simpa [cutsOf, h0] using this
  · simp [h0, bRep, itemsOf]
    refine W_forCons.mpr ⟨_, rfl, side_step h0 hwb hWb (by omega) hf (by omega) ?_⟩
    refine .inl ⟨.inl rfl, W_forCons.mpr ⟨_, rfl, side_step h0 hwb hWb (by omega) hf (by simp; omega) ?_⟩⟩
    refine .inl ⟨.inl rfl, W_forNil.mpr ?_⟩
    have := hQ (some (.int ((2 * k + 1) * g)))
    simpa [cutsOf, h0] using this
def insB (f w L H U s : Int) : Bool := decide (2 * L * U ≤ f * 2 * U + w * s) && decide (f * 2 * U + w * s < 2 * H * U)
theorem insB_iff {f w L H U s : Int} : insB f w L H U s = true ↔ InsI f w L H U s := by simp [insB, InsI]
def tryR : MS := (sSeq (sAsg (pN 17) (m2 bAdd (m2 bMul (m2 bMul (mV 10) (mC (.int 2))) (mV 8)) (m2 bMul (mV 11) (mV 15)))) (sSeq (sAsg (pN 18) (m2 bMul (m2 bMul (m2 bMul (mC (.int 2)) (m2 bSub (m2 bMul (mC (.int 2)) (mV 12)) (mC (.int 1)))) (mV 0)) (mV 8))) (sSeq (sAsg (pN 19) (m2 bMul (m2 bMul (m2 bMul (mC (.int 2)) (m2 bAdd (m2 bMul (mC (.int 2)) (mV 12)) (mC (.int 1)))) (mV 0)) (mV 8))) (sAsg (pN 16) (mAnd (mV 16) (mChain bLe bLt (mV 18) (mV 17) (mV 19)))))))
theorem try_row {g f w k U s : Int} {b : Bool} {o1 o2 o3 o4 o5 o6 o7 o9 o13 o14 o17 o18 o19 o20 o21 : Option D} {Q : Fl → Sl → Prop} (hg : g.natAbs ≤ 1000) (hk : k.natAbs ≤ 10000000) (hwb : w.natAbs < 2 ^ 60) (hf : f.natAbs < 2 ^ 60)
    (hQ : ∀ o17 o18 o19, Q .nx [some (.int g), o1, o2, o3, o4, o5, o6, o7, some (.int U), o9, some (.int f), some (.int w), some (.int k), o13, o14, some (.int s), some (.bl (b && insB f w ((2 * k - 1) * g) ((2 * k + 1) * g) U s)), o17, o18, o19, o20, o21]) :
    W tryR [some (.int g), o1, o2, o3, o4, o5, o6, o7, some (.int U), o9, some (.int f), some (.int w), some (.int k), o13, o14, some (.int s), some (.bl b), o17, o18, o19, o20, o21] Q := by
  have gm : g.natAbs < 18446744073709551616 := by omega
  have fm : (f * 2).natAbs < 18446744073709551616 := by omega
  have wm : w.natAbs < 18446744073709551616 := by omega
  have e1 : ∀ z : Int, (2 * z * g).natAbs = 2 * (z * g).natAbs := fun z => by rw [Int.mul_assoc, Int.natAbs_mul]; rfl
  obtain ⟨r1, r2⟩ := rim_lt hg hk
  have m1 : (2 * (2 * k - 1) * g).natAbs < 18446744073709551616 := by rw [e1]; omega
  have m2 : (2 * (2 * k + 1) * g).natAbs < 18446744073709551616 := by rw [e1]; omega
  unfold tryR
  walk_at "v"
  simp [bMul, fm, wm, bAdd]
  walk_at "n"; walk_at "v"
  simp [bMul, bSub, gm, m1]
  walk_at "n"; walk_at "v"
  simp [bMul, bAdd, gm, m2]
  walk_at "n"; walk_at "v"
  simp [bLe, bLt]
  have t1 : 2 * (2 * k - 1) * g * U = 2 * ((2 * k - 1) * g) * U := by rw [Int.mul_assoc 2]
  have t2 : 2 * (2 * k + 1) * g * U = 2 * ((2 * k + 1) * g) * U := by rw [Int.mul_assoc 2]
  rw [t1, t2]
  have q := hQ (some (.int (f * 2 * U + w * s))) (some (.int (2 * ((2 * k - 1) * g) * U))) (some (.int (2 * ((2 * k + 1) * g) * U)))
  cases b with
  | false => simpa using q
  | true =>
    simp [insB] at q
    by_cases c : 2 * ((2 * k - 1) * g) * U ≤ f * 2 * U + w * s
    · simp [c] at q ⊢
      exact .inl q
    · simp [c] at q ⊢
      exact ⟨by omega, q⟩
def tryB : MS := (sSeq (sAsg (pN 16) (mC (.bl true))) (sSeq (sFor (pT 3 (psC (pN 10) (psC (pN 11) (psC (pN 12) psN)))) (mIt (mV 7)) tryR) (sIf (mV 16) (sExp (mApp 14 (mN bTup (mCons (mV 15) (mCons (m2 bMul (mC (.int 2)) (mV 8)) mNil))))) (sK .nx))))
structure Geo where
  (g x y u v i j U : Int)
  hg : g.natAbs ≤ 1000
  hx : x.natAbs ≤ 10000000
  hy : y.natAbs ≤ 10000000
  hu : u.natAbs ≤ 10000000
  hv : v.natAbs ≤ 10000000
  hi : i.natAbs ≤ 10000000
  hj : j.natAbs ≤ 10000000
def Geo.rows (G : Geo) : D := .lst [.tup [.int (2 * G.x), .int (2 * (G.u - G.x)), .int G.i], .tup [.int (2 * G.y), .int (2 * (G.v - G.y)), .int G.j]]
def Geo.ins (G : Geo) (s : Int) : Bool := insB (2 * G.x) (2 * (G.u - G.x)) ((2 * G.i - 1) * G.g) ((2 * G.i + 1) * G.g) G.U s && insB (2 * G.y) (2 * (G.v - G.y)) ((2 * G.j - 1) * G.g) ((2 * G.j + 1) * G.g) G.U s
theorem try_loop {G : Geo} {o1 o2 o3 o4 o5 o6 o9 o13 o20 o21 : Option D} {Q : Fl → Sl → Prop} : ∀ (xs : List Int) (fd : List D) (o10 o11 o12 o15 o16 o17 o18 o19 : Option D), fd.length + xs.length ≤ 1000 →
    (∀ fd' o10 o11 o12 o15 o16 o17 o18 o19, fd' = fd ++ (xs.filter G.ins).map (fun s => .tup [.int s, .int (2 * G.U)]) → Q .nx [some (.int G.g), o1, o2, o3, o4, o5, o6, some G.rows, some (.int G.U), o9, o10, o11, o12, o13, some (.lst fd'), o15, o16, o17, o18, o19, o20, o21]) →
    W (forL (pN 15) tryB (xs.map .int)) [some (.int G.g), o1, o2, o3, o4, o5, o6, some G.rows, some (.int G.U), o9, o10, o11, o12, o13, some (.lst fd), o15, o16, o17, o18, o19, o20, o21] Q
  | [], fd, o10, o11, o12, o15, o16, o17, o18, o19, _, k => W_forNil.mpr (k fd _ _ _ _ _ _ _ _ (by simp))
  | s :: xs, fd, o10, o11, o12, o15, o16, o17, o18, o19, hl, k => by
    simp at hl
    have hx := G.hx
    have hy := G.hy
    have hu := G.hu
    have hv := G.hv
    refine W_forCons.mpr ⟨_, rfl, ?_⟩
    unfold tryB
    walk_at "v"
    simp
    walk_at "n"; walk_at "v"
    simp [Geo.rows, itemsOf]
    refine W_forCons.mpr ⟨_, rfl, try_row (b := true) G.hg G.hi (by omega) (by omega) fun o17 o18 o19 => .inl ⟨.inl rfl, ?_⟩⟩
    refine W_forCons.mpr ⟨_, rfl, try_row G.hg G.hj (by omega) (by omega) fun o17 o18 o19 => .inl ⟨.inl rfl, W_forNil.mpr ?_⟩⟩
    walk_at "n"; walk_at "v"
    simp only [Bool.true_and]
    have hb : (insB (2 * G.x) (2 * (G.u - G.x)) ((2 * G.i - 1) * G.g) ((2 * G.i + 1) * G.g) G.U s && insB (2 * G.y) (2 * (G.v - G.y)) ((2 * G.j - 1) * G.g) ((2 * G.j + 1) * G.g) G.U s) = G.ins s := rfl
    rw [hb]
    simp [W_mApp, bMul, bTup]
    cases hi : G.ins s with
    | true =>
      simp [W_mApp, W_mN, W_mCons, W_mV, W_m2, W_mC, W_mNil, bMul, bTup]
      refine ⟨by omega, ?_⟩
      refine try_loop xs (fd ++ [.tup [.int s, .int (2 * G.U)]]) _ _ _ _ _ _ _ _ (by simp; omega) fun fd' a1 a2 a3 a4 a5 a6 a7 a8 h => k fd' a1 a2 a3 a4 a5 a6 a7 a8 ?_
      rw [h]; simp [List.filter_cons, hi]
    | false =>
      simp
      refine try_loop xs fd _ _ _ _ _ _ _ _ (by omega) fun fd' a1 a2 a3 a4 a5 a6 a7 a8 h => k fd' a1 a2 a3 a4 a5 a6 a7 a8 ?_
      rw [h]; simp [List.filter_cons, hi]
def wholeOf (x y u v : Int) : Int := (if (if 2 * (u - x) < 0 then -(2 * (u - x)) else 2 * (u - x)) > 1 then (if 2 * (u - x) < 0 then -(2 * (u - x)) else 2 * (u - x)) else 1) * (if (if 2 * (v - y) < 0 then -(2 * (v - y)) else 2 * (v - y)) > 1 then (if 2 * (v - y) < 0 then -(2 * (v - y)) else 2 * (v - y)) else 1)
def candOf (g x y u v i j U : Int) : List Int := [0, U] ++ cutsOf (2 * x) (2 * (u - x)) ((2 * i - 1) * g) ((2 * i + 1) * g) U ++ cutsOf (2 * y) (2 * (v - y)) ((2 * j - 1) * g) ((2 * j + 1) * g) U
theorem comp_half {W' : Int} {ρ : Sl} (h8 : ρ[8]? = some (some (.int W'))) (hl : 15 < ρ.length) (hw : ∀ x, wipeD (ρ.set 15 (some x)) [15] = ρ) : ∀ (C : List Int) {QL : List D → Sl → Prop}, QL (((C.filter fun c => decide (0 ≤ c) && decide (c ≤ W')).map fun c => 2 * c).map .int) ρ → W (compL [15] (pN 15) (mChain bLe bLe (mC (.int 0)) (mV 15) (mV 8)) (m2 bMul (mC (.int 2)) (mV 15)) (C.map .int)) ρ QL
  | [], QL, q => W_compNil.mpr q
  | c :: C, QL, q => by
    refine W_compCons.mpr ⟨ρ.set 15 (some (.int c)), rfl, ?_⟩
    have g15 : (ρ.set 15 (some (D.int c)))[15]? = some (some (.int c)) := by simp [hl]
    have g8 : (ρ.set 15 (some (D.int c)))[8]? = some (some (.int W')) := by rw [List.getElem?_set_ne (by decide)]; exact h8
    walk_at "v"
    simp only [g15, g8]
    simp [bLe, bMul]
    rw [hw]
    by_cases c1 : 0 ≤ c
    · by_cases c2 : c ≤ W'
      · simp [c1, c2]
        refine .inl (.inl (comp_half (QL := fun ds ρ4 => QL (D.int (2 * c) :: ds) ρ4) h8 hl hw C ?_))
        simpa [List.filter_cons, c1, c2] using q
      · simp [c1, c2, show W' < c by omega]
        refine .inl (comp_half h8 hl hw C ?_)
        simpa [List.filter_cons, c1, c2] using q
    · simp [c1, show c < 0 by omega]
      refine comp_half h8 hl hw C ?_
      simpa [List.filter_cons, c1] using q
theorem zip_ints : ∀ (a b : List Int), zipL (a.map .int) (b.map .int) = (a.zip b).map fun p => .tup [.int p.1, .int p.2]
  | [], b => by simp [zipL]
  | a :: as, [] => by simp [zipL]
  | a :: as, b :: bs => by simp [zipL, zip_ints as bs]
theorem cut_last {α : Type} {l : List α} : cutD l none (some (-1)) = l.dropLast := by
  unfold cutD
  rw [HT.sIx_none]
  rw [List.drop_zero, List.dropLast_eq_take, Nat.sub_zero]
  congr 1
  show (if (-1 : Int) < 0 then ((-1 : Int) + (l.length : Int)).toNat else min (-1 : Int).toNat l.length) = _
  rw [if_pos (by decide)]; omega
theorem cut_tail {α : Type} {l : List α} : cutD l (some 1) none = l.tail := by
  rw [show (some (1 : Int)) = some ((1 : Nat) : Int) from rfl, cut_from]; simp
theorem intsOf_it (l : List Int) : intsOf (l.map .int) = some l := intsOf_map l
theorem cuts_len {f w L H U : Int} : (cutsOf f w L H U).length ≤ 2 := by unfold cutsOf; split <;> simp
set_option maxHeartbeats 0 in
theorem shares_eq {g x y u v i j : Int} (hg : g.natAbs ≤ 1000) (hx : x.natAbs ≤ 10000000) (hy : y.natAbs ≤ 10000000) (hu : u.natAbs ≤ 10000000) (hv : v.natAbs ≤ 10000000) (hi : i.natAbs ≤ 10000000) (hj : j.natAbs ≤ 10000000) :
    ∃ d, F__law_shares [.int g, ln x y u v, pt i j] = .ok d ∧ ∃ fd, d = .lst fd ∧ fd = ((sortI (triedS (candOf g x y u v i j (wholeOf x y u v)) (wholeOf x y u v) ++ triedM (triedS (candOf g x y u v i j (wholeOf x y u v)) (wholeOf x y u v)))).filter (Geo.ins ⟨g, x, y, u, v, i, j, wholeOf x y u v, hg, hx, hy, hu, hv, hi, hj⟩)).map (fun s => .tup [.int s, .int (2 * wholeOf x y u v)]) := by
  refine runP_ex ?_
  show W (sSeq (sAsg (pT 2 (psC (pT 2 (psC (pN 3) (psC (pN 4) psN))) (psC (pT 2 (psC (pN 5) (psC (pN 6) psN))) psN))) (mV 1)) (sSeq (sAsg (pN 7) (mN bLst (mCons (mN bTup (mCons (m2 bMul (mC (.int 2)) (mV 3)) (mCons (m2 bMul (mC (.int 2)) (m2 bSub (mV 5) (mV 3))) (mCons (m2 bIx (mV 2) (mC (.int 0))) mNil)))) (mCons (mN bTup (mCons (m2 bMul (mC (.int 2)) (mV 4)) (mCons (m2 bMul (mC (.int 2)) (m2 bSub (mV 6) (mV 4))) (mCons (m2 bIx (mV 2) (mC (.int 1))) mNil)))) mNil)))) (sSeq (sAsg (pN 8) (m2 bMul (mN bMax2 (mCons (mC (.int 1)) (mCons (mN bAbs (mCons (m2 bIx (m2 bIx (mV 7) (mC (.int 0))) (mC (.int 1))) mNil)) mNil))) (mN bMax2 (mCons (mC (.int 1)) (mCons (mN bAbs (mCons (m2 bIx (m2 bIx (mV 7) (mC (.int 1))) (mC (.int 1))) mNil)) mNil))))) (sSeq (sAsg (pN 9) (mN bLst (mCons (mC (.int 0)) (mCons (mV 8) mNil)))) (sSeq (sFor (pT 3 (psC (pN 10) (psC (pN 11) (psC (pN 12) psN)))) (mIt (mV 7)) rowL) (sFz 9 (sSeq (sAsg (pN 9) (mL sortD (mCons (mComp [15] (pN 15) (mIt (mV 9)) (mChain bLe bLe (mC (.int 0)) (mV 15) (mV 8)) (m2 bMul (mC (.int 2)) (mV 15))) mNil))) (sSeq (sAsg (pN 9) (m2 bAdd (mV 9) (mComp [20, 21] (pT 2 (psC (pN 20) (psC (pN 21) psN))) (mItN zip2 (mCons (mSl (mV 9) none (some (m1 bNeg (mC (.int 1))))) (mCons (mSl (mV 9) (some (mC (.int 1))) none) mNil))) mYes (m2 bDiv (m2 bAdd (mV 20) (mV 21)) (mC (.int 2)))))) (sSeq (sAsg (pN 14) (mN bLst mNil)) (sSeq (sFor (pN 15) (mIt (mL sortD (mCons (mV 9) mNil))) tryB) (sFz 14 (sRet (mV 14))))))))))))) _ _
  walk_at "v"
  simp
  refine ⟨[some (.int g), some (ln x y u v), some (pt i j), some (.int x), some (.int y), some (.int u), some (.int v), none, none, none, none, none, none, none, none, none, none, none, none, none, none, none], rfl, ?_⟩
  walk_at "n"; walk_at "v"
  simp [bMul, bSub, pt, bIx, atI, ixN, bTup, bLst]
  walk_at "n"; walk_at "v"
  have am : ∀ z : Int, z.natAbs ≤ 40000000 → (if (if z < 0 then -z else z) > 1 then (if z < 0 then -z else z) else 1).natAbs < 18446744073709551616 := fun z hz => by split <;> (split <;> omega)
  simp [bIx, atI, ixN, bAbs, bMax2, bMul, am (2 * (u - x)) (by omega)]
  have hUb : (wholeOf x y u v).natAbs < 2 ^ 130 := by
    unfold wholeOf
    rw [Int.natAbs_mul]
    have := am (2 * (u - x)) (by omega)
    have := am (2 * (v - y)) (by omega)
    exact Nat.lt_of_lt_of_le (Nat.mul_lt_mul_of_lt_of_lt (by assumption) (by assumption)) (by decide)
  let G : Geo := ⟨g, x, y, u, v, i, j, wholeOf x y u v, hg, hx, hy, hu, hv, hi, hj⟩
  show Kq _ _ Fl.nx [some (D.int g), some (ln x y u v), some (pt i j), some (D.int x), some (D.int y), some (D.int u), some (D.int v), some G.rows, some (D.int (wholeOf x y u v)), none, none, none, none, none, none, none, none, none, none, none, none, none]
  have hG : ∃ G' : Geo, G' = G := ⟨_, rfl⟩
  generalize wholeOf x y u v = U at *
  walk_at "n"; walk_at "v"
  simp [bLst]
  walk_at "n"; walk_at "v"
  have l1 := cuts_len (f := 2 * x) (w := 2 * (u - x)) (L := (2 * i - 1) * g) (H := (2 * i + 1) * g) (U := U)
  have l2 := cuts_len (f := 2 * y) (w := 2 * (v - y)) (L := (2 * j - 1) * g) (H := (2 * j + 1) * g) (U := U)
  simp [G, Geo.rows, itemsOf]
  refine W_forCons.mpr ⟨_, rfl, row_step (C := [0, U]) hg hi (by omega) hUb (by omega) (by simp) fun o13 => .inl ⟨.inl rfl, ?_⟩⟩
  refine W_forCons.mpr ⟨_, rfl, row_step hg hj (by omega) hUb (by omega) (by simp; omega) fun o13 => .inl ⟨.inl rfl, W_forNil.mpr ?_⟩⟩
  have hC : ∃ C, C = candOf g x y u v i j U := ⟨_, rfl⟩
  obtain ⟨C, eC⟩ := hC
  have lC : C.length ≤ 6 := by rw [eC]; unfold candOf; simp; omega
  have eC' : [0, U] ++ cutsOf (2 * x) (2 * (u - x)) ((2 * i - 1) * g) ((2 * i + 1) * g) U ++ cutsOf (2 * y) (2 * (v - y)) ((2 * j - 1) * g) ((2 * j + 1) * g) U = C := eC.symm
  rw [eC', ← eC]
  clear eC eC'
  walk_at "n"
  simp only [W_sFz]
  walk_at "v"
  simp [itemsOf, wipeD]
  refine comp_half rfl (by simp) (fun _ => rfl) C ?_
  have lS : (triedS C U).length ≤ 6 := by
    unfold triedS sortI
    simp
    exact Nat.le_trans (List.length_filter_le _ _) lC
  simp [sortD, intsOf_it]
  have eS : sortI ((C.filter fun c => decide (0 ≤ c) && decide (c ≤ U)).map fun c => 2 * c) = triedS C U := rfl
  refine ⟨(triedS C U).map .int, ⟨_, by rw [← List.map_map, intsOf_it], by rw [eS]⟩, ?_⟩
  generalize triedS C U = S at *
  walk_at "n"; walk_at "v"
  simp [bSl, bNeg, zip2, wipeD, cut_last, cut_tail]
  have ez : zipL (cutD (S.map D.int) none (some (-1))) (cutD (S.map D.int) (some 1) none) = (S.dropLast.zip S.tail).map fun p => .tup [.int p.1, .int p.2] := by
    rw [cut_last, cut_tail, ← List.map_dropLast, ← List.map_tail, zip_ints]
  rw [← List.map_dropLast, ← List.map_tail, zip_ints]
  have two : (2 : Nat) < bigD := lt_bigD (by decide)
  refine compTo (f := fun p => D.int ((p.1 + p.2).fdiv 2)) (fun p hp => ?_) ?_
  · exact ⟨[some (.int g), some (ln x y u v), some (pt i j), some (.int x), some (.int y), some (.int u), some (.int v), some (.lst [.tup [.int (2 * x), .int (2 * (u - x)), .int i], .tup [.int (2 * y), .int (2 * (v - y)), .int j]]), some (.int U), some (.lst (S.map .int)), some (.int (2 * y)), some (.int (2 * (v - y))), some (.int j), o13, none, none, none, none, none, none, some (.int p.1), some (.int p.2)], [some (.int g), some (ln x y u v), some (pt i j), some (.int x), some (.int y), some (.int u), some (.int v), some (.lst [.tup [.int (2 * x), .int (2 * (u - x)), .int i], .tup [.int (2 * y), .int (2 * (v - y)), .int j]]), some (.int U), some (.lst (S.map .int)), some (.int (2 * y)), some (.int (2 * (v - y))), some (.int j), o13, none, none, none, none, none, none, some (.int p.1), some (.int p.2)], rfl, by simp [m2, CL.bind, mV, mC, bAdd, ofO, bDiv, two], rfl⟩
  · have eM : ((S.dropLast.zip S.tail).map fun p => D.int ((p.1 + p.2).fdiv 2)) = (triedM S).map .int := by simp [triedM]
    rw [eM]
    have lM : (triedM S).length ≤ 6 := by unfold triedM; simp; omega
    refine ⟨.lst ((S ++ triedM S).map .int), by simp [bAdd]; omega, ?_⟩
    simp
    walk_at "n"; walk_at "v"
    simp [bLst]
    walk_at "n"; walk_at "v"
    have es : sortD [.lst (S.map .int ++ (triedM S).map .int)] = some ((sortI (S ++ triedM S)).map .int) := by
      rw [← List.map_append]
      show (intsOf ((S ++ triedM S).map .int)).map _ = _
      rw [intsOf_it]; rfl
    refine ⟨_, rfl, _, es, ?_⟩
    simp [itemsOf]
    refine try_loop (G := ⟨g, x, y, u, v, i, j, U, hg, hx, hy, hu, hv, hi, hj⟩) _ [] _ _ _ _ _ _ _ _ (by simp [sortI]; omega) fun fd a1 a2 a3 a4 a5 a6 a7 a8 h => ?_
    walk_at "n"
    simp only [W_sFz]
    walk_at "v"
    simp
    simpa using h

theorem cut_prop {f w U S : Int} (hw : w ≠ 0) (hd : (if w < 0 then -w else w) ∣ U) : ((cutAt f w U S : Int) : Rat) * w = U * (S - f) := by
  have e : cutAt f w U S * w = U * (S - f) := by
    unfold cutAt
    obtain ⟨k, hk⟩ := hd
    have a0 : (if w < 0 then -w else w) ≠ 0 := by split <;> omega
    have sw : sgn w * w = (if w < 0 then -w else w) := by unfold sgn; split <;> split <;> omega
    rw [Int.fdiv_eq_ediv_of_dvd ⟨k, hk⟩, hk, Int.mul_ediv_cancel_left _ a0, Int.mul_assoc, Int.mul_assoc, sw]
    rw [Int.mul_comm (S - f), Int.mul_comm k]
  have e' : ((cutAt f w U S * w : Int) : Rat) = ((U * (S - f) : Int) : Rat) := by rw [e]
  push_cast at e'
  exact e'
def mx (z : Int) : Int := if (if z < 0 then -z else z) > 1 then (if z < 0 then -z else z) else 1
theorem mx_pos {z : Int} : 0 < mx z := by unfold mx; split <;> omega
theorem mx_dvd {z : Int} (h : z ≠ 0) : (if z < 0 then -z else z) ∣ mx z := by
  unfold mx
  by_cases c : (if z < 0 then -z else z) > 1
  · rw [if_pos c]; exact Int.dvd_refl _
  · have : (if z < 0 then -z else z) = 1 := by
      by_cases n : z < 0
      · rw [if_pos n] at c ⊢; omega
      · rw [if_neg n] at c ⊢; omega
    rw [this]; exact Int.one_dvd _
theorem whole_mx {x y u v : Int} : wholeOf x y u v = mx (2 * (u - x)) * mx (2 * (v - y)) := rfl
theorem filter_len {l : List Int} {f : Int → Bool} : ((l.filter f).length = 0) ↔ ¬ ∃ s ∈ l, f s = true := by
  rw [List.length_eq_zero_iff, List.filter_eq_nil_iff]
  constructor
  · rintro h ⟨s, h1, h2⟩; exact h s h1 h2
  · intro h s h1 h2; exact h ⟨s, h1, h2⟩
theorem due_eq {g x y u v i j : Int} (hg : g.natAbs ≤ 1000) (hx : x.natAbs ≤ 10000000) (hy : y.natAbs ≤ 10000000) (hu : u.natAbs ≤ 10000000) (hv : v.natAbs ≤ 10000000) (hi : i.natAbs ≤ 10000000) (hj : j.natAbs ≤ 10000000) :
    ∃ d, F__law_shares [.int g, ln x y u v, pt i j] = .ok d ∧ bNe d (.lst []) = some (.bl (cellB g x y u v i j)) := by
  obtain ⟨d, h1, fd, rfl, h2⟩ := shares_eq hg hx hy hu hv hi hj
  refine ⟨_, h1, ?_⟩
  have hU : 0 < wholeOf x y u v := by rw [whole_mx]; exact Int.mul_pos mx_pos mx_pos
  have key : fd.length ≠ 0 ↔ cellB g x y u v i j = true := by
    unfold cellB
    rw [metB_iff, ← tried_iff (C := candOf g x y u v i j (wholeOf x y u v)) hU (by simp [candOf]) (by simp [candOf]) ?_ ?_]
    · rw [h2, List.length_map, Ne, filter_len, Classical.not_not]
      constructor
      · rintro ⟨s, a, b⟩
        rw [sortI_mem] at a
        simp only [Geo.ins, Bool.and_eq_true, insB_iff] at b
        exact ⟨s, a, b⟩
      · rintro ⟨s, a, b⟩
        refine ⟨s, sortI_mem.mpr a, ?_⟩
        simp only [Geo.ins, Bool.and_eq_true, insB_iff]
        exact b
    · intro hw S hS
      have hd : (if 2 * (u - x) < 0 then -(2 * (u - x)) else 2 * (u - x)) ∣ wholeOf x y u v := by rw [whole_mx]; exact Int.dvd_mul_of_dvd_left (mx_dvd hw)
      refine ⟨cutAt (2 * x) (2 * (u - x)) (wholeOf x y u v) S, ?_, cut_prop hw hd⟩
      unfold candOf cutsOf
      rw [if_neg hw]
      rcases hS with rfl | rfl <;> simp
    · intro hw S hS
      have hd : (if 2 * (v - y) < 0 then -(2 * (v - y)) else 2 * (v - y)) ∣ wholeOf x y u v := by rw [whole_mx]; exact Int.dvd_mul_of_dvd_right (mx_dvd hw)
      refine ⟨cutAt (2 * y) (2 * (v - y)) (wholeOf x y u v) S, ?_, cut_prop hw hd⟩
      unfold candOf
      rw [show cutsOf (2 * y) (2 * (v - y)) ((2 * j - 1) * g) ((2 * j + 1) * g) (wholeOf x y u v) = [cutAt (2 * y) (2 * (v - y)) (wholeOf x y u v) ((2 * j - 1) * g), cutAt (2 * y) (2 * (v - y)) (wholeOf x y u v) ((2 * j + 1) * g)] by unfold cutsOf; rw [if_neg hw]]
      rcases hS with rfl | rfl <;> simp
  show some (D.bl (!fd.isEmpty)) = _
  congr 2
  cases hc : cellB g x y u v i j with
  | true =>
    have := key.mpr hc
    cases fd with
    | nil => simp at this
    | cons _ _ => rfl
  | false =>
    cases fd with
    | nil => rfl
    | cons a l => have := key.mp (by simp); rw [hc] at this; cases this
/-! turned about, moved on -/
theorem cell_back {g x y u v i j : Int} : cellB g u v x y i j = cellB g x y u v i j := by
  have h : cellB g u v x y i j = true ↔ cellB g x y u v i j = true := by
    unfold cellB
    rw [metB_iff, metB_iff]
    have := meet_back (f := 2 * x) (w := 2 * (u - x)) (L := (2 * i - 1) * g) (H := (2 * i + 1) * g) (f' := 2 * y) (w' := 2 * (v - y)) (L' := (2 * j - 1) * g) (H' := (2 * j + 1) * g)
    rw [show 2 * x + 2 * (u - x) = 2 * u by omega, show -(2 * (u - x)) = 2 * (x - u) by omega, show 2 * y + 2 * (v - y) = 2 * v by omega, show -(2 * (v - y)) = 2 * (y - v) by omega] at this
    exact this
  cases a : cellB g u v x y i j <;> cases b : cellB g x y u v i j <;> simp_all
theorem cell_move {g x y u v i j a b : Int} : cellB g (x + a * g) (y + b * g) (u + a * g) (v + b * g) (i + a) (j + b) = cellB g x y u v i j := by
  have h : cellB g (x + a * g) (y + b * g) (u + a * g) (v + b * g) (i + a) (j + b) = true ↔ cellB g x y u v i j = true := by
    unfold cellB
    rw [metB_iff, metB_iff]
    have := meet_move (f := 2 * x) (w := 2 * (u - x)) (L := (2 * i - 1) * g) (H := (2 * i + 1) * g) (f' := 2 * y) (w' := 2 * (v - y)) (L' := (2 * j - 1) * g) (H' := (2 * j + 1) * g) (d := 2 * (a * g)) (e := 2 * (b * g))
    have r : ∀ k c : Int, (2 * (k + c) - 1) * g = (2 * k - 1) * g + 2 * (c * g) ∧ (2 * (k + c) + 1) * g = (2 * k + 1) * g + 2 * (c * g) := fun k c => by constructor <;> grind
    rw [(r i a).1, (r i a).2, (r j b).1, (r j b).2, show 2 * (x + a * g) = 2 * x + 2 * (a * g) by omega, show 2 * (y + b * g) = 2 * y + 2 * (b * g) by omega, show 2 * (u + a * g - (x + a * g)) = 2 * (u - x) by omega, show 2 * (v + b * g - (y + b * g)) = 2 * (v - y) by omega]
    exact this
  cases p : cellB g (x + a * g) (y + b * g) (u + a * g) (v + b * g) (i + a) (j + b) <;> cases q : cellB g x y u v i j <;> simp_all
theorem orle {a b : Int} {P Q : Prop} (p : P) (q : Q) : (a ≤ b ∧ P) ∨ (b < a ∧ Q) := (Int.lt_or_le b a).symm.imp (fun h => ⟨h, p⟩) (fun h => ⟨h, q⟩)
def Pr (g : Int) (b : Bool) (d : D) : Prop := ∃ x y u v i j : Int, d = .tup [ln x y u v, pt i j] ∧ x.natAbs ≤ 10000000 ∧ y.natAbs ≤ 10000000 ∧ u.natAbs ≤ 10000000 ∧ v.natAbs ≤ 10000000 ∧ i.natAbs ≤ 10000000 ∧ j.natAbs ≤ 10000000 ∧ cellB g x y u v i j = b
theorem moved1 {x y u v dx dy : Int} : F__law_moved [.tup [ln x y u v], .int dx, .int dy] = .ok (.tup [ln (x + dx) (y + dy) (u + dx) (v + dy)]) := by
  refine runP_of ?_
  unfold B__law_moved
  walk_at "v"
  simp [itemsOf, wipeD]
  refine W_compCons.mpr ⟨[some (.tup [ln x y u v]), some (.int dx), some (.int dy), some (.int x), some (.int y), some (.int u), some (.int v)], rfl, ?_⟩
  simp [W_mYes]
  walk_at "v"
  simp [bAdd, bTup, wipeD, W_compNil, bTuple, ln, pt]
theorem draw_is : F__law_draw = drawF := rfl
theorem deck_is : F__law_deck = runP 1 deckB := rfl
theorem grain_is : F__law_grain = runF [DKt] 0 grainB := rfl
theorem lines_is : F__law_lines = linesF := rfl
theorem cut_end {l : List D} {a : D} : cutD (l ++ [a]) (some (-1)) none = [a] := by
  have e : HT.sIx (l ++ [a]).length 0 (some (-1)) = l.length := by
    unfold HT.sIx
    simp
    omega
  unfold cutD
  rw [e, HT.sIx_none]
  simp
theorem far_step {dk : D} {Q : D → List D → Prop} (hd : Deck dk) (k : ∀ (x : Int) dk', x.natAbs ≤ 1000000 → Deck dk' → Q (.int x) [dk']) : ∃ r out, F__law_far [dk] = .ok (r, out) ∧ Q r out := by
  refine runF_ex ?_
  unfold B__law_far
  rw [draw_is]
  walk_at "v"
  simp [bPow, bMul, bAdd]
  refine draw_step hd (by omega) (by omega) fun w dk1 w0 w1 hd1 => ?_
  simp [bSub, backA]
  walk_at "n"; walk_at "v"
  simp [bPow, bNeg, bLst]
  refine draw_step hd1 (by omega) (by omega) fun z dk2 z0 z1 hd2 => ?_
  rcases (show z = 0 ∨ z = 1 ∨ z = 2 ∨ z = 3 by omega) with rfl | rfl | rfl | rfl <;> simp [bIx, atI, ixN, backA, outs] <;> exact k _ _ (by omega) hd2
set_option maxHeartbeats 0 in
theorem some_step {dk : D} {g : Int} {Q : D → List D → Prop} (hd : Deck dk) (g0 : 0 < g) (g1 : g ≤ 1000) (k : ∀ d dk', Ln 1000004 d → Deck dk' → Q d [dk', .int g]) : ∃ r out, F__law_some_line [dk, .int g] = .ok (r, out) ∧ Q r out := by
  refine runF_ex ?_
  unfold B__law_some_line
  rw [draw_is, lines_is]
  walk_at "v"
  simp
  refine draw_step hd (by omega) (by omega) fun w dk1 w0 w1 hd1 => ?_
  simp [backA, eq_int2]
  walk_at "n"; walk_at "v"
  have hr : range1 [.int 2] = some [.int 0, .int 1] := rfl
  simp [hr, wipeD, W_compCons, W_compNil, W_mYes, pN]
  walk_at "v"
  simp
  refine draw_step hd1 (by omega) (by omega) fun b0 dk2 b00 b01 hd2 => ?_
  simp [backA, bSub]
  refine draw_step hd2 (by omega) (by omega) fun b1 dk3 b10 b11 hd3 => ?_
  simp [backA, bSub]
  walk_at "n"; walk_at "v"
  simp
  refine draw_step hd3 (by omega) (by omega) fun m dk4 m0 m1 hd4 => ?_
  simp [backA, bAdd]
  refine lines_step hd4 g0 g1 (by omega) (by omega) fun ls dk5 hl hn hd5 => ?_
  simp [backA]
  walk_at "n"; walk_at "v"
  by_cases c : w = 5
  · simp [c, hr, wipeD, W_compCons, W_compNil, W_mYes, pN]
    walk_at "v"
    simp
    refine far_step hd5 fun x dk6 hx hd6 => ?_
    simp [backA]
    refine far_step hd6 fun y dk7 hy hd7 => ?_
    simp [backA, bTup]
    refine far_step hd7 fun u dk8 hu hd8 => ?_
    simp [backA]
    refine far_step hd8 fun v dk9 hv hd9 => ?_
    simp [backA, bTup]
    refine ⟨_, rfl, ?_⟩
    walk_at "n"; walk_at "v"
    have q0 : bIx (D.tup [D.int x, D.int y]) (.int 0) = some (.int x) := rfl
    have q1 : bIx (D.tup [D.int x, D.int y]) (.int 1) = some (.int y) := rfl
    have qe := eq_pt (x := x) (y := y) (u := u) (v := v)
    simp only [pt] at qe
    have e0 : ∀ a b : D, bIx (.lst [a, b]) (.int 0) = some a := fun a b => rfl
    have e1 : ∀ a b : D, bIx (.lst [a, b]) (.int 1) = some b := fun a b => rfl
    by_cases cx : x < 0 <;> by_cases ce : x = u ∧ y = v
    · obtain ⟨rfl, rfl⟩ := ce
      simp at qe
      simp [q0, q1, qe, bLt, cx, bInt, bNeg, bLst, bAdd, bTup, e0, e1, outs, Kq_ret]
      exact k _ _ ⟨x, y, x + 1, y, rfl, by omega, by omega, by omega, by omega, by omega⟩ hd9
    · simp [q0, q1, qe, bLt, cx, ce, bInt, bNeg, bLst, bAdd, bTup, e0, e1, outs, Kq_ret]
      exact k _ _ ⟨x, y, u, v, rfl, by omega, by omega, by omega, by omega, ce⟩ hd9
    · obtain ⟨rfl, rfl⟩ := ce
      simp at qe
      simp [q0, q1, qe, bLt, cx, bInt, bNeg, bLst, bAdd, bTup, e0, e1, outs, Kq_ret]
      exact k _ _ ⟨x, y, x + -1, y, rfl, by omega, by omega, by omega, by omega, by omega⟩ hd9
    · simp [q0, q1, qe, bLt, cx, ce, bInt, bNeg, bLst, bAdd, bTup, e0, e1, outs, Kq_ret]
      exact k _ _ ⟨x, y, u, v, rfl, by omega, by omega, by omega, by omega, ce⟩ hd9
  · simp [c]
    walk_at "n"; walk_at "v"
    have hne : ls ≠ [] := by intro h; rw [h] at hn; simp at hn; omega
    obtain ⟨l, a, rfl⟩ : ∃ l a, ls = l ++ [a] := ⟨ls.dropLast, ls.getLast hne, (List.dropLast_concat_getLast hne).symm⟩
    obtain ⟨x, y, u, v, rfl, h1, h2, h3, h4, h5⟩ := hl a (by simp)
    have e0 : ∀ a b : D, bIx (.lst [a, b]) (.int 0) = some a := fun a b => rfl
    have e1 : ∀ a b : D, bIx (.lst [a, b]) (.int 1) = some b := fun a b => rfl
    have e2 : ∀ a : D, bIx (.tup [a]) (.int 0) = some a := fun a => rfl
    simp [bNeg, bSl, cut_end, e0, e1, moved1, e2, outs]
    exact k _ _ ⟨_, _, _, _, rfl, by omega, by omega, by omega, by omega, by omega⟩ hd5
theorem nearest_ok {g n m : Int} (g0 : 0 < g) (g1 : g ≤ 1000) : ∃ a b : Int, F__law_nearest [.int g, .tup [.int n, .int m, .int 16]] = .ok (pt a b) := by
  have gm : g.natAbs < 18446744073709551616 := by omega
  have q : ¬ 2 * g * 16 = 0 := by omega
  have r : (2 * g * 16).natAbs < bigD := lt_bigD (by omega)
  refine ⟨(2 * n + g * 16).fdiv (2 * g * 16), (2 * m + g * 16).fdiv (2 * g * 16), runP_of ?_⟩
  unfold B__law_nearest
  walk_at "v"
  simp
  refine ⟨[some (.int g), some (.tup [.int n, .int m, .int 16]), some (.int n), some (.int m), some (.int 16)], rfl, ?_⟩
  walk_at "n"; walk_at "v"
  simp [bMul, bAdd, gm, bDiv, q, r, bTup, pt]
  try omega
set_option maxHeartbeats 0 in
theorem near_step {dk : D} {g x y u v : Int} {Q : D → List D → Prop} (hd : Deck dk) (g0 : 0 < g) (g1 : g ≤ 1000) (h1 : x.natAbs ≤ 1000004) (h2 : y.natAbs ≤ 1000004) (h3 : u.natAbs ≤ 1000004) (h4 : v.natAbs ≤ 1000004) (k : ∀ i j dk', i.natAbs ≤ 1000000 → j.natAbs ≤ 1000000 → Deck dk' → Q (pt i j) [dk', .int g, ln x y u v]) : ∃ r out, F__law_near [dk, .int g, ln x y u v] = .ok (r, out) ∧ Q r out := by
  have gm : g.natAbs < 18446744073709551616 := by omega
  refine runF_ex ?_
  unfold B__law_near
  rw [draw_is]
  walk_at "v"
  simp
  refine ⟨[some dk, some (.int g), some (ln x y u v), some (.int x), some (.int y), some (.int u), some (.int v), none, none, none], rfl, ?_⟩
  walk_at "n"; walk_at "v"
  simp
  refine draw_step hd (by omega) (by omega) fun w dk1 w0 w1 hd1 => ?_
  simp [backA]
  walk_at "n"; walk_at "v"
  have m1 : (16 - w).natAbs < 18446744073709551616 := by omega
  have m2 : w.natAbs < 18446744073709551616 := by omega
  simp [bSub, bMul, bAdd, m1, m2, bTup]
  obtain ⟨a, b, e⟩ := nearest_ok (g := g) (n := x * (16 - w) + u * w) (m := y * (16 - w) + v * w) g0 g1
  rw [e]
  refine ⟨_, rfl, [some dk1, some (.int g), some (ln x y u v), some (.int x), some (.int y), some (.int u), some (.int v), some (.int w), some (.int a), some (.int b)], rfl, ?_⟩
  walk_at "n"; walk_at "v"
  simp
  refine draw_step hd1 (by omega) (by omega) fun r dk2 r0 r1 hd2 => ?_
  simp [backA, bAdd, bSub]
  refine draw_step hd2 (by omega) (by omega) fun t dk3 t0 t1 hd3 => ?_
  simp [backA, bAdd, bSub]
  walk_at "n"; walk_at "v"
  simp [bPow, bNeg, bMax2, bMin2, bTup, outs]
  exact k _ _ _ (by omega) (by omega) hd3
end CLX

namespace CLX
open PySem PySem.Spec L2 CL
local macro_rules | `(tactic| walk_at "v") => `(tactic| simp only [W_sSeq, W_sIf, W_sRet, W_sExp, W_sAsg, W_sPar, W_sPar3, W_sK, W_mC, W_mV, W_m1, W_m2, W_mN, W_mL, W_mCons, W_mNil, W_mIf, W_mAnd, W_mOr, W_mChain, W_mCallP, W_mCall, W_mSl, W_mPtN, W_mPtS, W_mIt, W_mItN, W_mIxS, W_mComp, W_sFor, evA, pN, pT, psC, psN, fillA, backA])
local macro_rules | `(tactic| walk_at "n") => `(tactic| simp only [Kq_nx, Kq_ret, Kq_brk, Kq_cnt])
def B_is_whole : MS := (sRet (mAnd (m1 (bIsi "int") (mV 0)) (m1 bNot (m1 (bIsi "bool") (mV 0)))))
def F_is_whole : List D → Res D := runP 0 B_is_whole
def B_is_share : MS := (sRet (mAnd (mCallP F_is_whole (mCons (mV 0) mNil)) (mAnd (mCallP F_is_whole (mCons (mV 1) mNil)) (mAnd (m2 bGe (mV 1) (mC (.int 1))) (mChain bLe bLe (mC (.int 0)) (mV 0) (mV 1))))))
def F_is_share : List D → Res D := runP 0 B_is_share
def B_is_met_at : MS := (sSeq (sFor (pT 3 (psC (pN 5) (psC (pN 6) (psC (pN 7) psN)))) (mItN zip3 (mCons (m2 bIx (mV 1) (mC (.int 0))) (mCons (m2 bIx (mV 1) (mC (.int 1))) (mCons (mV 2) mNil)))) (sSeq (sAsg (pN 8) (m2 bMul (mC (.int 2)) (m2 bAdd (m2 bMul (mV 5) (m2 bSub (mV 4) (mV 3))) (m2 bMul (mV 6) (mV 3))))) (sIf (m1 bNot (mChain bLe bLt (m2 bMul (m2 bMul (m2 bSub (m2 bMul (mC (.int 2)) (mV 7)) (mC (.int 1))) (mV 0)) (mV 4)) (mV 8) (m2 bMul (m2 bMul (m2 bAdd (m2 bMul (mC (.int 2)) (mV 7)) (mC (.int 1))) (mV 0)) (mV 4)))) (sRet (mC (.bl false))) (sK .nx)))) (sRet (mC (.bl true))))
def F_is_met_at : List D → Res D := runP 4 B_is_met_at
def B_is_missed_by : MS := (sSeq (sIf (m1 bNot (mN bAll (mCons (mComp [11, 12] (pT 2 (psC (pN 11) (psC (pN 12) psN))) (mIt (mV 1)) mYes (m2 bGe (m2 bMul (mC (.int 2)) (m2 bAdd (m2 bMul (mV 3) (mV 11)) (m2 bMul (mV 4) (mV 12)))) (mV 5))) mNil))) (sRet (mC (.bl false))) (sK .nx)) (sSeq (sAsg (pT 2 (psC (pN 6) (psC (pN 7) psN))) (mV 2)) (sSeq (sAsg (pN 8) (mN bLst (mCons (m2 bMul (m2 bMul (mV 3) (m2 bSub (m2 bMul (mC (.int 2)) (mV 6)) (mC (.int 1)))) (mV 0)) (mCons (m2 bMul (m2 bMul (mV 3) (m2 bAdd (m2 bMul (mC (.int 2)) (mV 6)) (mC (.int 1)))) (mV 0)) mNil)))) (sSeq (sAsg (pN 9) (mN bLst (mCons (m2 bMul (m2 bMul (mV 4) (m2 bSub (m2 bMul (mC (.int 2)) (mV 7)) (mC (.int 1)))) (mV 0)) (mCons (m2 bMul (m2 bMul (mV 4) (m2 bAdd (m2 bMul (mC (.int 2)) (mV 7)) (mC (.int 1)))) (mV 0)) mNil)))) (sSeq (sAsg (pN 10) (m2 bAdd (mN bMax1 (mCons (mV 8) mNil)) (mN bMax1 (mCons (mV 9) mNil)))) (sRet (mOr (m2 bLt (mV 10) (mV 5)) (mAnd (m2 bEq (mV 10) (mV 5)) (mOr (m2 bGt (mV 3) (mC (.int 0))) (m2 bGt (mV 4) (mC (.int 0))))))))))))
def F_is_missed_by : List D → Res D := runP 7 B_is_missed_by
def B_meets_holds : MS := (sSeq (sIf (mOr (m1 bNot (m1 (bIsi "tuple") (mV 3))) (mOr (m2 bEq (mV 3) (mN bTup mNil)) (m1 bNot (m1 (bIsi "str") (m2 bIx (mV 3) (mC (.int 0))))))) (sRet (mC (.bl false))) (sK .nx)) (sSeq (sIf (mAnd (m2 bEq (m2 bIx (mV 3) (mC (.int 0))) (mC (.str "meets"))) (m2 bEq (mN bLen (mCons (mV 3) mNil)) (mC (.int 3)))) (sRet (mAnd (mCallP F_is_share (mCons (m2 bIx (mV 3) (mC (.int 1))) (mCons (m2 bIx (mV 3) (mC (.int 2))) mNil))) (mCallP F_is_met_at (mCons (mV 0) (mCons (mV 1) (mCons (mV 2) (mCons (m2 bIx (mV 3) (mC (.int 1))) (mCons (m2 bIx (mV 3) (mC (.int 2))) mNil)))))))) (sK .nx)) (sSeq (sIf (mOr (m2 bNe (m2 bIx (mV 3) (mC (.int 0))) (mC (.str "misses"))) (mOr (m2 bNe (mN bLen (mCons (mV 3) mNil)) (mC (.int 4))) (m1 bNot (mN bAll (mCons (mComp [8] (pN 8) (mIt (mSl (mV 3) (some (mC (.int 1))) none)) mYes (mCallP F_is_whole (mCons (mV 8) mNil))) mNil))))) (sRet (mC (.bl false))) (sK .nx)) (sSeq (sAsg (pT 4 (psC (pN 4) (psC (pN 5) (psC (pN 6) (psC (pN 7) psN))))) (mV 3)) (sRet (mAnd (m2 bNe (mN bTup (mCons (mV 5) (mCons (mV 6) mNil))) (mN bTup (mCons (mC (.int 0)) (mCons (mC (.int 0)) mNil)))) (mCallP F_is_missed_by (mCons (mV 0) (mCons (mV 1) (mCons (mV 2) (mCons (mV 5) (mCons (mV 6) (mCons (mV 7) mNil)))))))))))))
def F_meets_holds : List D → Res D := runP 5 B_meets_holds
def B__law_is_whole : MS := (sRet (mAnd (m1 (bIsi "int") (mV 0)) (m1 bNot (m1 (bIsi "bool") (mV 0)))))
def F__law_is_whole : List D → Res D := runP 0 B__law_is_whole
def B__law_is_paper : MS := (sSeq (sIf (mOr (m1 bNot (m1 (bIsi "tuple") (mV 3))) (mOr (m2 bEq (mV 3) (mN bTup mNil)) (m1 bNot (m1 (bIsi "str") (m2 bIx (mV 3) (mC (.int 0))))))) (sRet (mC (.bl false))) (sK .nx)) (sSeq (sIf (m2 bNe (mComp [14] (pN 14) (mIt (mSl (mV 3) (some (mC (.int 1))) none)) (m1 bNot (mCallP F__law_is_whole (mCons (mV 14) mNil))) (mV 14)) (mN bLst mNil)) (sRet (mC (.bl false))) (sK .nx)) (sSeq (sAsg (pN 4) (mComp [5] (pN 5) (mIt (mV 2)) mYes (mN bTup (mCons (m2 bMul (m2 bSub (m2 bMul (mC (.int 2)) (mV 5)) (mC (.int 1))) (mV 0)) (mCons (m2 bMul (m2 bAdd (m2 bMul (mC (.int 2)) (mV 5)) (mC (.int 1))) (mV 0)) mNil))))) (sSeq (sIf (mAnd (m2 bEq (m2 bIx (mV 3) (mC (.int 0))) (mC (.str "meets"))) (m2 bEq (mN bLen (mCons (mV 3) mNil)) (mC (.int 3)))) (sSeq (sAsg (pT 2 (psC (pN 5) (psC (pN 6) psN))) (mSl (mV 3) (some (mC (.int 1))) none)) (sSeq (sAsg (pN 7) (mComp [15, 16] (pT 2 (psC (pN 15) (psC (pN 16) psN))) (mItN zip2 (mCons (m2 bIx (mV 1) (mC (.int 0))) (mCons (m2 bIx (mV 1) (mC (.int 1))) mNil))) mYes (m2 bAdd (m2 bMul (m2 bMul (mC (.int 2)) (mV 15)) (mV 6)) (m2 bMul (m2 bMul (mC (.int 2)) (m2 bSub (mV 16) (mV 15))) (mV 5))))) (sSeq (sAsg (pN 8) (mComp [14, 17] (pT 2 (psC (pN 14) (psC (pN 17) psN))) (mItN zip2 (mCons (mV 7) (mCons (mV 4) mNil))) mYes (mChain bLe bLt (m2 bMul (m2 bIx (mV 17) (mC (.int 0))) (mV 6)) (mV 14) (m2 bMul (m2 bIx (mV 17) (mC (.int 1))) (mV 6))))) (sRet (mAnd (m2 bGt (mV 6) (mC (.int 0))) (mAnd (mChain bLe bLe (mC (.int 0)) (mV 5) (mV 6)) (m2 bEq (mV 8) (mN bLst (mCons (mC (.bl true)) (mCons (mC (.bl true)) mNil)))))))))) (sK .nx)) (sSeq (sIf (mOr (m2 bNe (m2 bIx (mV 3) (mC (.int 0))) (mC (.str "misses"))) (mOr (m2 bNe (mN bLen (mCons (mV 3) mNil)) (mC (.int 4))) (mAnd (m2 bEq (m2 bIx (mV 3) (mC (.int 1))) (mC (.int 0))) (m2 bEq (m2 bIx (mV 3) (mC (.int 2))) (mC (.int 0)))))) (sRet (mC (.bl false))) (sK .nx)) (sSeq (sAsg (pT 4 (psC (pN 9) (psC (pN 10) (psC (pN 11) (psC (pN 12) psN))))) (mV 3)) (sSeq (sIf (m2 bNe (mComp [18, 19] (pT 2 (psC (pN 18) (psC (pN 19) psN))) (mIt (mV 1)) (m2 bLt (m2 bAdd (m2 bMul (m2 bMul (mC (.int 2)) (mV 10)) (mV 18)) (m2 bMul (m2 bMul (mC (.int 2)) (mV 11)) (mV 19))) (mV 12)) (mC (.int 1))) (mN bLst mNil)) (sRet (mC (.bl false))) (sK .nx)) (sSeq (sAsg (pN 13) (m2 bAdd (m2 bMul (mV 10) (m2 bIx (m2 bIx (mV 4) (mC (.int 0))) (mN bInt (mCons (m2 bGt (mV 10) (mC (.int 0))) mNil)))) (m2 bMul (mV 11) (m2 bIx (m2 bIx (mV 4) (mC (.int 1))) (mN bInt (mCons (m2 bGt (mV 11) (mC (.int 0))) mNil)))))) (sRet (mOr (m2 bLt (mV 13) (mV 12)) (mAnd (m2 bEq (mV 13) (mV 12)) (mOr (m2 bGt (mV 10) (mC (.int 0))) (m2 bGt (mV 11) (mC (.int 0)))))))))))))))
def F__law_is_paper : List D → Res D := runP 16 B__law_is_paper
def isInt : D → Bool
  | .int _ => true
  | _ => false
def isStr : D → Bool
  | .str _ => true
  | _ => false
theorem isi_of {c : String} {d : D} {t : String} {b : Bool} (h : d.ty = some t) (k : kitB t c = some b) : bIsi c d = some (.bl b) := by
  simp [bIsi, h, k]
theorem isi_bool {b : Bool} : bIsi "bool" (.bl b) = some (.bl true) := isi_of rfl (by decide +kernel)
def Nn (d : D) : Prop := ∀ c ns fs, d ≠ .ins c ns fs
theorem Nn_dt {d : D} (h : d.dt = true) : Nn d := fun c ns fs e => by rw [e] at h; simp [D.dt] at h
theorem Nn_int {k : Int} : Nn (.int k) := fun _ _ _ e => by cases e
theorem Nn_str {k : Str} : Nn (.str k) := fun _ _ _ e => by cases e
theorem Nn_tup {k : List D} : Nn (.tup k) := fun _ _ _ e => by cases e
theorem whole_eq {d : D} (h : Nn d) : F_is_whole [d] = .ok (.bl (isInt d)) ∧ F__law_is_whole [d] = .ok (.bl (isInt d)) := by
  have key : W (sRet (mAnd (m1 (bIsi "int") (mV 0)) (m1 bNot (m1 (bIsi "bool") (mV 0))))) [some d] fun f _ => f = .ret (.bl (isInt d)) := by
    walk_at "v"
    cases d with
    | non => simp [isi_of (d := D.non) (c := "int") (b := false) rfl (by decide +kernel), isInt]
    | bl b => simp [isi_of (d := D.bl b) (c := "int") (b := true) rfl (by decide +kernel), isi_of (d := D.bl b) (c := "bool") (b := true) rfl (by decide +kernel), isInt, bNot]
    | int b => simp [isi_of (d := D.int b) (c := "int") (b := true) rfl (by decide +kernel), isi_of (d := D.int b) (c := "bool") (b := false) rfl (by decide +kernel), isInt, bNot]
    | str b => simp [isi_of (d := D.str b) (c := "int") (b := false) rfl (by decide +kernel), isInt]
    | tup b => simp [isi_of (d := D.tup b) (c := "int") (b := false) rfl (by decide +kernel), isInt]
    | lst b => simp [isi_of (d := D.lst b) (c := "int") (b := false) rfl (by decide +kernel), isInt]
    | scr b => simp [isi_of (d := D.scr b) (c := "int") (b := false) rfl (by decide +kernel), isInt]
    | dct a b => simp [isi_of (d := D.dct a b) (c := "int") (b := false) rfl (by decide +kernel), isInt]
    | ins _ _ _ => exact absurd rfl (h _ _ _)
  exact ⟨runP_of key, runP_of key⟩
def isTup : D → Bool
  | .tup _ => true
  | _ => false
theorem isi_str {d : D} (h : Nn d) : bIsi "str" d = some (.bl (isStr d)) := by
  cases d with
  | ins _ _ _ => exact absurd rfl (h _ _ _)
  | str b => exact isi_of (b := true) rfl (by decide +kernel)
  | _ => exact isi_of (b := false) rfl (by decide +kernel)
theorem isi_tup {d : D} (h : Nn d) : bIsi "tuple" d = some (.bl (isTup d)) := by
  cases d with
  | ins _ _ _ => exact absurd rfl (h _ _ _)
  | tup b => exact isi_of (b := true) rfl (by decide +kernel)
  | _ => exact isi_of (b := false) rfl (by decide +kernel)
theorem eq_str {a b : Str} : bEq (.str a) (.str b) = some (.bl (decide (a = b))) := by
  simp [bEq, D.okB, D.eqv, D.py, PyData.eqv]
theorem ne_str {a b : Str} : bNe (.str a) (.str b) = some (.bl (!decide (a = b))) := by
  simp [bNe, D.okB, D.eqv, D.py, PyData.eqv]
theorem eq_tup0 {l : List D} : bEq (.tup l) (.tup []) = some (.bl l.isEmpty) := rfl
theorem ne_lst0 {l : List D} : bNe (.lst l) (.lst []) = some (.bl (!l.isEmpty)) := rfl
def inI (g a b n k m : Int) : Bool := decide ((2 * n - 1) * g * m ≤ 2 * (a * (m - k) + b * k)) && decide (2 * (a * (m - k) + b * k) < (2 * n + 1) * g * m)
def metI (g x y u v i j k m : Int) : Bool := decide (1 ≤ m) && (decide (0 ≤ k) && decide (k ≤ m)) && (inI g x u i k m && inI g y v j k m)
def topI (g i p : Int) : Int := max (p * (2 * i - 1) * g) (p * (2 * i + 1) * g)
def missI (g x y u v i j p q r : Int) : Bool := !decide (p = 0 ∧ q = 0) && (decide (r ≤ 2 * (p * x + q * y)) && decide (r ≤ 2 * (p * u + q * v))) && (decide (topI g i p + topI g j q < r) || (decide (topI g i p + topI g j q = r) && (decide (0 < p) || decide (0 < q))))
def paperP (g x y u v i j : Int) : D → Bool
  | .tup [.str w, .int k, .int m] => decide (w = "meets") && metI g x y u v i j k m
  | .tup [.str w, .int p, .int q, .int r] => decide (w = "misses") && missI g x y u v i j p q r
  | _ => false
theorem share_eq {k m : Int} : F_is_share [.int k, .int m] = .ok (.bl (decide (1 ≤ m) && (decide (0 ≤ k) && decide (k ≤ m)))) := by
  refine runP_of ?_
  unfold B_is_share
  walk_at "v"
  simp [(whole_eq (d := .int k) Nn_int).1, (whole_eq (d := .int m) Nn_int).1, isInt, bGe, bLe]
  by_cases h : 1 ≤ m <;> by_cases h' : 0 ≤ k <;> simp [h, h'] <;> omega
def metR : MS := (sSeq (sAsg (pN 8) (m2 bMul (mC (.int 2)) (m2 bAdd (m2 bMul (mV 5) (m2 bSub (mV 4) (mV 3))) (m2 bMul (mV 6) (mV 3))))) (sIf (m1 bNot (mChain bLe bLt (m2 bMul (m2 bMul (m2 bSub (m2 bMul (mC (.int 2)) (mV 7)) (mC (.int 1))) (mV 0)) (mV 4)) (mV 8) (m2 bMul (m2 bMul (m2 bAdd (m2 bMul (mC (.int 2)) (mV 7)) (mC (.int 1))) (mV 0)) (mV 4)))) (sRet (mC (.bl false))) (sK .nx)))
theorem met_row {g a b n k m : Int} {o1 o2 o8 : Option D} {Q : Fl → Sl → Prop} (hg : g.natAbs ≤ 1000) (ha : a.natAbs ≤ 10000000) (hb : b.natAbs ≤ 10000000) (hn : n.natAbs ≤ 10000000)
    (h0 : inI g a b n k m = false → ∀ ρ, Q (.ret (.bl false)) ρ) (h1 : inI g a b n k m = true → ∀ o, Q .nx [some (.int g), o1, o2, some (.int k), some (.int m), some (.int a), some (.int b), some (.int n), o]) :
    W metR [some (.int g), o1, o2, some (.int k), some (.int m), some (.int a), some (.int b), some (.int n), o8] Q := by
  have gm : g.natAbs < 18446744073709551616 := by omega
  obtain ⟨r1, r2⟩ : ((2 * n - 1) * g).natAbs < 18446744073709551616 ∧ ((2 * n + 1) * g).natAbs < 18446744073709551616 := by
    have := rim_lt (g := g) (k := n) hg hn
    omega
  have am : a.natAbs < 18446744073709551616 := by omega
  have bm : b.natAbs < 18446744073709551616 := by omega
  unfold metR
  walk_at "v"
  simp [bMul, bSub, bAdd, am, bm, gm]
  walk_at "n"; walk_at "v"
  simp [bMul, bSub, bAdd, gm, r1, r2, bLe, bLt, bNot]
  unfold inI at h0 h1
  by_cases c1 : (2 * n - 1) * g * m ≤ 2 * (a * (m - k) + b * k)
  · by_cases c2 : 2 * (a * (m - k) + b * k) < (2 * n + 1) * g * m
    · exact .inl ⟨c1, .inr ⟨c2, h1 (by simp [c1, c2]) _⟩⟩
    · exact .inl ⟨c1, .inl ⟨by omega, h0 (by simp [c1, c2]) _⟩⟩
  · exact .inr ⟨by omega, h0 (by simp [c1]) _⟩
theorem met_eq {g x y u v i j k m : Int} (hg : g.natAbs ≤ 1000) (hx : x.natAbs ≤ 10000000) (hy : y.natAbs ≤ 10000000) (hu : u.natAbs ≤ 10000000) (hv : v.natAbs ≤ 10000000) (hi : i.natAbs ≤ 10000000) (hj : j.natAbs ≤ 10000000) :
    F_is_met_at [.int g, ln x y u v, pt i j, .int k, .int m] = .ok (.bl (inI g x u i k m && inI g y v j k m)) := by
  refine runP_of ?_
  have e : B_is_met_at = (sSeq (sFor (pT 3 (psC (pN 5) (psC (pN 6) (psC (pN 7) psN)))) (mItN zip3 (mCons (m2 bIx (mV 1) (mC (.int 0))) (mCons (m2 bIx (mV 1) (mC (.int 1))) (mCons (mV 2) mNil)))) metR) (sRet (mC (.bl true)))) := rfl
  rw [e]
  walk_at "v"
  have l0 : bIx (ln x y u v) (.int 0) = some (pt x y) := rfl
  have l1 : bIx (ln x y u v) (.int 1) = some (pt u v) := rfl
  have z3 : zip3 [pt x y, pt u v, pt i j] = some [.tup [.int x, .int u, .int i], .tup [.int y, .int v, .int j]] := rfl
  simp [l0, l1, z3]
  refine W_forCons.mpr ⟨[some (.int g), some (ln x y u v), some (pt i j), some (.int k), some (.int m), some (.int x), some (.int u), some (.int i), none], rfl, ?_⟩
  refine met_row hg hx hu hi (fun h ρ => ?_) fun h o => ?_
  · simp [h, Kq_ret]
  · refine .inl ⟨.inl rfl, ?_⟩
    refine W_forCons.mpr ⟨[some (.int g), some (ln x y u v), some (pt i j), some (.int k), some (.int m), some (.int y), some (.int v), some (.int j), o], rfl, ?_⟩
    refine met_row hg hy hv hj (fun h' ρ => ?_) fun h' o' => ?_
    · simp [h', Kq_ret]
    · refine .inl ⟨.inl rfl, W_forNil.mpr ?_⟩
      walk_at "n"; walk_at "v"
      simp [h, h']
theorem missed_eq {g x y u v i j p q r : Int} (g0 : 0 < g) (hg : g.natAbs ≤ 1000) (hx : x.natAbs ≤ 10000000) (hy : y.natAbs ≤ 10000000) (hu : u.natAbs ≤ 10000000) (hv : v.natAbs ≤ 10000000) (hi : i.natAbs ≤ 10000000) (hj : j.natAbs ≤ 10000000) :
    F_is_missed_by [.int g, ln x y u v, pt i j, .int p, .int q, .int r] = .ok (.bl ((decide (r ≤ 2 * (p * x + q * y)) && decide (r ≤ 2 * (p * u + q * v))) && (decide (topI g i p + topI g j q < r) || (decide (topI g i p + topI g j q = r) && (decide (0 < p) || decide (0 < q)))))) := by
  have gm : g.natAbs < 18446744073709551616 := by omega
  have m : ∀ z : Int, z.natAbs ≤ 10000000 → z.natAbs < 18446744073709551616 ∧ (2 * z - 1).natAbs < 18446744073709551616 ∧ (2 * z + 1).natAbs < 18446744073709551616 := fun z hz => by omega
  refine runP_of ?_
  unfold B_is_missed_by
  walk_at "v"
  have it : itemsOf (ln x y u v) = some [pt x y, pt u v] := rfl
  simp [it, wipeD]
  refine W_compCons.mpr ⟨[some (.int g), some (ln x y u v), some (pt i j), some (.int p), some (.int q), some (.int r), none, none, none, none, none, some (.int x), some (.int y)], rfl, ?_⟩
  simp [W_mYes]
  walk_at "v"
  simp [bMul, bAdd, m x hx, m y hy, bGe, wipeD]
  refine W_compCons.mpr ⟨[some (.int g), some (ln x y u v), some (pt i j), some (.int p), some (.int q), some (.int r), none, none, none, none, none, some (.int u), some (.int v)], rfl, ?_⟩
  simp [W_mYes]
  walk_at "v"
  simp [bMul, bAdd, m u hu, m v hv, bGe, wipeD, W_compNil, bAll, blsOf, bNot]
  by_cases c : r ≤ 2 * (p * x + q * y) ∧ r ≤ 2 * (p * u + q * v)
  · refine .inr ⟨c, ?_⟩
    simp only [c.1, c.2, decide_true, Bool.true_and]
    walk_at "n"; walk_at "v"
    simp
    refine ⟨[some (.int g), some (ln x y u v), some (pt i j), some (.int p), some (.int q), some (.int r), some (.int i), some (.int j), none, none, none, none, none], rfl, ?_⟩
    walk_at "n"; walk_at "v"
    simp [bMul, bSub, bAdd, gm, m i hi, bLst]
    walk_at "n"; walk_at "v"
    simp [bMul, bSub, bAdd, gm, m j hj, bLst]
    walk_at "n"; walk_at "v"
    simp [bMax1, intsOf, maxL, bAdd]
    walk_at "n"; walk_at "v"
    simp [bLt, bGt, eq_int2]
    unfold topI
    generalize max (p * (2 * i - 1) * g) (p * (2 * i + 1) * g) + max (q * (2 * j - 1) * g) (q * (2 * j + 1) * g) = G
    by_cases c1 : G < r <;> by_cases c2 : G = r <;> by_cases c3 : 0 < p <;> simp [c1, c2, c3] <;> omega
  · refine .inl ⟨by omega, ?_⟩
    rw [Kq_ret]
    by_cases c1 : r ≤ 2 * (p * x + q * y)
    · simp [show ¬ r ≤ 2 * (p * u + q * v) from fun z => c ⟨c1, z⟩]
    · simp [c1]
theorem gate {d : D} (h : Nn d) (h' : ∀ l, d = .tup l → ∀ z ∈ l, Nn z) : (∃ w l, d = .tup (.str w :: l)) ∨ ((∀ w l, d ≠ .tup (.str w :: l)) ∧ ∀ (s t : MS) (o0 o1 o2 : Option D) (r : Sl) (Q : Fl → Sl → Prop), (Q (.ret (.bl false)) (o0 :: o1 :: o2 :: some d :: r)) → W (sSeq (sIf (mOr (m1 bNot (m1 (bIsi "tuple") (mV 3))) (mOr (m2 bEq (mV 3) (mN bTup mNil)) (m1 bNot (m1 (bIsi "str") (m2 bIx (mV 3) (mC (.int 0))))))) (sRet (mC (.bl false))) (sK .nx)) t) (o0 :: o1 :: o2 :: some d :: r) Q) := by
  cases d with
  | tup l =>
    cases l with
    | nil =>
      refine .inr ⟨fun w l e => (by cases e), fun s t o0 o1 o2 r Q q => ?_⟩
      walk_at "v"
      simp [isi_tup h, isTup, bNot, bTup, eq_tup0, Kq_ret]
      exact q
    | cons a l =>
      cases hs : isStr a with
      | true =>
        cases a with
        | str w => exact .inl ⟨w, l, rfl⟩
        | _ => cases hs
      | false =>
        refine .inr ⟨fun w l' e => (by cases e; cases hs), fun s t o0 o1 o2 r Q q => ?_⟩
        have i0 : bIx (.tup (a :: l)) (.int 0) = some a := by simp [bIx, atI, ixN]
        walk_at "v"
        simp [isi_tup h, isTup, bNot, bTup, eq_tup0, i0, isi_str (h' _ rfl a (by simp)), hs, Kq_ret]
        exact q
  | _ =>
    refine .inr ⟨fun w l e => (by cases e), fun s t o0 o1 o2 r Q q => ?_⟩
    walk_at "v"
    simp [isi_tup h, isTup, bNot, Kq_ret]
    exact q
theorem paperP_off {g x y u v i j : Int} {d : D} (h : ∀ w l, d ≠ .tup (.str w :: l)) : paperP g x y u v i j d = false := by
  unfold paperP
  split
  · exact absurd rfl (h _ _)
  · exact absurd rfl (h _ _)
  · rfl
theorem share_off {a b : D} (ha : Nn a) (hb : Nn b) (h : (isInt a && isInt b) = false) : F_is_share [a, b] = .ok (.bl false) := by
  refine runP_of ?_
  unfold B_is_share
  walk_at "v"
  simp [(whole_eq ha).1, (whole_eq hb).1]
  cases h1 : isInt a with
  | false => simp
  | true => simp [h1] at h; simp [h]
theorem pick {A B X K : Prop} (n : ¬ (A ∧ B)) (k : K) : (A ∧ ((B ∧ X) ∨ (¬ B ∧ K))) ∨ (¬ A ∧ K) := by
  by_cases a : A
  · exact .inl ⟨a, .inr ⟨fun b => n ⟨a, b⟩, k⟩⟩
  · exact .inr ⟨a, k⟩
theorem paperP_no {g x y u v i j : Int} {w : Str} {l : List D} (h1 : ¬ (w = "meets" ∧ l.length = 2)) (h2 : ¬ (w = "misses" ∧ l.length = 3)) : paperP g x y u v i j (.tup (.str w :: l)) = false := by
  unfold paperP
  split
  · rename_i e; cases e
    simp [show ¬ w = Str.ofString "meets" from fun z => h1 ⟨z, rfl⟩]
  · rename_i e; cases e
    simp [show ¬ w = Str.ofString "misses" from fun z => h2 ⟨z, rfl⟩]
  · rfl
theorem paperP_ni {g x y u v i j : Int} {w : Str} {l : List D} (h : l.all isInt = false) : paperP g x y u v i j (.tup (.str w :: l)) = false := by
  unfold paperP
  split
  · rename_i e; cases e; simp [isInt] at h
  · rename_i e; cases e; simp [isInt] at h
  · rfl
theorem comp_whole {o0 o1 o2 o3 o4 o5 o6 o7 : Option D} : ∀ {l : List D} {QL : List D → Sl → Prop}, (∀ x ∈ l, Nn x) → QL (l.map fun x => .bl (isInt x)) [o0, o1, o2, o3, o4, o5, o6, o7, none] → W (compL [8] (pN 8) mYes (mCallP F_is_whole (mCons (mV 8) mNil)) l) [o0, o1, o2, o3, o4, o5, o6, o7, none] QL
  | [], QL, _, q => W_compNil.mpr q
  | x :: l, QL, h, q => by
    refine W_compCons.mpr ⟨[o0, o1, o2, o3, o4, o5, o6, o7, some x], rfl, ?_⟩
    simp [W_mYes]
    walk_at "v"
    simp [(whole_eq (h x (by simp))).1, wipeD]
    exact comp_whole (fun y hy => h y (by simp [hy])) (by simpa using q)
theorem isInt_ex {d : D} (h : isInt d = true) : ∃ k, d = .int k := by cases d <;> first | exact ⟨_, rfl⟩ | cases h
set_option maxHeartbeats 0 in
theorem holds_eq {g x y u v i j : Int} {d : D} (g0 : 0 < g) (hg : g.natAbs ≤ 1000) (hx : x.natAbs ≤ 10000000) (hy : y.natAbs ≤ 10000000) (hu : u.natAbs ≤ 10000000) (hv : v.natAbs ≤ 10000000) (hi : i.natAbs ≤ 10000000) (hj : j.natAbs ≤ 10000000) (h : Nn d) (h' : ∀ l, d = .tup l → ∀ z ∈ l, Nn z) :
    F_meets_holds [.int g, ln x y u v, pt i j, d] = .ok (.bl (paperP g x y u v i j d)) := by
  refine runP_of ?_
  unfold B_meets_holds
  rcases gate h h' with ⟨w, l, rfl⟩ | ⟨hn, hk⟩
  · have hl : ∀ z ∈ l, Nn z := fun z hz => h' _ rfl z (by simp [hz])
    have i0 : bIx (.tup (.str w :: l)) (.int 0) = some (.str w) := by simp [bIx, atI, ixN]
    walk_at "v"
    simp [isi_tup h, isTup, bNot, bTup, eq_tup0, i0, isi_str (Nn_str (k := w)), isStr]
    walk_at "n"; walk_at "v"
    simp [i0, eq_str, bLen, eq_int2]
    by_cases c : w = "meets" ∧ l.length = 2
    · obtain ⟨rfl, c2⟩ := c
      obtain ⟨a, b, rfl⟩ : ∃ a b, l = [a, b] := by
        match l, c2 with
        | [a, b], _ => exact ⟨a, b, rfl⟩
      have i1 : ∀ z : D, bIx (.tup [z, a, b]) (.int 1) = some a := fun z => rfl
      have i2 : ∀ z : D, bIx (.tup [z, a, b]) (.int 2) = some b := fun z => rfl
      simp [i1, i2]
      have na := hl a (by simp)
      have nb := hl b (by simp)
      cases hab : isInt a && isInt b with
      | false =>
        simp [share_off na nb hab, Kq_ret]
        unfold paperP
        split
        · rename_i e; cases e; cases hab
        · rename_i e; cases e
        · rfl
      | true =>
        simp at hab
        obtain ⟨k, rfl⟩ := isInt_ex hab.1
        obtain ⟨m, rfl⟩ := isInt_ex hab.2
        simp [share_eq, met_eq hg hx hy hu hv hi hj, Kq_ret]
        simp only [paperP, metI]
        by_cases c : 1 ≤ m ∧ 0 ≤ k ∧ k ≤ m
        · exact .inl ⟨c, by simp [c.1, c.2.1, c.2.2]⟩
        · refine .inr ⟨fun a b => by omega, ?_⟩
          by_cases c1 : 1 ≤ m
          · by_cases c2 : 0 ≤ k
            · simp [show ¬ k ≤ m from fun z => c ⟨c1, c2, z⟩]
            · simp [c2]
          · simp [c1]
    · refine pick (fun z => c ⟨z.1, by omega⟩) ?_
      walk_at "n"; walk_at "v"
      simp [i0, ne_str, bLen, ne_int2]
      by_cases cw : w = "misses"
      · subst cw
        simp
        by_cases c4 : l.length = 3
        · obtain ⟨a, b, e, rfl⟩ : ∃ a b e, l = [a, b, e] := by
            match l, c4 with
            | [a, b, e], _ => exact ⟨a, b, e, rfl⟩
          have ct : cutD [D.str (Str.ofString "misses"), a, b, e] (some 1) none = [a, b, e] := rfl
          simp [bSl, ct, itemsOf, wipeD]
          refine comp_whole hl ?_
          cases hab : [a, b, e].all isInt with
          | false =>
            have hab' := hab
            simp only [List.all_cons, List.all_nil, Bool.and_true] at hab'
            simp [bAll, blsOf, bNot, hab', Kq_ret]
            exact paperP_ni hab
          | true =>
            simp at hab
            obtain ⟨p, rfl⟩ := isInt_ex hab.1
            obtain ⟨q, rfl⟩ := isInt_ex hab.2.1
            obtain ⟨r, rfl⟩ := isInt_ex hab.2.2
            simp [bAll, blsOf, bNot, isInt]
            walk_at "n"; walk_at "v"
            simp
            refine ⟨[some (.int g), some (ln x y u v), some (pt i j), some (.tup [.str "misses", .int p, .int q, .int r]), some (.str "misses"), some (.int p), some (.int q), some (.int r), none], rfl, ?_⟩
            walk_at "n"; walk_at "v"
            have nz := ne_pt (x := p) (y := q) (u := 0) (v := 0)
            simp only [pt] at nz
            simp [bTup, nz, missed_eq g0 hg hx hy hu hv hi hj]
            simp only [paperP, missI]
            by_cases z : p = 0 ∧ q = 0
            · exact .inr ⟨z, by simp [z.1, z.2]⟩
            · refine .inl ⟨Classical.not_and_iff_not_or_not.mp z, ?_⟩
              simp only [z, decide_true, decide_false, Bool.not_false, Bool.true_and]
        · refine .inl ⟨by omega, ?_⟩
          rw [Kq_ret, paperP_no c fun z => c4 z.2]
      · refine .inl ⟨cw, ?_⟩
        rw [Kq_ret, paperP_no c fun z => cw z.1]
  · rw [paperP_off hn]
    exact hk (sK .nx) _ _ _ _ _ _ rfl
theorem comp_off {o0 o1 o2 o3 o4 o5 o6 o7 o8 o9 o10 o11 o12 o13 o15 o16 o17 o18 o19 : Option D} : ∀ {l : List D} {QL : List D → Sl → Prop}, (∀ x ∈ l, Nn x) → QL (l.filter fun x => !isInt x) [o0, o1, o2, o3, o4, o5, o6, o7, o8, o9, o10, o11, o12, o13, none, o15, o16, o17, o18, o19] → W (compL [14] (pN 14) (m1 bNot (mCallP F__law_is_whole (mCons (mV 14) mNil))) (mV 14) l) [o0, o1, o2, o3, o4, o5, o6, o7, o8, o9, o10, o11, o12, o13, none, o15, o16, o17, o18, o19] QL
  | [], QL, _, q => W_compNil.mpr q
  | x :: l, QL, h, q => by
    refine W_compCons.mpr ⟨[o0, o1, o2, o3, o4, o5, o6, o7, o8, o9, o10, o11, o12, o13, some x, o15, o16, o17, o18, o19], rfl, ?_⟩
    walk_at "v"
    simp [(whole_eq (h x (by simp))).2, bNot, wipeD]
    cases hx : isInt x with
    | true =>
      simp
      exact comp_off (fun y hy => h y (by simp [hy])) (by simpa [List.filter_cons, hx] using q)
    | false =>
      simp
      refine comp_off (fun y hy => h y (by simp [hy])) ?_
      simpa [List.filter_cons, hx] using q
theorem bb_eq {a b : Bool} : bEq (.lst [.bl a, .bl b]) (.lst [.bl true, .bl true]) = some (.bl (a && b)) := by cases a <;> cases b <;> rfl
theorem ins_step {t L H m : Int} {rest : List D} {o0 o1 o2 o3 o4 o5 o7 o8 o9 o10 o11 o12 o13 o15 o16 o18 o19 : Option D} {QL : List D → Sl → Prop} (hL : L.natAbs < 18446744073709551616) (hH : H.natAbs < 18446744073709551616)
    (q : W (compL [14, 17] (pT 2 (psC (pN 14) (psC (pN 17) psN))) mYes (mChain bLe bLt (m2 bMul (m2 bIx (mV 17) (mC (D.int 0))) (mV 6)) (mV 14) (m2 bMul (m2 bIx (mV 17) (mC (D.int 1))) (mV 6))) rest) [o0, o1, o2, o3, o4, o5, some (.int m), o7, o8, o9, o10, o11, o12, o13, none, o15, o16, none, o18, o19] fun ds ρ2 => QL (.bl (decide (L * m ≤ t) && decide (t < H * m)) :: ds) ρ2) :
    W (compL [14, 17] (pT 2 (psC (pN 14) (psC (pN 17) psN))) mYes (mChain bLe bLt (m2 bMul (m2 bIx (mV 17) (mC (D.int 0))) (mV 6)) (mV 14) (m2 bMul (m2 bIx (mV 17) (mC (D.int 1))) (mV 6))) (.tup [.int t, .tup [.int L, .int H]] :: rest)) [o0, o1, o2, o3, o4, o5, some (.int m), o7, o8, o9, o10, o11, o12, o13, none, o15, o16, none, o18, o19] QL := by
  refine W_compCons.mpr ⟨[o0, o1, o2, o3, o4, o5, some (.int m), o7, o8, o9, o10, o11, o12, o13, some (.int t), o15, o16, some (.tup [.int L, .int H]), o18, o19], rfl, ?_⟩
  simp [W_mYes]
  rw [W_mChain]
  simp only [W_m2, W_mV, W_mC]
  have i0 : bIx (.tup [.int L, .int H]) (.int 0) = some (.int L) := rfl
  have i1 : bIx (.tup [.int L, .int H]) (.int 1) = some (.int H) := rfl
  simp [i0, i1, bMul, hL, hH, bLe, bLt, wipeD]
  by_cases c : L * m ≤ t
  · refine .inl ⟨c, ?_⟩
    simpa [c] using q
  · refine .inr ⟨by omega, ?_⟩
    simpa [c] using q
theorem low_step {p q r x y : Int} {rest : List D} {o0 o1 o2 o3 o4 o5 o6 o7 o8 o9 o13 o14 o15 o16 o17 : Option D} {QL : List D → Sl → Prop} (hx : x.natAbs < 18446744073709551616) (hy : y.natAbs < 18446744073709551616)
    (q1 : 2 * p * x + 2 * q * y < r → W (compL [18, 19] (pT 2 (psC (pN 18) (psC (pN 19) psN))) (m2 bLt (m2 bAdd (m2 bMul (m2 bMul (mC (D.int 2)) (mV 10)) (mV 18)) (m2 bMul (m2 bMul (mC (D.int 2)) (mV 11)) (mV 19))) (mV 12)) (mC (D.int 1)) rest) [o0, o1, o2, o3, o4, o5, o6, o7, o8, o9, some (.int p), some (.int q), some (.int r), o13, o14, o15, o16, o17, none, none] fun ds ρ2 => QL (.int 1 :: ds) ρ2)
    (q2 : ¬ 2 * p * x + 2 * q * y < r → W (compL [18, 19] (pT 2 (psC (pN 18) (psC (pN 19) psN))) (m2 bLt (m2 bAdd (m2 bMul (m2 bMul (mC (D.int 2)) (mV 10)) (mV 18)) (m2 bMul (m2 bMul (mC (D.int 2)) (mV 11)) (mV 19))) (mV 12)) (mC (D.int 1)) rest) [o0, o1, o2, o3, o4, o5, o6, o7, o8, o9, some (.int p), some (.int q), some (.int r), o13, o14, o15, o16, o17, none, none] QL) :
    W (compL [18, 19] (pT 2 (psC (pN 18) (psC (pN 19) psN))) (m2 bLt (m2 bAdd (m2 bMul (m2 bMul (mC (D.int 2)) (mV 10)) (mV 18)) (m2 bMul (m2 bMul (mC (D.int 2)) (mV 11)) (mV 19))) (mV 12)) (mC (D.int 1)) (pt x y :: rest)) [o0, o1, o2, o3, o4, o5, o6, o7, o8, o9, some (.int p), some (.int q), some (.int r), o13, o14, o15, o16, o17, none, none] QL := by
  refine W_compCons.mpr ⟨[o0, o1, o2, o3, o4, o5, o6, o7, o8, o9, some (.int p), some (.int q), some (.int r), o13, o14, o15, o16, o17, some (.int x), some (.int y)], rfl, ?_⟩
  simp only [W_m2, W_mV, W_mC]
  simp [bMul, bAdd, hx, hy, bLt, wipeD]
  by_cases c : 2 * p * x + 2 * q * y < r
  · exact .inl ⟨c, q1 c⟩
  · exact .inr ⟨by omega, q2 c⟩
theorem top_eq {g i p : Int} (g0 : 0 < g) : topI g i p = p * (if 0 < p then (2 * i + 1) * g else (2 * i - 1) * g) := by
  unfold topI
  have e1 : p * (2 * i - 1) * g = p * ((2 * i - 1) * g) := Int.mul_assoc _ _ _
  have e2 : p * (2 * i + 1) * g = p * ((2 * i + 1) * g) := Int.mul_assoc _ _ _
  have le : (2 * i - 1) * g ≤ (2 * i + 1) * g := Int.mul_le_mul_of_nonneg_right (by omega) (by omega)
  rw [e1, e2]
  split
  · have := Int.mul_le_mul_of_nonneg_left le (show 0 ≤ p by omega)
    omega
  · have := Int.mul_le_mul_of_nonpos_left (show p ≤ 0 by omega) le
    omega
theorem cut1 {a : D} {l : List D} : cutD (a :: l) (some 1) none = l := by
  have := cut_from (l := a :: l) (k := 1)
  simpa using this
set_option maxHeartbeats 0 in
theorem paper_eq {g x y u v i j : Int} {d : D} (g0 : 0 < g) (hg : g.natAbs ≤ 1000) (hx : x.natAbs ≤ 10000000) (hy : y.natAbs ≤ 10000000) (hu : u.natAbs ≤ 10000000) (hv : v.natAbs ≤ 10000000) (hi : i.natAbs ≤ 10000000) (hj : j.natAbs ≤ 10000000) (h : Nn d) (h' : ∀ l, d = .tup l → ∀ z ∈ l, Nn z) :
    F__law_is_paper [.int g, ln x y u v, pt i j, d] = .ok (.bl (paperP g x y u v i j d)) := by
  have gm : g.natAbs < 18446744073709551616 := by omega
  refine runP_of ?_
  unfold B__law_is_paper
  rcases gate h h' with ⟨w, l, rfl⟩ | ⟨hn, hk⟩
  · have hl : ∀ z ∈ l, Nn z := fun z hz => h' _ rfl z (by simp [hz])
    have i0 : bIx (.tup (.str w :: l)) (.int 0) = some (.str w) := by simp [bIx, atI, ixN]
    walk_at "v"
    simp [isi_tup h, isTup, bNot, bTup, eq_tup0, i0, isi_str (Nn_str (k := w)), isStr]
    walk_at "n"; walk_at "v"
    simp [bSl, cut1, itemsOf, wipeD]
    refine comp_off hl ?_
    simp [bLst, ne_lst0]
    cases hall : l.all isInt with
    | false =>
      refine .inl ⟨by simpa using hall, ?_⟩
      rw [Kq_ret, paperP_ni hall]
    | true =>
      refine .inr ⟨by simpa using hall, ?_⟩
      walk_at "n"; walk_at "v"
      have it : itemsOf (pt i j) = some [.int i, .int j] := rfl
      simp [it, wipeD, W_compCons, W_compNil, W_mYes, pN]
      walk_at "v"
      simp [bMul, bSub, bAdd, gm, bTup, wipeD]
      walk_at "n"; walk_at "v"
      simp [i0, eq_str, bLen, eq_int2]
      by_cases c : w = "meets" ∧ l.length = 2
      · obtain ⟨rfl, c2⟩ := c
        obtain ⟨a, b, rfl⟩ : ∃ a b, l = [a, b] := by
          match l, c2 with
          | [a, b], _ => exact ⟨a, b, rfl⟩
        simp at hall
        obtain ⟨k, rfl⟩ := isInt_ex hall.1
        obtain ⟨m, rfl⟩ := isInt_ex hall.2
        simp [bSl, cut1]
        refine ⟨[some (.int g), some (ln x y u v), some (pt i j), some (.tup [.str "meets", .int k, .int m]), some (.lst [.tup [.int ((2 * i - 1) * g), .int ((2 * i + 1) * g)], .tup [.int ((2 * j - 1) * g), .int ((2 * j + 1) * g)]]), some (.int k), some (.int m), none, none, none, none, none, none, none, none, none, none, none, none, none], rfl, ?_⟩
        walk_at "n"; walk_at "v"
        have l0 : bIx (ln x y u v) (.int 0) = some (pt x y) := rfl
        have l1 : bIx (ln x y u v) (.int 1) = some (pt u v) := rfl
        have z2 : zip2 [pt x y, pt u v] = some [.tup [.int x, .int u], .tup [.int y, .int v]] := rfl
        simp [l0, l1, z2, wipeD]
        have sz : ∀ a b : Int, a.natAbs ≤ 10000000 → b.natAbs ≤ 10000000 → (2 * a).natAbs < 18446744073709551616 ∧ (2 * (b - a)).natAbs < 18446744073709551616 := fun a b _ _ => by omega
        refine W_compCons.mpr ⟨_, rfl, ?_⟩
        simp [W_mYes]
        walk_at "v"
        simp [bMul, bSub, bAdd, sz x u hx hu, wipeD]
        refine W_compCons.mpr ⟨_, rfl, ?_⟩
        simp [W_mYes]
        walk_at "v"
        simp [bMul, bSub, bAdd, sz y v hy hv, wipeD, W_compNil]
        walk_at "n"; walk_at "v"
        simp [wipeD]
        have zz : ∀ a b c d : D, zip2 [.lst [a, b], .lst [c, d]] = some [.tup [a, c], .tup [b, d]] := fun _ _ _ _ => rfl
        have r1 := rim_lt (g := g) (k := i) hg hi
        have r2 := rim_lt (g := g) (k := j) hg hj
        refine ⟨_, zz _ _ _ _, ins_step (by omega) (by omega) (ins_step (by omega) (by omega) (W_compNil.mpr ?_))⟩
        have ii : ∀ a b n : Int, (decide ((2 * n - 1) * g * m ≤ 2 * a * m + 2 * (b - a) * k) && decide (2 * a * m + 2 * (b - a) * k < (2 * n + 1) * g * m)) = inI g a b n k m := fun a b n => by
          unfold inI
          rw [show 2 * a * m + 2 * (b - a) * k = 2 * (a * (m - k) + b * k) by grind]
        rw [ii x u i, ii y v j]
        simp
        walk_at "n"; walk_at "v"
        simp [bGt, bLe, bLst, bb_eq, paperP, metI]
        by_cases d1 : 0 < m
        · have d1' : 1 ≤ m := d1
          by_cases d2 : 0 ≤ k
          · by_cases d3 : k ≤ m
            · simp [d1, d1', d2, d3, Kq_ret]
            · simp [d1, d1', d2, d3, Kq_ret]; omega
          · simp [d1, d1', d2, Kq_ret]; omega
        · have d1' : ¬ 1 ≤ m := d1
          simp [d1, d1', Kq_ret]; omega
      · refine pick (fun z => c ⟨z.1, by omega⟩) ?_
        walk_at "n"; walk_at "v"
        simp [i0, ne_str, bLen, ne_int2]
        by_cases cw : w = "misses"
        · subst cw
          simp
          by_cases c4 : l.length = 3
          · obtain ⟨a, b, e, rfl⟩ : ∃ a b e, l = [a, b, e] := by
              match l, c4 with
              | [a, b, e], _ => exact ⟨a, b, e, rfl⟩
            simp at hall
            obtain ⟨p, rfl⟩ := isInt_ex hall.1
            obtain ⟨q, rfl⟩ := isInt_ex hall.2.1
            obtain ⟨r, rfl⟩ := isInt_ex hall.2.2
            have i1 : ∀ z a b e : D, bIx (.tup [z, a, b, e]) (.int 1) = some a := fun _ _ _ _ => rfl
            have i2 : ∀ z a b e : D, bIx (.tup [z, a, b, e]) (.int 2) = some b := fun _ _ _ _ => rfl
            simp [i1, i2, eq_int2]
            by_cases z : p = 0 ∧ q = 0
            · obtain ⟨rfl, rfl⟩ := z
              simp [Kq_ret, paperP, missI]
            · have pk : ∀ {A B X K : Prop}, ¬ (A ∧ B) → K → (A ∧ ((B ∧ X) ∨ (¬ B ∧ K))) ∨ (¬ A ∧ K) := fun n k => pick n k
              refine pk z ?_
              walk_at "n"; walk_at "v"
              simp
              refine ⟨[some (.int g), some (ln x y u v), some (pt i j), some (.tup [.str "misses", .int p, .int q, .int r]), some (.lst [.tup [.int ((2 * i - 1) * g), .int ((2 * i + 1) * g)], .tup [.int ((2 * j - 1) * g), .int ((2 * j + 1) * g)]]), none, none, none, none, some (.str "misses"), some (.int p), some (.int q), some (.int r), none, none, none, none, none, none, none], rfl, ?_⟩
              walk_at "n"; walk_at "v"
              have it2 : itemsOf (ln x y u v) = some [pt x y, pt u v] := rfl
              simp [it2, wipeD]
              have fin : ∀ b : Bool, (b = paperP g x y u v i j (D.tup [D.str (Str.ofString "misses"), D.int p, D.int q, D.int r])) → True := fun _ _ => trivial
              have lw : ∀ a b : Int, 2 * p * a + 2 * q * b = 2 * (p * a + q * b) := fun a b => by grind
              have m64 : ∀ a : Int, a.natAbs ≤ 10000000 → a.natAbs < 18446744073709551616 := fun a _ => by omega
              refine low_step (m64 x hx) (m64 y hy) (fun w1 => ?_) fun w1 => low_step (m64 u hu) (m64 v hv) (fun w2 => W_compNil.mpr ?_) fun w2 => W_compNil.mpr ?_
              · refine low_step (m64 u hu) (m64 v hv) (fun w2 => W_compNil.mpr ?_) fun w2 => W_compNil.mpr ?_
                all_goals
                  rw [lw] at w1
                  simp [bLst, ne_lst0, Kq_ret, paperP, missI, show ¬ r ≤ 2 * (p * x + q * y) by omega]
              · rw [lw] at w2
                simp [bLst, ne_lst0, Kq_ret, paperP, missI, show ¬ r ≤ 2 * (p * u + q * v) by omega]
              · rw [lw] at w1 w2
                simp [bLst, ne_lst0]
                walk_at "n"; walk_at "v"
                have e0 : ∀ a b : D, bIx (.lst [a, b]) (.int 0) = some a := fun a b => rfl
                have e1 : ∀ a b : D, bIx (.lst [a, b]) (.int 1) = some b := fun a b => rfl
                have sel : ∀ L H t : Int, bIx (.tup [.int L, .int H]) (.int (if 0 < t then 1 else 0)) = some (.int (if 0 < t then H else L)) := fun L H t => by split <;> rfl
                have r1 := rim_lt (g := g) (k := i) hg hi
                have r2 := rim_lt (g := g) (k := j) hg hj
                have s1 : (if 0 < p then (2 * i + 1) * g else (2 * i - 1) * g).natAbs < 18446744073709551616 := by split <;> omega
                have s2 : (if 0 < q then (2 * j + 1) * g else (2 * j - 1) * g).natAbs < 18446744073709551616 := by split <;> omega
                simp [e0, e1, bGt, bInt, sel, bMul, s1, s2, bAdd]
                rw [← top_eq g0, ← top_eq g0]
                walk_at "n"; walk_at "v"
                simp only [paperP, missI]
                simp [bLt, bGt, eq_int2, show r ≤ 2 * (p * x + q * y) by omega, show r ≤ 2 * (p * u + q * v) by omega]
                generalize topI g i p + topI g j q = G
                have z' : p = 0 → ¬ q = 0 := fun a b => z ⟨a, b⟩
                by_cases c1 : G < r <;> by_cases c2 : G = r <;> by_cases c3 : 0 < p <;> by_cases c5 : p = 0 <;> simp [c1, c2, c3, c5, z', Kq_ret] <;> omega
          · refine .inl ⟨by omega, ?_⟩
            rw [Kq_ret, paperP_no c fun z => c4 z.2]
        · refine .inl ⟨cw, ?_⟩
          rw [Kq_ret, paperP_no c fun z => cw z.1]
  · rw [paperP_off hn]
    exact hk (sK .nx) _ _ _ _ _ _ rfl
end CLX

namespace CLX
open PySem PySem.Spec L2 CL
theorem in_ins {g a b n k m : Int} (h : inI g a b n k m = true) : InsI (2 * a) (2 * (b - a)) ((2 * n - 1) * g) ((2 * n + 1) * g) m (2 * k) := by
  simp only [inI, Bool.and_eq_true, decide_eq_true_eq] at h
  have e : 2 * a * 2 * m + 2 * (b - a) * (2 * k) = 2 * (2 * (a * (m - k) + b * k)) := by grind
  have e1 : 2 * ((2 * n - 1) * g) * m = 2 * ((2 * n - 1) * g * m) := by grind
  have e2 : 2 * ((2 * n + 1) * g) * m = 2 * ((2 * n + 1) * g * m) := by grind
  constructor
  · rw [e, e1]; omega
  · rw [e, e2]; omega
theorem met_cell {g x y u v i j k m : Int} (h : metI g x y u v i j k m = true) : cellB g x y u v i j = true := by
  simp only [metI, Bool.and_eq_true, decide_eq_true_eq] at h
  obtain ⟨⟨hm, hk, hkm⟩, h1, h2⟩ := h
  unfold cellB
  rw [metB_iff]
  have m0 : (0 : Rat) < m := by exact_mod_cast (show 0 < m by omega)
  have k0 : (0 : Rat) ≤ k := by exact_mod_cast hk
  have km : (k : Rat) ≤ m := by exact_mod_cast hkm
  refine ⟨((2 * k : Int) : Rat) / (2 * m), ?_, ?_, (insI_iff (by omega)).mp (in_ins h1), (insI_iff (by omega)).mp (in_ins h2)⟩
  · push_cast
    have e : (2 : Rat) * k / (2 * m) * m = k := by grind
    refine Classical.byContradiction fun n => ?_
    have n' : (2 : Rat) * k / (2 * m) < 0 := by grind
    have := Rat.mul_lt_mul_of_pos_right n' m0
    grind
  · push_cast
    have e : (2 : Rat) * k / (2 * m) * m = k := by grind
    refine Classical.byContradiction fun n => ?_
    have n' : 1 < (2 : Rat) * k / (2 * m) := by grind
    have := Rat.mul_lt_mul_of_pos_right n' m0
    grind
theorem top_ge {g i p : Int} {z : Rat} (g0 : 0 < g) (h1 : (((2 * i - 1) * g : Int) : Rat) ≤ z) (h2 : z < (((2 * i + 1) * g : Int) : Rat)) : (p : Rat) * z ≤ (topI g i p : Int) ∧ (0 < p → (p : Rat) * z < (topI g i p : Int)) := by
  rw [top_eq g0]
  by_cases c : 0 < p
  · rw [if_pos c]
    have c' : (0 : Rat) < p := by exact_mod_cast c
    have := Rat.mul_lt_mul_of_pos_left h2 c'
    rw [Rat.intCast_mul]
    exact ⟨Rat.le_of_lt this, fun _ => this⟩
  · rw [if_neg c]
    have c' : (0 : Rat) ≤ -(p : Rat) := by
      have : (p : Rat) ≤ 0 := by exact_mod_cast (show p ≤ 0 by omega)
      grind
    have := Rat.mul_le_mul_of_nonneg_left h1 c'
    rw [Rat.intCast_mul]
    exact ⟨by grind, fun z => absurd z c⟩
theorem miss_cell {g x y u v i j p q r : Int} (g0 : 0 < g) (h : missI g x y u v i j p q r = true) : cellB g x y u v i j = false := by
  cases hc : cellB g x y u v i j with
  | false => rfl
  | true =>
    exfalso
    unfold cellB at hc
    rw [metB_iff] at hc
    obtain ⟨t, t0, t1, ⟨a1, a2⟩, ⟨b1, b2⟩⟩ := hc
    simp only [missI, Bool.and_eq_true, Bool.or_eq_true, decide_eq_true_eq] at h
    obtain ⟨⟨_, l1, l2⟩, h3⟩ := h
    obtain ⟨A, A'⟩ := top_ge (p := p) g0 a1 a2
    obtain ⟨B, B'⟩ := top_ge (p := q) g0 b1 b2
    have l1' : (r : Rat) ≤ 2 * (p * x + q * y) := by exact_mod_cast l1
    have l2' : (r : Rat) ≤ 2 * (p * u + q * v) := by exact_mod_cast l2
    have m1 := Rat.mul_le_mul_of_nonneg_right l1' (show (0 : Rat) ≤ 1 - t by grind)
    have m2 := Rat.mul_le_mul_of_nonneg_right l2' t0
    push_cast at A A' B B'
    have S : (r : Rat) ≤ p * (2 * x + 2 * (u - x) * t) + q * (2 * y + 2 * (v - y) * t) := by grind
    rcases h3 with h3 | ⟨h3, h4⟩
    · have h3' : ((topI g i p : Int) : Rat) + (topI g j q : Int) < r := by exact_mod_cast h3
      grind
    · have h3' : ((topI g i p : Int) : Rat) + (topI g j q : Int) = r := by exact_mod_cast h3
      rcases h4 with h4 | h4
      · have := A' h4; grind
      · have := B' h4; grind
end CLX

namespace CL
open PySem L2
set_option autoImplicit false
/-! ### step by step -/
section
variable {ρ ρ' ρ1 : Sl} {QD : D → Sl → Prop} {QL : List D → Sl → Prop} {QF : Fl → Sl → Prop} {QO : Option Int → Sl → Prop}
def Br (x : D) (A B : Prop) : Prop := (x = .bl true ∧ A) ∨ (x = .bl false ∧ B)
theorem X_if {c : M D} {a b : MS} (h : W c ρ fun x ρ1 => Br x (W a ρ1 QF) (W b ρ1 QF)) : W (sIf c a b) ρ QF := W_sIf.mpr h
theorem X_mif {c a b : M D} (h : W c ρ fun x ρ1 => Br x (W a ρ1 QD) (W b ρ1 QD)) : W (mIf c a b) ρ QD := W_mIf.mpr h
theorem go_if {p : Bool} {A B : Prop} (h1 : p = true → A) (h2 : p = false → B) : Br (.bl p) A B := by
  cases p with
  | true => exact .inl ⟨rfl, h1 rfl⟩
  | false => exact .inr ⟨rfl, h2 rfl⟩
theorem go_ifT {p : Bool} {A B : Prop} (h : p = true) (h1 : A) : Br (.bl p) A B := .inl ⟨by rw [h], h1⟩
theorem go_ifF {p : Bool} {A B : Prop} (h : p = false) (h1 : B) : Br (.bl p) A B := .inr ⟨by rw [h], h1⟩
theorem go_ifP {p : Prop} [Decidable p] {A B : Prop} (h1 : p → A) (h2 : ¬ p → B) : Br (.bl (decide p)) A B := go_if (fun h => h1 (of_decide_eq_true h)) fun h => h2 (of_decide_eq_false h)
theorem go_ifN {p : Prop} [Decidable p] {A B : Prop} (h1 : ¬ p → A) (h2 : p → B) : Br (.bl (!decide p)) A B := go_if (fun h => h1 (by simpa using h)) fun h => h2 (by simpa using h)
theorem X_and {a b : M D} (h : W a ρ fun x ρ1 => ∃ p q : Bool, x = .bl p ∧ (p = true → W b ρ1 fun y ρ2 => y = .bl q ∧ ρ2 = ρ1) ∧ QD (.bl (p && q)) ρ1) : W (mAnd a b) ρ QD :=
  W_mAnd.mpr (h.mono fun x ρ1 ⟨p, q, e, h1, h2⟩ => by
    cases p with
    | true => exact .inl ⟨e, (h1 rfl).mono fun y ρ2 ⟨e1, e2⟩ => by rw [e1, e2]; simpa using h2⟩
    | false => exact .inr ⟨e, by simpa using h2⟩)
theorem X_or {a b : M D} (h : W a ρ fun x ρ1 => ∃ p q : Bool, x = .bl p ∧ (p = false → W b ρ1 fun y ρ2 => y = .bl q ∧ ρ2 = ρ1) ∧ QD (.bl (p || q)) ρ1) : W (mOr a b) ρ QD :=
  W_mOr.mpr (h.mono fun x ρ1 ⟨p, q, e, h1, h2⟩ => by
    cases p with
    | false => exact .inr ⟨e, (h1 rfl).mono fun y ρ2 ⟨e1, e2⟩ => by rw [e1, e2]; simpa using h2⟩
    | true => exact .inl ⟨e, by simpa using h2⟩)
theorem go_and {p q : Bool} {A P : Prop} (h1 : p = true → A) (h2 : P) : (p = true → A) ∧ P := ⟨h1, h2⟩
theorem X_chain {f g : D → D → Option D} {a b c : M D} (h : W a ρ fun x ρ1 => W b ρ1 fun y ρ2 => ∃ p q : Bool, f x y = some (.bl p) ∧ (p = true → W c ρ2 fun w ρ3 => g y w = some (.bl q) ∧ ρ3 = ρ2) ∧ QD (.bl (p && q)) ρ2) : W (mChain f g a b c) ρ QD :=
  W_mChain.mpr (h.mono fun x ρ1 h => h.mono fun y ρ2 ⟨p, q, e, h1, h2⟩ => ⟨.bl p, e, by
    cases p with
    | true => exact .inl ⟨rfl, (h1 rfl).mono fun y ρ3 ⟨e1, e2⟩ => ⟨_, e1, by rw [e2]; simpa using h2⟩⟩
    | false => exact .inr ⟨rfl, by simpa using h2⟩⟩)
theorem go_lg {x : D} {p q : Bool} {A : Bool → Prop} {P : Bool → Bool → Prop} {B : Prop → Prop} (e : x = .bl p) : x = .bl p := e
theorem and_go {x : D} {p q : Bool} {A : Bool → Bool → Prop} {P : Bool → Bool → Prop} (e : x = .bl p) (h1 : A p q) (h2 : P p q) : ∃ p q : Bool, x = .bl p ∧ A p q ∧ P p q := ⟨p, q, e, h1, h2⟩
theorem chain_go {x : Option D} {p q : Bool} {A : Bool → Bool → Prop} {P : Bool → Bool → Prop} (e : x = some (.bl p)) (h1 : A p q) (h2 : P p q) : ∃ p q : Bool, x = some (.bl p) ∧ A p q ∧ P p q := ⟨p, q, e, h1, h2⟩
theorem X_compN {vs : List Nat} {p : Pt} {c e : M D} (e0 : ρ = ρ') (h : QL [] ρ') : W (compL vs p c e []) ρ QL := by subst e0; exact W_compNil.mpr h
theorem X_evN : W (evA []) ρ QL ↔ QL [] ρ := W_mNil
theorem X_evI {i : Nat} {r : List Ag} : W (evA (.io i :: r)) ρ QL ↔ ∃ d, ρ[i]? = some (some d) ∧ W (evA r) ρ fun xs ρ2 => QL (d :: xs) ρ2 := by
  show W (mCons (mV i) (evA r)) ρ QL ↔ _
  rw [W_mCons, W_mV]
theorem X_evE {m : M D} {r : List Ag} : W (evA (.e m :: r)) ρ QL ↔ W m ρ fun d ρ1 => W (evA r) ρ1 fun xs ρ2 => QL (d :: xs) ρ2 := by
  show W (mCons m (evA r)) ρ QL ↔ _
  rw [W_mCons]
theorem X_nx {b : MS} (e : ρ = ρ') (h : W b ρ' QF) : Kq b QF .nx ρ := by subst e; exact Kq_nx.mpr h
/-- on to the next turn of a loop -/
def Fq (p : Pt) (b : MS) (xs : List D) (Q : Fl → Sl → Prop) : Fl → Sl → Prop := fun f ρ2 => ((f = .nx ∨ f = .cnt) ∧ W (forL p b xs) ρ2 Q) ∨ (f = .brk ∧ Q .nx ρ2) ∨ ∃ d, f = .ret d ∧ Q (.ret d) ρ2
theorem X_forC {p : Pt} {b : MS} {x : D} {xs : List D} (e0 : ρ = ρ') (e : p x ρ' = some ρ1) (h : W b ρ1 (Fq p b xs QF)) : W (forL p b (x :: xs)) ρ QF := by subst e0; exact W_forCons.mpr ⟨ρ1, e, h⟩
theorem X_fnx {p : Pt} {b : MS} {xs : List D} (e : ρ = ρ') (h : W (forL p b xs) ρ' QF) : Fq p b xs QF .nx ρ := by subst e; exact .inl ⟨.inl rfl, h⟩
theorem X_fcnt {p : Pt} {b : MS} {xs : List D} (e : ρ = ρ') (h : W (forL p b xs) ρ' QF) : Fq p b xs QF .cnt ρ := by subst e; exact .inl ⟨.inr rfl, h⟩
theorem X_fbrk {p : Pt} {b : MS} {xs : List D} (h : QF .nx ρ) : Fq p b xs QF .brk ρ := .inr (.inl ⟨rfl, h⟩)
theorem X_fret {p : Pt} {b : MS} {xs : List D} {d : D} (h : QF (.ret d) ρ) : Fq p b xs QF (.ret d) ρ := .inr (.inr ⟨d, rfl, h⟩)
/-- a loop by an invariant on its list, which may end ahead of time -/
theorem X_forI {p : Pt} {b : MS} {α : Type} {g : α → D} (I : List α → Sl → Prop) {xs : List α} (h0 : I xs ρ) (hq : ∀ ρ', I [] ρ' → QF .nx ρ')
    (h : ∀ x xs ρ, I (x :: xs) ρ → ∃ ρ1, p (g x) ρ = some ρ1 ∧ W b ρ1 fun f ρ2 => ((f = .nx ∨ f = .cnt) ∧ I xs ρ2) ∨ (f = .brk ∧ QF .nx ρ2) ∨ ∃ d, f = .ret d ∧ QF (.ret d) ρ2) : W (forL p b (xs.map g)) ρ QF := by
  induction xs generalizing ρ with
  | nil => exact W_forNil.mpr (hq ρ h0)
  | cons x xs ih =>
    obtain ⟨ρ1, e1, hb⟩ := h x xs ρ h0
    exact W_forCons.mpr ⟨ρ1, e1, hb.mono fun f ρ2 hh => hh.imp (fun ⟨hf, hi⟩ => ⟨hf, ih hi⟩) id⟩
theorem X_compC {vs : List Nat} {p : Pt} {c e : M D} {x : D} {xs : List D} (e0 : ρ = ρ') (h1 : p x ρ' = some ρ1) (h : W c ρ1 fun y ρ2 => Br y (W e ρ2 fun d ρ3 => W (compL vs p c e xs) (wipeD ρ3 vs) fun ds ρ4 => QL (d :: ds) ρ4) (W (compL vs p c e xs) (wipeD ρ2 vs) QL)) : W (compL vs p c e (x :: xs)) ρ QL := by subst e0; exact W_compCons.mpr ⟨ρ1, h1, h⟩
theorem X_compY {vs : List Nat} {p : Pt} {e : M D} {x : D} {xs : List D} (e0 : ρ = ρ') (h1 : p x ρ' = some ρ1) (h : W e ρ1 fun d ρ3 => W (compL vs p mYes e xs) (wipeD ρ3 vs) fun ds ρ4 => QL (d :: ds) ρ4) : W (compL vs p mYes e (x :: xs)) ρ QL := by subst e0; exact W_compCons.mpr ⟨ρ1, h1, W_mYes.mpr (.inl ⟨rfl, h⟩)⟩
end
/-! ### how great a number is -/
def Nb (n : Nat) (a : Int) : Prop := a.natAbs < 2 ^ n
/-- the same, kept from omega's sight -/
def Nle (a : Int) (n : Nat) : Prop := a.natAbs ≤ n
theorem Nb.mono {n m : Nat} {a : Int} (h : Nb n a) (k : n ≤ m) : Nb m a := Nat.lt_of_lt_of_le h (Nat.pow_le_pow_right (by decide) k)
theorem Nb.self (a : Int) : Nb (a.natAbs.log2 + 1) a := Nat.lt_log2_self
theorem Nb.le {n : Nat} {a : Int} (h : a.natAbs ≤ n) : Nb (n.log2 + 1) a := Nat.lt_of_le_of_lt h Nat.lt_log2_self
theorem Nb.nle {n : Nat} {a : Int} (h : Nle a n) : Nb (n.log2 + 1) a := Nat.lt_of_le_of_lt h Nat.lt_log2_self
theorem Nb.lt {n : Nat} {a : Int} (h : a.natAbs < n) : Nb (n.log2 + 1) a := Nat.lt_of_le_of_lt (Nat.le_of_lt h) Nat.lt_log2_self
theorem Nb.rng {k : Nat} {a n : Int} (h0 : 0 ≤ a) (h1 : a < n) (hn : Nb k n) : Nb k a := by unfold Nb at *; omega
theorem Nb.rngE {k : Nat} {a n : Int} (h0 : 0 ≤ a) (h1 : a ≤ n) (hn : Nb k n) : Nb k a := by unfold Nb at *; omega
theorem Nb.add {n m : Nat} {a b : Int} (ha : Nb n a) (hb : Nb m b) : Nb (max n m + 1) (a + b) := by
  have h1 := Nb.mono ha (Nat.le_max_left n m)
  have h2 := Nb.mono hb (Nat.le_max_right n m)
  unfold Nb at *
  rw [Nat.pow_succ]
  omega
theorem Nb.neg {n : Nat} {a : Int} (ha : Nb n a) : Nb n (-a) := by unfold Nb at *; omega
theorem Nb.sub {n m : Nat} {a b : Int} (ha : Nb n a) (hb : Nb m b) : Nb (max n m + 1) (a - b) := by rw [Int.sub_eq_add_neg]; exact Nb.add ha hb.neg
theorem Nb.mul {n m : Nat} {a b : Int} (ha : Nb n a) (hb : Nb m b) : Nb (n + m) (a * b) := by
  unfold Nb at *
  rw [Int.natAbs_mul, Nat.pow_add]
  exact Nat.mul_lt_mul'' ha hb
theorem Nb.fdiv {n : Nat} {a b : Int} (ha : Nb n a) : Nb (n + 1) (a.fdiv b) := by
  have h : (a.fdiv b).natAbs ≤ a.natAbs + 1 := by
    rcases Int.lt_trichotomy b 0 with h | h | h
    · rw [Int.fdiv_eq_ediv]
      have := Int.natAbs_ediv_le_natAbs a b
      split <;> omega
    · subst h; simp
    · rw [Int.fdiv_eq_ediv_of_nonneg _ (by omega)]
      have := Int.natAbs_ediv_le_natAbs a b
      omega
  unfold Nb at *
  rw [Nat.pow_succ]
  have : 0 < 2 ^ n := Nat.pow_pos (by decide)
  omega
theorem Nb.max {n m : Nat} {a b : Int} (ha : Nb n a) (hb : Nb m b) : Nb (Max.max n m) (max a b) := by
  have h1 := Nb.mono ha (Nat.le_max_left n m)
  have h2 := Nb.mono hb (Nat.le_max_right n m)
  unfold Nb at *
  omega
theorem Nb.min {n m : Nat} {a b : Int} (ha : Nb n a) (hb : Nb m b) : Nb (Max.max n m) (min a b) := by
  have h1 := Nb.mono ha (Nat.le_max_left n m)
  have h2 := Nb.mono hb (Nat.le_max_right n m)
  unfold Nb at *
  omega
theorem Nb.ite {n m : Nat} {a b : Int} {c : Prop} [Decidable c] (ha : Nb n a) (hb : Nb m b) : Nb (Max.max n m) (if c then a else b) := by
  split
  · exact Nb.mono ha (Nat.le_max_left n m)
  · exact Nb.mono hb (Nat.le_max_right n m)
theorem mul_go {n m : Nat} {a b : Int} (ha : Nb n a) (hb : Nb m b) (h : (Nat.ble n 400000 && Nat.ble m 400000) = true) : bMul (.int a) (.int b) = some (.int (a * b)) := by
  simp only [Bool.and_eq_true, Nat.ble_eq] at h
  have : a.natAbs < big ∧ b.natAbs < big := ⟨ha.mono h.1, hb.mono h.2⟩
  simp only [bMul, this, and_self, or_true, if_true]
theorem div_go {n : Nat} {a b : Int} (h0 : b ≠ 0) (hb : Nb n b) (h : Nat.ble n 8000 = true) : bDiv (.int a) (.int b) = some (.int (a.fdiv b)) := by
  simp only [Nat.ble_eq] at h
  have : b.natAbs < bigD := hb.mono h
  simp only [bDiv, h0, this, ne_eq, not_false_eq_true, and_self, if_true]
theorem mod_go {a b : Int} (h0 : b ≠ 0) : bMod (.int a) (.int b) = some (.int (a.fmod b)) := by
  simp only [bMod, h0, ne_eq, not_false_eq_true, if_true]
theorem tup_go {l : List D} (h : Nat.ble l.length 16777216 = true) : bTup l = some (.tup l) := by
  simp only [Nat.ble_eq] at h
  simp only [bTup, h, if_true]
theorem lst_go {l : List D} (h : Nat.ble l.length 16777216 = true) : bLst l = some (.lst l) := by
  simp only [Nat.ble_eq] at h
  simp only [bLst, h, if_true]
end CL
namespace CL
open PySem L2
section
variable {a b : Int} {n m : Nat} {P : D → Prop} {l : List D} {x y u v : Int} {s t : Str}
theorem mul_st (ha : Nb n a) (hb : Nb m b) (h : (Nat.ble n 400000 && Nat.ble m 400000) = true) (k : P (.int (a * b))) : ∃ d, bMul (.int a) (.int b) = some d ∧ P d := ⟨_, mul_go ha hb h, k⟩
theorem div_st (h0 : b ≠ 0) (hb : Nb n b) (h : Nat.ble n 8000 = true) (k : P (.int (a.fdiv b))) : ∃ d, bDiv (.int a) (.int b) = some d ∧ P d := ⟨_, div_go h0 hb h, k⟩
theorem mod_st (h0 : b ≠ 0) (k : P (.int (a.fmod b))) : ∃ d, bMod (.int a) (.int b) = some d ∧ P d := ⟨_, mod_go h0, k⟩
theorem tup_st (h : Nat.ble l.length 16777216 = true) (k : P (.tup l)) : ∃ d, bTup l = some d ∧ P d := ⟨_, tup_go h, k⟩
theorem lst_st (h : Nat.ble l.length 16777216 = true) (k : P (.lst l)) : ∃ d, bLst l = some d ∧ P d := ⟨_, lst_go h, k⟩
theorem eqi_st (k : P (.bl (decide (a = b)))) : ∃ d, bEq (.int a) (.int b) = some d ∧ P d := ⟨_, eq_int2, k⟩
theorem nei_st (k : P (.bl (!decide (a = b)))) : ∃ d, bNe (.int a) (.int b) = some d ∧ P d := ⟨_, ne_int2, k⟩
theorem eqp_st (k : P (.bl (decide (x = u ∧ y = v)))) : ∃ d, bEq (.tup [.int x, .int y]) (.tup [.int u, .int v]) = some d ∧ P d := ⟨_, eq_pt, k⟩
theorem nep_st (k : P (.bl (!decide (x = u ∧ y = v)))) : ∃ d, bNe (.tup [.int x, .int y]) (.tup [.int u, .int v]) = some d ∧ P d := ⟨_, ne_pt, k⟩
theorem eqp_st' (k : P (.bl (decide (x = u ∧ y = v)))) : ∃ d, bEq (pt x y) (pt u v) = some d ∧ P d := ⟨_, eq_pt, k⟩
theorem nep_st' (k : P (.bl (!decide (x = u ∧ y = v)))) : ∃ d, bNe (pt x y) (pt u v) = some d ∧ P d := ⟨_, ne_pt, k⟩
theorem eqs_st (k : P (.bl (decide (s = t)))) : ∃ d, bEq (.str s) (.str t) = some d ∧ P d := ⟨_, CLX.eq_str, k⟩
theorem nes_st (k : P (.bl (!decide (s = t)))) : ∃ d, bNe (.str s) (.str t) = some d ∧ P d := ⟨_, CLX.ne_str, k⟩
end
theorem mul_s1 {a b : Int} {n : Nat} {P : D → Prop} (ha : Nb n a) (h : Nat.ble n 64 = true) (k : P (.int (a * b))) : ∃ d, bMul (.int a) (.int b) = some d ∧ P d := ⟨_, by
  simp only [Nat.ble_eq] at h
  have : a.natAbs < 2 ^ 64 := ha.mono h
  simp only [bMul, this, true_or, if_true], k⟩
theorem mul_s2 {a b : Int} {n : Nat} {P : D → Prop} (ha : Nb n b) (h : Nat.ble n 64 = true) (k : P (.int (a * b))) : ∃ d, bMul (.int a) (.int b) = some d ∧ P d := ⟨_, by
  simp only [Nat.ble_eq] at h
  have : b.natAbs < 2 ^ 64 := ha.mono h
  simp only [bMul, this, true_or, or_true, if_true], k⟩
theorem fill_st {as : List Ag} {ds : List D} {ρ : Sl} {P : List D → Prop} (h : ∃ f, fillA as ds ρ = some f ∧ P f) : ∃ f, fillA as ds ρ = some f ∧ P f := h
theorem at_mem {α : Type} {l : List α} {w : Int} (h0 : 0 ≤ w) (h1 : w < l.length) : ∃ x, atI l w = some x ∧ x ∈ l := by
  obtain ⟨k, rfl⟩ := Int.eq_ofNat_of_zero_le h0
  have hk : k < l.length := by omega
  exact ⟨l[k], at_nat (List.getElem?_eq_getElem hk), List.getElem_mem hk⟩
theorem Nb.fmod {k : Nat} {a b : Int} (h : b ≠ 0) (hb : Nb k b) : Nb k (a.fmod b) := Nat.lt_trans (natAbs_fmod_lt h) hb
section
variable {a b c d e f g h w : Int} {P : D → Prop} {x y z t : D}
theorem ix2i (h0 : 0 ≤ w) (h1 : w < 2) (k : ∀ z, (z = a ∨ z = b) → Nle z (a.natAbs + b.natAbs) → P (.int z)) : ∃ d, bIx (.lst [.int a, .int b]) (.int w) = some d ∧ P d := by
  rcases (show w = 0 ∨ w = 1 by omega) with rfl | rfl
  · exact ⟨_, rfl, k a (by simp) (by unfold Nle; omega)⟩
  · exact ⟨_, rfl, k b (by simp) (by unfold Nle; omega)⟩
theorem ix3i (h0 : 0 ≤ w) (h1 : w < 3) (k : ∀ z, (z = a ∨ z = b ∨ z = c) → Nle z (a.natAbs + b.natAbs + c.natAbs) → P (.int z)) : ∃ d, bIx (.lst [.int a, .int b, .int c]) (.int w) = some d ∧ P d := by
  rcases (show w = 0 ∨ w = 1 ∨ w = 2 by omega) with rfl | rfl | rfl
  · exact ⟨_, rfl, k a (by simp) (by unfold Nle; omega)⟩
  · exact ⟨_, rfl, k b (by simp) (by unfold Nle; omega)⟩
  · exact ⟨_, rfl, k c (by simp) (by unfold Nle; omega)⟩
theorem ix4i (h0 : 0 ≤ w) (h1 : w < 4) (k : ∀ z, (z = a ∨ z = b ∨ z = c ∨ z = d) → Nle z (a.natAbs + b.natAbs + c.natAbs + d.natAbs) → P (.int z)) : ∃ d', bIx (.lst [.int a, .int b, .int c, .int d]) (.int w) = some d' ∧ P d' := by
  rcases (show w = 0 ∨ w = 1 ∨ w = 2 ∨ w = 3 by omega) with rfl | rfl | rfl | rfl
  · exact ⟨_, rfl, k a (by simp) (by unfold Nle; omega)⟩
  · exact ⟨_, rfl, k b (by simp) (by unfold Nle; omega)⟩
  · exact ⟨_, rfl, k c (by simp) (by unfold Nle; omega)⟩
  · exact ⟨_, rfl, k d (by simp) (by unfold Nle; omega)⟩
/-- a list of two, by a truth -/
theorem ix2b {p : Bool} (k1 : p = true → P y) (k2 : p = false → P x) : ∃ d, bIx (.lst [x, y]) (.int (if p = true then 1 else 0)) = some d ∧ P d := by
  cases p with
  | true => exact ⟨_, rfl, k1 rfl⟩
  | false => exact ⟨_, rfl, k2 rfl⟩
theorem ix2bi {p : Bool} (k : ∀ z, z = (if p = true then b else a) → Nle z (a.natAbs + b.natAbs) → P (.int z)) : ∃ d, bIx (.lst [.int a, .int b]) (.int (if p = true then 1 else 0)) = some d ∧ P d := by
  cases p with
  | true => exact ⟨_, rfl, k _ rfl (by simp [Nle])⟩
  | false => exact ⟨_, rfl, k _ rfl (by simp [Nle])⟩
end
theorem is_for {p : Pt} {b : MS} {xs : List D} {ρ : Sl} {Q : Fl → Sl → Prop} (h : W (forL p b xs) ρ Q) : W (forL p b xs) ρ Q := h
theorem is_comp {vs : List Nat} {p : Pt} {c e : M D} {xs : List D} {ρ : Sl} {Q : List D → Sl → Prop} (h : W (compL vs p c e xs) ρ Q) : W (compL vs p c e xs) ρ Q := h
theorem is_chain {x : Option D} {A : Bool → Bool → Prop} {P : Bool → Bool → Prop} (h : ∃ p q : Bool, x = some (.bl p) ∧ A p q ∧ P p q) : ∃ p q : Bool, x = some (.bl p) ∧ A p q ∧ P p q := h
theorem Nb.lit {n : Nat} : Nb (n.log2 + 1) (OfNat.ofNat n : Int) := Nat.lt_log2_self
theorem call_st {F : List D → Res D} {ds : List D} {d : D} {P : D → Prop} (e : F ds = .ok d) (k : P d) : ∃ d, F ds = .ok d ∧ P d := ⟨d, e, k⟩
theorem eq_bl2 {a b : Bool} : bEq (.bl a) (.bl b) = some (.bl (a == b)) := by cases a <;> cases b <;> rfl
theorem ne_bl2 {a b : Bool} : bNe (.bl a) (.bl b) = some (.bl (a != b)) := by cases a <;> cases b <;> rfl
theorem eqb_st {a b : Bool} {P : D → Prop} (k : P (.bl (a == b))) : ∃ d, bEq (.bl a) (.bl b) = some d ∧ P d := ⟨_, eq_bl2, k⟩
theorem neb_st {a b : Bool} {P : D → Prop} (k : P (.bl (a != b))) : ∃ d, bNe (.bl a) (.bl b) = some d ∧ P d := ⟨_, ne_bl2, k⟩
theorem isb_st {b : Bool} {P : D → Prop} (k : P (.bl true)) : ∃ d, bIsi "bool" (.bl b) = some d ∧ P d := ⟨_, CLX.isi_bool, k⟩
theorem is_W {α : Type} {m : M α} {ρ : Sl} {Q : α → Sl → Prop} (h : W m ρ Q) : W m ρ Q := h
theorem is_ex {α : Type} {P : α → Prop} (h : ∃ x, P x) : ∃ x, P x := h
theorem is_ev {o : Option D} {P : D → Prop} (h : ∃ d, o = some d ∧ P d) : ∃ d, o = some d ∧ P d := h
theorem is_evA {α : Type} {o : Option α} {P : α → Prop} (h : ∃ d, o = some d ∧ P d) : ∃ d, o = some d ∧ P d := h
theorem is_evI {o : D} {P : Int → Prop} (h : ∃ d, o = .int d ∧ P d) : ∃ d, o = .int d ∧ P d := h
theorem is_evR {o : Fl} {P : D → Prop} (h : ∃ d, o = .ret d ∧ P d) : ∃ d, o = .ret d ∧ P d := h
theorem is_evS {o : Option (Option D)} {P : D → Prop} (h : ∃ d, o = some (some d) ∧ P d) : ∃ d, o = some (some d) ∧ P d := h
theorem is_evL {o : Option (Option D)} {P : List D → Prop} (h : ∃ l, o = some (some (.lst l)) ∧ P l) : ∃ l, o = some (some (.lst l)) ∧ P l := h
end CL

namespace CLX
open PySem PySem.Spec L2 CL
local macro_rules | `(tactic| walk_at "o") => `(tactic| ((try simp only [backA, List.set_cons_zero, List.set_cons_succ, wipeD, List.map_cons, List.map_nil, List.cons_append, List.nil_append, List.replicate_succ, List.replicate_zero]); first | done | rfl))
local macro_rules | `(tactic| walk_at "b") => `(tactic| first
  | with_reducible exact Nb.lit
  | ((with_reducible apply Nb.mul) <;> walk_at "b")
  | ((with_reducible apply Nb.add) <;> walk_at "b")
  | ((with_reducible apply Nb.sub) <;> walk_at "b")
  | ((with_reducible apply Nb.neg) <;> walk_at "b")
  | ((with_reducible apply Nb.fdiv) <;> walk_at "b")
  | ((with_reducible apply Nb.fmod); (· walk_at "z"); (· walk_at "b"))
  | ((with_reducible apply Nb.max) <;> walk_at "b")
  | ((with_reducible apply Nb.min) <;> walk_at "b")
  | ((with_reducible apply Nb.ite) <;> walk_at "b")
  | with_reducible assumption
  | with_reducible exact Nb.le (by assumption)
  | with_reducible exact Nb.nle (by assumption)
  | with_reducible exact Nb.lt (by assumption)
  | ((with_reducible apply Nb.rng (by assumption) (by assumption)) <;> walk_at "b")
  | ((with_reducible apply Nb.rngE (by assumption) (by assumption)) <;> walk_at "b")
  | with_reducible exact Nb.self _)
local macro_rules | `(tactic| walk_at "z") => `(tactic| first | decide | assumption | omega | exact fmod_nn (by omega) | exact fmod_lt (by omega))
local macro_rules | `(tactic| walk_at "e") => `(tactic| first
  | ((with_reducible refine is_ev ?_); first
    | ((with_reducible apply mul_st); (· walk_at "b"); (· walk_at "b"); (· rfl))
    | ((with_reducible apply mul_s1); (· walk_at "b"); (· rfl))
    | ((with_reducible apply mul_s2); (· walk_at "b"); (· rfl))
    | ((with_reducible apply div_st); (· walk_at "z"); (· walk_at "b"); (· rfl))
    | ((with_reducible apply mod_st); (· walk_at "z"))
    | with_reducible apply tup_pt
    | with_reducible apply tup_ln
    | ((with_reducible apply tup_st); (· rfl))
    | ((with_reducible apply lst_st); (· rfl))
    | with_reducible apply eqi_st
    | with_reducible apply nei_st
    | with_reducible apply eqp_st
    | with_reducible apply nep_st
    | with_reducible apply eqp_st'
    | with_reducible apply nep_st'
    | with_reducible apply eqb_st
    | with_reducible apply neb_st
    | with_reducible apply isb_st
    | with_reducible apply eqs_st
    | with_reducible apply nes_st
    | with_reducible refine ix2bi (fun _ _ _ => ?_)
    | ((with_reducible refine ix4i ?_ ?_ (fun _ _ _ => ?_)); (· walk_at "z"); (· walk_at "z"))
    | ((with_reducible refine ix2i ?_ ?_ (fun _ _ _ => ?_)); (· walk_at "z"); (· walk_at "z"))
    | ((with_reducible refine ix3i ?_ ?_ (fun _ _ _ => ?_)); (· walk_at "z"); (· walk_at "z"))
    | refine ⟨_, rfl, ?_⟩)
  | ((with_reducible refine fill_st ?_); refine ⟨_, rfl, ?_⟩; (try dsimp only))
  | ((with_reducible apply and_go rfl); (· (intro _; (repeat walk_at "s"); with_reducible exact ⟨rfl, rfl⟩)))
  | ((with_reducible refine is_chain ?_); (apply chain_go rfl); (· (intro _; (repeat walk_at "s"); exact ⟨rfl, rfl⟩)))
  | ((with_reducible refine draw_step (by assumption) ?_ ?_ (fun _ _ _ _ _ => ?_)); (· walk_at "z"); (· walk_at "z"))
  | ((with_reducible refine CLY.draw_step (by assumption) ?_ ?_ (fun _ _ _ _ _ => ?_)); (· walk_at "z"); (· walk_at "z"))
  | ((with_reducible refine is_evA ?_); refine ⟨_, rfl, ?_⟩)
  | ((with_reducible refine is_evL ?_); refine ⟨_, rfl, ?_⟩)
  | ((with_reducible refine is_evI ?_); refine ⟨_, rfl, ?_⟩)
  | ((with_reducible refine is_evR ?_); refine ⟨_, rfl, ?_⟩))
local macro_rules | `(tactic| walk_at "f") => `(tactic| first
  | with_reducible refine W_mV.mpr ?_
  | with_reducible refine W_mCons.mpr ?_
  | with_reducible refine W_m2.mpr ?_
  | with_reducible refine W_mC.mpr ?_
  | with_reducible refine W_mNil.mpr ?_
  | with_reducible refine W_mN.mpr ?_
  | with_reducible refine W_sSeq.mpr ?_
  | with_reducible refine W_sAsg.mpr ?_
  | with_reducible refine W_m1.mpr ?_
  | with_reducible refine W_mCallP.mpr ?_
  | with_reducible refine W_mCall.mpr ?_
  | with_reducible refine X_evI.mpr ?_
  | with_reducible refine X_evE.mpr ?_
  | with_reducible refine X_evN.mpr ?_
  | with_reducible refine X_if ?_
  | with_reducible refine W_sRet.mpr ?_
  | with_reducible refine W_sK.mpr ?_
  | with_reducible refine X_and ?_
  | with_reducible refine X_or ?_
  | with_reducible refine W_sPar.mpr ?_
  | with_reducible refine W_mSl.mpr ?_
  | with_reducible refine W_mPtN.mpr ?_
  | with_reducible refine W_mPtS.mpr ?_
  | with_reducible refine W_mIt.mpr ?_
  | with_reducible refine W_mItN.mpr ?_
  | with_reducible refine W_mComp.mpr ?_
  | ((with_reducible refine is_comp ?_); first | (apply X_compN; (· walk_at "o")) | ((with_reducible apply X_compY); (· walk_at "o"); (· rfl)))
  | with_reducible refine W_sFor.mpr ?_
  | ((with_reducible refine is_for ?_); refine W_forNil.mpr ?_)
  | with_reducible refine X_chain ?_
  | with_reducible refine W_sExp.mpr ?_
  | with_reducible refine W_mL.mpr ?_
  | with_reducible refine X_mif ?_
  | with_reducible refine W_mIxS.mpr ?_
  | with_reducible refine W_mYes.mpr ?_
  | with_reducible refine W_sPar3.mpr ?_
  | with_reducible refine W_mApp.mpr ?_
  | with_reducible refine W_mBor.mpr ?_
  | with_reducible refine CLX.W_sFz.mpr ?_)
local macro_rules | `(tactic| walk_at "s") => `(tactic| first
  | ((with_reducible refine is_W ?_); walk_at "f")
  | ((with_reducible refine is_ex ?_); first
    | ((with_reducible refine is_evS ?_); refine ⟨_, rfl, ?_⟩)
    | ((with_reducible apply call_st); (· with_reducible assumption))
    | with_reducible refine ⟨_, rcv_a, ?_⟩
    | with_reducible refine ⟨_, rcv_t, ?_⟩
    | with_reducible refine ⟨_, fld_n, ?_⟩
    | with_reducible refine ⟨_, fld_d, ?_⟩
    | with_reducible refine ⟨_, fld_o, ?_⟩
    | walk_at "e")
  | ((with_reducible apply X_nx); (· walk_at "o"))
  | with_reducible refine Kq_ret.mpr ?_
  | with_reducible refine Kq_brk.mpr ?_
  | with_reducible refine Kq_cnt.mpr ?_
  | ((with_reducible apply X_fnx); (· walk_at "o"))
  | ((with_reducible apply X_fcnt); (· walk_at "o"))
  | with_reducible refine X_fbrk ?_
  | with_reducible refine X_fret ?_
  | ((with_reducible refine is_ltA ?_); refine ⟨?_, ?_⟩; (· first | decide | omega | (simp; omega) | (simp; done)))
  | with_reducible refine parW_mk.mpr ?_
  | with_reducible refine par3W_mk.mpr ?_)
local macro_rules | `(tactic| walk_at "r") => `(tactic| repeat walk_at "s")
local macro_rules | `(tactic| walk_at "u") => `(tactic| first | ((apply X_forC); (· walk_at "o"); (· rfl)) | ((apply X_compY); (· walk_at "o"); (· rfl)) | ((apply X_compC); (· walk_at "o"); (· rfl)))
/-! the papers of cells that are told -/
theorem ins_frac {f w L H k m : Int} (hm : 0 < m) : Ins f w L H ((k : Rat) / m) ↔ L * m ≤ f * m + w * k ∧ f * m + w * k < H * m := by
  have e : InsI f w L H m (2 * k) ↔ L * m ≤ f * m + w * k ∧ f * m + w * k < H * m := by
    unfold InsI
    have e0 : f * 2 * m + w * (2 * k) = 2 * (f * m + w * k) := by grind
    have e1 : 2 * L * m = 2 * (L * m) := by grind
    have e2 : 2 * H * m = 2 * (H * m) := by grind
    rw [e0, e1, e2]
    omega
  rw [← e, insI_iff hm]
  have : ((2 * k : Int) : Rat) / (2 * m) = (k : Rat) / m := by
    have m0 : (m : Rat) ≠ 0 := by exact_mod_cast (show m ≠ 0 by omega)
    push_cast
    grind
  rw [this]
theorem metI_of {g x y u v i j k m : Int} (hm : 0 < m) (h0 : (0 : Rat) ≤ (k : Rat) / m) (h1 : (k : Rat) / m ≤ 1) (ix : Ins (2 * x) (2 * (u - x)) ((2 * i - 1) * g) ((2 * i + 1) * g) ((k : Rat) / m)) (iy : Ins (2 * y) (2 * (v - y)) ((2 * j - 1) * g) ((2 * j + 1) * g) ((k : Rat) / m)) : metI g x y u v i j k m = true := by
  have m0 : (0 : Rat) < m := by exact_mod_cast hm
  rw [rle_div m0] at h0
  rw [rdiv_le m0] at h1
  have k0 : 0 ≤ k := by
    have : (0 : Rat) ≤ k := by grind
    exact_mod_cast this
  have k1 : k ≤ m := by
    have : (k : Rat) ≤ m := by grind
    exact_mod_cast this
  rw [ins_frac hm] at ix iy
  have e : ∀ a b : Int, 2 * (a * (m - k) + b * k) = 2 * a * m + 2 * (b - a) * k := fun a b => by grind
  unfold metI inI
  rw [e, e]
  simp only [Bool.and_eq_true, decide_eq_true_eq]
  exact ⟨⟨by omega, k0, k1⟩, ix, iy⟩
def shareB (a b : Bd) : Int × Int := if a.o = false then (a.n, a.d) else if b.o = false then (b.n, b.d) else (a.n * b.d + b.n * a.d, 2 * a.d * b.d)
theorem share_in {a b : Bd} (ha : 0 < a.d) (hb : 0 < b.d) (h : openB a b = true) : 0 < (shareB a b).2 ∧ a.ge (((shareB a b).1 : Rat) / (shareB a b).2) ∧ b.le (((shareB a b).1 : Rat) / (shareB a b).2) := by
  have ha' : (0 : Rat) < a.d := by exact_mod_cast ha
  have hb' : (0 : Rat) < b.d := by exact_mod_cast hb
  have hle : a.q < b.q ∨ (a.q = b.q ∧ a.o = false ∧ b.o = false) := by
    unfold openB at h
    simp only [Bool.or_eq_true, Bool.and_eq_true, Bool.not_eq_true'] at h
    rcases h with h | ⟨h1, h2, h3⟩
    · exact .inl ((lt_iff ha hb).mp h)
    · exact .inr ⟨(at_iff ha hb).mp h1, h2, h3⟩
  unfold shareB
  cases ao : a.o with
  | false =>
    rw [if_pos rfl]
    refine ⟨ha, ?_, ?_⟩
    · unfold Bd.ge; rw [ao]; simp only [Bool.false_eq_true, if_false]; exact Rat.le_refl
    · show b.le a.q
      unfold Bd.le
      cases bo : b.o with
      | false => simp; rcases hle with h | h <;> grind
      | true => simp; rcases hle with h | h; (· exact h); (· rw [bo] at h; cases h.2.2)
  | true =>
    rw [if_neg (by simp)]
    have lt : a.q < b.q := by rcases hle with h | h; (· exact h); (· rw [ao] at h; cases h.2.1)
    cases bo : b.o with
    | false =>
      rw [if_pos rfl]
      refine ⟨hb, ?_, ?_⟩
      · show a.ge b.q; unfold Bd.ge; rw [ao]; simpa using lt
      · show b.le b.q; unfold Bd.le; rw [bo]; simp
    | true =>
      rw [if_neg (by simp)]
      have e : (((a.n * b.d + b.n * a.d : Int)) : Rat) / ((2 * a.d * b.d : Int) : Rat) = (a.q + b.q) / 2 := by
        unfold Bd.q
        push_cast
        have : (a.d : Rat) ≠ 0 := by grind
        have : (b.d : Rat) ≠ 0 := by grind
        grind
      refine ⟨by have := Int.mul_pos ha hb; rw [Int.mul_assoc]; omega, ?_, ?_⟩
      · show a.ge (((a.n * b.d + b.n * a.d : Int) : Rat) / ((2 * a.d * b.d : Int) : Rat))
        rw [e]; unfold Bd.ge; rw [ao]; simp; grind
      · show b.le (((a.n * b.d + b.n * a.d : Int) : Rat) / ((2 * a.d * b.d : Int) : Rat))
        rw [e]; unfold Bd.le; rw [bo]; simp; grind
/-! past a cell -/
def leastI (x y u v p q : Int) : Int := min (2 * (p * x + q * y)) (2 * (p * u + q * v))
def pastI (g x y u v i j p q : Int) : Bool := decide (topI g i p + topI g j q < leastI x y u v p q) || (decide (topI g i p + topI g j q = leastI x y u v p q) && (decide (0 < p) || decide (0 < q)))
theorem past_miss {g x y u v i j p q : Int} (n : ¬ (p = 0 ∧ q = 0)) (h : pastI g x y u v i j p q = true) : missI g x y u v i j p q (leastI x y u v p q) = true := by
  unfold missI
  unfold pastI at h
  have h1 : leastI x y u v p q ≤ 2 * (p * x + q * y) := by unfold leastI; omega
  have h2 : leastI x y u v p q ≤ 2 * (p * u + q * v) := by unfold leastI; omega
  simp only [n, h1, h2, decide_true, decide_false, Bool.not_false, Bool.true_and, Bool.and_true]
  exact h
/-- a point of the cell, between its lesser corner and where p, q are greatest -/
theorem cell_point {p q L H L' H' X Y c : Rat} (hX : X = L ∨ (X = H ∧ L < H)) (hY : Y = L' ∨ (Y = H' ∧ L' < H')) (hL : L < H) (hL' : L' < H') (h1 : p * L + q * L' < c) (h2 : c < p * X + q * Y) : ∃ s t : Rat, L ≤ s ∧ s < H ∧ L' ≤ t ∧ t < H' ∧ p * s + q * t = c := by
  have d0 : (0 : Rat) < p * X + q * Y - (p * L + q * L') := by grind
  let e : Rat := (p * X + q * Y - c) / (p * X + q * Y - (p * L + q * L'))
  have e0 : 0 < e := by
    have : e * (p * X + q * Y - (p * L + q * L')) = p * X + q * Y - c := by show (p * X + q * Y - c) / _ * _ = _; grind
    refine Classical.byContradiction fun n => ?_
    have n' : 0 ≤ -e := by grind
    have := Rat.mul_nonneg n' (Rat.le_of_lt d0)
    grind
  have e1 : e < 1 := by
    have : e * (p * X + q * Y - (p * L + q * L')) = p * X + q * Y - c := by show (p * X + q * Y - c) / _ * _ = _; grind
    refine Classical.byContradiction fun n => ?_
    have n' : 0 ≤ e - 1 := by grind
    have := Rat.mul_nonneg n' (Rat.le_of_lt d0)
    grind
  have ee : e * (p * X + q * Y - (p * L + q * L')) = p * X + q * Y - c := by show (p * X + q * Y - c) / _ * _ = _; grind
  have row : ∀ A B Z : Rat, A < B → (Z = A ∨ (Z = B ∧ A < B)) → A ≤ Z + e * (A - Z) ∧ Z + e * (A - Z) < B := fun A B Z hAB hZ => by
    rcases hZ with rfl | ⟨rfl, _⟩
    · grind
    · have p1 := Rat.mul_pos e0 (show 0 < Z - A by grind)
      have p2 := Rat.mul_pos (show 0 < 1 - e by grind) (show 0 < Z - A by grind)
      grind
  obtain ⟨r1, r2⟩ := row L H X hL hX
  obtain ⟨r3, r4⟩ := row L' H' Y hL' hY
  exact ⟨_, _, r1, r2, r3, r4, by grind⟩
theorem row_hit {f e L H : Rat} (hLH : L < H) (h1 : f < H ∨ e < H) (h2 : L ≤ f ∨ L ≤ e) : ∃ t : Rat, 0 ≤ t ∧ t ≤ 1 ∧ L ≤ f + (e - f) * t ∧ f + (e - f) * t < H := by
  by_cases c0 : L ≤ f ∧ f < H
  · exact ⟨0, by grind, by grind, by grind, by grind⟩
  by_cases c1 : L ≤ e ∧ e < H
  · exact ⟨1, by grind, by grind, by grind, by grind⟩
  have ne : e - f ≠ 0 := by grind
  have k : (e - f) * ((L - f) / (e - f)) = L - f := by grind
  refine ⟨(L - f) / (e - f), ?_, ?_, by grind, by grind⟩
  · refine Classical.byContradiction fun n => ?_
    have n' : 0 < -((L - f) / (e - f)) := by grind
    by_cases s : 0 < e - f
    · have := Rat.mul_pos n' s
      grind
    · have := Rat.mul_pos n' (show 0 < -(e - f) by grind)
      grind
  · refine Classical.byContradiction fun n => ?_
    have n' : 0 < (L - f) / (e - f) - 1 := by grind
    by_cases s : 0 < e - f
    · have := Rat.mul_pos n' s
      grind
    · have := Rat.mul_pos n' (show 0 < -(e - f) by grind)
      grind
theorem on_line {x y u v s t : Rat} (n : ¬ (x = u ∧ y = v)) (h : (y - v) * s + (u - x) * t = (y - v) * (2 * x) + (u - x) * (2 * y)) : ∃ r : Rat, 2 * x + 2 * (u - x) * r = s ∧ 2 * y + 2 * (v - y) * r = t := by
  by_cases c : u - x = 0
  · have c' : v - y ≠ 0 := by grind
    refine ⟨(t - 2 * y) / (2 * (v - y)), ?_, ?_⟩
    · have : (v - y) * (s - 2 * x) = 0 := by grind
      rcases Rat.mul_eq_zero.mp this with h | h <;> grind
    · grind
  · refine ⟨(s - 2 * x) / (2 * (u - x)), by grind, ?_⟩
    have : (u - x) * (t - 2 * y) = (v - y) * (s - 2 * x) := by grind
    grind
/-- three stretches of one way, any two of which have a share in common -/
theorem helly {f w L H f' w' L' H' : Int} {r : Rat} (h : Ins f w L H r) (h' : Ins f' w' L' H' r) (k : ∃ t : Rat, 0 ≤ t ∧ t ≤ 1 ∧ Ins f w L H t) (k' : ∃ t : Rat, 0 ≤ t ∧ t ≤ 1 ∧ Ins f' w' L' H' t) : Meet f w L H f' w' L' H' := by
  obtain ⟨t, t0, t1, kt⟩ := k
  obtain ⟨t', t0', t1', kt'⟩ := k'
  have conv : ∀ {f w L H : Int} {a b c : Rat}, a ≤ b → b ≤ c → Ins f w L H a → Ins f w L H c → Ins f w L H b := by
    intro f w L H a b c h1 h2 ha hc
    obtain ⟨a1, a2⟩ := ha
    obtain ⟨c1, c2⟩ := hc
    by_cases s : (0 : Rat) ≤ w
    · have m1 := Rat.mul_nonneg s (show 0 ≤ b - a by grind)
      have m2 := Rat.mul_nonneg s (show 0 ≤ c - b by grind)
      exact ⟨by grind, by grind⟩
    · have m1 := Rat.mul_nonneg (show (0 : Rat) ≤ -w by grind) (show 0 ≤ b - a by grind)
      have m2 := Rat.mul_nonneg (show (0 : Rat) ≤ -w by grind) (show 0 ≤ c - b by grind)
      exact ⟨by grind, by grind⟩
  by_cases r0 : r < 0
  · exact ⟨0, by grind, by grind, conv (by grind) t0 h kt, conv (by grind) t0' h' kt'⟩
  by_cases r1 : 1 < r
  · exact ⟨1, by grind, by grind, conv t1 (by grind) kt h, conv t1' (by grind) kt' h'⟩
  exact ⟨r, by grind, by grind, h, h'⟩
theorem past_spec {g x y u v i j p q : Int} (g0 : 0 < g) (h : pastI g x y u v i j p q = false) : ∃ X Y : Int, (X = (2 * i - 1) * g ∨ (X = (2 * i + 1) * g)) ∧ (Y = (2 * j - 1) * g ∨ Y = (2 * j + 1) * g) ∧ (leastI x y u v p q < p * X + q * Y ∨ (leastI x y u v p q ≤ p * X + q * Y ∧ X = (2 * i - 1) * g ∧ Y = (2 * j - 1) * g)) := by
  refine ⟨if 0 < p then (2 * i + 1) * g else (2 * i - 1) * g, if 0 < q then (2 * j + 1) * g else (2 * j - 1) * g, by split <;> simp, by split <;> simp, ?_⟩
  rw [← top_eq g0, ← top_eq g0]
  simp only [pastI, Bool.or_eq_false_iff, Bool.and_eq_false_iff, decide_eq_false_iff_not] at h
  obtain ⟨h1, h2⟩ := h
  by_cases c : leastI x y u v p q < topI g i p + topI g j q
  · exact .inl c
  · have e : topI g i p + topI g j q = leastI x y u v p q := by omega
    rcases h2 with h2 | ⟨h2, h3⟩
    · exact absurd e h2
    · exact .inr ⟨by omega, by rw [if_neg h2], by rw [if_neg h3]⟩
/-- where a line misses a cell it lies past it along an axis or across itself -/
theorem way_ok {g x y u v i j : Int} (g0 : 0 < g) (n : ¬ (x = u ∧ y = v)) (hc : cellB g x y u v i j = false)
    (h1 : pastI g x y u v i j 1 0 = false) (h2 : pastI g x y u v i j 0 1 = false) (h3 : pastI g x y u v i j (-1) 0 = false) (h4 : pastI g x y u v i j 0 (-1) = false) (h5 : pastI g x y u v i j (y - v) (u - x) = false) :
    pastI g x y u v i j (-(y - v)) (-(u - x)) = true := by
  cases h6 : pastI g x y u v i j (-(y - v)) (-(u - x)) with
  | true => rfl
  | false =>
    exfalso
    have LH : ∀ k : Int, (2 * k - 1) * g < (2 * k + 1) * g := fun k => by
      have : (2 * k + 1) * g = (2 * k - 1) * g + 2 * g := by grind
      omega
    have m : Meet (2 * x) (2 * (u - x)) ((2 * i - 1) * g) ((2 * i + 1) * g) (2 * y) (2 * (v - y)) ((2 * j - 1) * g) ((2 * j + 1) * g) := by
      have rx : ∃ t : Rat, 0 ≤ t ∧ t ≤ 1 ∧ Ins (2 * x) (2 * (u - x)) ((2 * i - 1) * g) ((2 * i + 1) * g) t := by
        have a1 : 2 * x < (2 * i + 1) * g ∨ 2 * u < (2 * i + 1) * g := by
          simp [pastI, leastI, topI] at h1
          have := LH i
          omega
        have a2 : (2 * i - 1) * g ≤ 2 * x ∨ (2 * i - 1) * g ≤ 2 * u := by
          simp [pastI, leastI, topI] at h3
          have := LH i
          have e1 : -(2 * i - 1) * g = -((2 * i - 1) * g) := by grind
          have e2 : -(2 * i + 1) * g = -((2 * i + 1) * g) := by grind
          omega
        obtain ⟨t, t0, t1, b1, b2⟩ := row_hit (f := ((2 * x : Int) : Rat)) (e := ((2 * u : Int) : Rat)) (L := (((2 * i - 1) * g : Int) : Rat)) (H := (((2 * i + 1) * g : Int) : Rat)) (by exact_mod_cast LH i) (a1.imp (fun z => by exact_mod_cast z) fun z => by exact_mod_cast z) (a2.imp (fun z => by exact_mod_cast z) fun z => by exact_mod_cast z)
        refine ⟨t, t0, t1, ?_, ?_⟩ <;> (push_cast at *; grind)
      have ry : ∃ t : Rat, 0 ≤ t ∧ t ≤ 1 ∧ Ins (2 * y) (2 * (v - y)) ((2 * j - 1) * g) ((2 * j + 1) * g) t := by
        have a1 : 2 * y < (2 * j + 1) * g ∨ 2 * v < (2 * j + 1) * g := by
          simp [pastI, leastI, topI] at h2
          have := LH j
          omega
        have a2 : (2 * j - 1) * g ≤ 2 * y ∨ (2 * j - 1) * g ≤ 2 * v := by
          simp [pastI, leastI, topI] at h4
          have := LH j
          have e1 : -(2 * j - 1) * g = -((2 * j - 1) * g) := by grind
          have e2 : -(2 * j + 1) * g = -((2 * j + 1) * g) := by grind
          omega
        obtain ⟨t, t0, t1, b1, b2⟩ := row_hit (f := ((2 * y : Int) : Rat)) (e := ((2 * v : Int) : Rat)) (L := (((2 * j - 1) * g : Int) : Rat)) (H := (((2 * j + 1) * g : Int) : Rat)) (by exact_mod_cast LH j) (a1.imp (fun z => by exact_mod_cast z) fun z => by exact_mod_cast z) (a2.imp (fun z => by exact_mod_cast z) fun z => by exact_mod_cast z)
        refine ⟨t, t0, t1, ?_, ?_⟩ <;> (push_cast at *; grind)
      have pt : ∃ s t : Rat, (((2 * i - 1) * g : Int) : Rat) ≤ s ∧ s < (((2 * i + 1) * g : Int) : Rat) ∧ (((2 * j - 1) * g : Int) : Rat) ≤ t ∧ t < (((2 * j + 1) * g : Int) : Rat) ∧ ((y - v : Int) : Rat) * s + ((u - x : Int) : Rat) * t = ((y - v : Int) : Rat) * (2 * x) + ((u - x : Int) : Rat) * (2 * y) := by
        have lc : ∀ p q : Int, p * (u - x) + q * (v - y) = 0 → leastI x y u v p q = 2 * (p * x + q * y) := fun p q z => by
          unfold leastI
          have : p * u + q * v = p * x + q * y := by grind
          omega
        have hLi : (((2 * i - 1) * g : Int) : Rat) < (((2 * i + 1) * g : Int) : Rat) := by exact_mod_cast LH i
        have hLj : (((2 * j - 1) * g : Int) : Rat) < (((2 * j + 1) * g : Int) : Rat) := by exact_mod_cast LH j
        have side : ∀ p q : Int, p * (u - x) + q * (v - y) = 0 → pastI g x y u v i j p q = false → p * ((2 * i - 1) * g) + q * ((2 * j - 1) * g) < 2 * (p * x + q * y) → ∃ s t : Rat, (((2 * i - 1) * g : Int) : Rat) ≤ s ∧ s < (((2 * i + 1) * g : Int) : Rat) ∧ (((2 * j - 1) * g : Int) : Rat) ≤ t ∧ t < (((2 * j + 1) * g : Int) : Rat) ∧ (p : Rat) * s + (q : Rat) * t = ((2 * (p * x + q * y) : Int) : Rat) := fun p q z hp lt => by
          obtain ⟨X, Y, hX, hY, hh⟩ := past_spec g0 hp
          rw [lc p q z] at hh
          have gt : 2 * (p * x + q * y) < p * X + q * Y := by
            rcases hh with hh | ⟨_, rfl, rfl⟩
            · exact hh
            · omega
          refine cell_point (X := X) (Y := Y) ?_ ?_ hLi hLj (by exact_mod_cast lt) (by exact_mod_cast gt)
          · rcases hX with rfl | rfl
            · exact .inl rfl
            · exact .inr ⟨rfl, hLi⟩
          · rcases hY with rfl | rfl
            · exact .inl rfl
            · exact .inr ⟨rfl, hLj⟩
        rcases Int.lt_trichotomy ((y - v) * ((2 * i - 1) * g) + (u - x) * ((2 * j - 1) * g)) (2 * ((y - v) * x + (u - x) * y)) with lt | eq | gt
        · obtain ⟨s, t, b1, b2, b3, b4, b5⟩ := side _ _ (by grind) h5 lt
          refine ⟨s, t, b1, b2, b3, b4, ?_⟩
          rw [b5]; push_cast; grind
        · refine ⟨_, _, Rat.le_refl, hLi, Rat.le_refl, hLj, ?_⟩
          have : (((y - v) * ((2 * i - 1) * g) + (u - x) * ((2 * j - 1) * g) : Int) : Rat) = ((2 * ((y - v) * x + (u - x) * y) : Int) : Rat) := by rw [eq]
          push_cast at this ⊢
          grind
        · obtain ⟨s, t, b1, b2, b3, b4, b5⟩ := side _ _ (by grind) h6 (by grind)
          refine ⟨s, t, b1, b2, b3, b4, ?_⟩
          push_cast at b5 ⊢
          grind
      obtain ⟨s, t, b1, b2, b3, b4, b5⟩ := pt
      obtain ⟨r, e1, e2⟩ := on_line (x := x) (y := y) (u := u) (v := v) (s := s) (t := t) (fun z => n ⟨by exact_mod_cast z.1, by exact_mod_cast z.2⟩) (by push_cast at b5; exact b5)
      refine helly (r := r) ⟨?_, ?_⟩ ⟨?_, ?_⟩ rx ry <;> (push_cast at *; grind)
    unfold cellB at hc
    rw [metB_iff.mpr m] at hc
    cases hc
def B_share_between : MS := (sSeq (sIf (m1 bNot (m1 (bFld "is_out") (mV 0))) (sRet (mN bTup (mCons (m1 (bFld "n") (mV 0)) (mCons (m1 (bFld "d") (mV 0)) mNil)))) (sK .nx)) (sSeq (sIf (m1 bNot (m1 (bFld "is_out") (mV 1))) (sRet (mN bTup (mCons (m1 (bFld "n") (mV 1)) (mCons (m1 (bFld "d") (mV 1)) mNil)))) (sK .nx)) (sRet (mN bTup (mCons (m2 bAdd (m2 bMul (m1 (bFld "n") (mV 0)) (m1 (bFld "d") (mV 1))) (m2 bMul (m1 (bFld "n") (mV 1)) (m1 (bFld "d") (mV 0)))) (mCons (m2 bMul (m2 bMul (mC (.int 2)) (m1 (bFld "d") (mV 0))) (m1 (bFld "d") (mV 1))) mNil))))))
def F_share_between : List D → Res D := runP 0 B_share_between
def B_greatest_in : MS := (sSeq (sAsg (pN 4) (mC (.int 0))) (sSeq (sFor (pT 2 (psC (pN 5) (psC (pN 6) psN))) (mIt (mN bTup (mCons (mN bTup (mCons (mV 2) (mCons (m2 bIx (mV 1) (mC (.int 0))) mNil))) (mCons (mN bTup (mCons (mV 3) (mCons (m2 bIx (mV 1) (mC (.int 1))) mNil))) mNil)))) (sAsg (pN 4) (m2 bAddI (mV 4) (mN bMax1 (mCons (mComp [7] (pN 7) (mIt (mCallP F_rims_of (mCons (mV 0) (mCons (mV 6) mNil)))) mYes (m2 bMul (mV 5) (mV 7))) mNil))))) (sRet (mV 4))))
def F_greatest_in : List D → Res D := runP 4 B_greatest_in
def B_least_on : MS := (sRet (mN bMin1 (mCons (mComp [3, 4] (pT 2 (psC (pN 3) (psC (pN 4) psN))) (mIt (mV 0)) mYes (m2 bMul (mC (.int 2)) (m2 bAdd (m2 bMul (mV 1) (mV 3)) (m2 bMul (mV 2) (mV 4))))) mNil)))
def F_least_on : List D → Res D := runP 2 B_least_on
def B_is_past : MS := (sSeq (sAsg (pN 5) (mCallP F_least_on (mCons (mV 1) (mCons (mV 3) (mCons (mV 4) mNil))))) (sSeq (sAsg (pN 6) (mCallP F_greatest_in (mCons (mV 0) (mCons (mV 2) (mCons (mV 3) (mCons (mV 4) mNil)))))) (sRet (mOr (m2 bLt (mV 6) (mV 5)) (mAnd (m2 bEq (mV 6) (mV 5)) (mOr (m2 bGt (mV 3) (mC (.int 0))) (m2 bGt (mV 4) (mC (.int 0)))))))))
def F_is_past : List D → Res D := runP 2 B_is_past
def B_way_past : MS := (sSeq (sAsg (pN 3) (mN bTup (mCons (m2 bSub (m2 bIx (m2 bIx (mV 1) (mC (.int 0))) (mC (.int 1))) (m2 bIx (m2 bIx (mV 1) (mC (.int 1))) (mC (.int 1)))) (mCons (m2 bSub (m2 bIx (m2 bIx (mV 1) (mC (.int 1))) (mC (.int 0))) (m2 bIx (m2 bIx (mV 1) (mC (.int 0))) (mC (.int 0)))) mNil)))) (sSeq (sFor (pT 2 (psC (pN 4) (psC (pN 5) psN))) (mIt (mN bTup (mCons (mN bTup (mCons (mC (.int 1)) (mCons (mC (.int 0)) mNil))) (mCons (mN bTup (mCons (mC (.int 0)) (mCons (mC (.int 1)) mNil))) (mCons (mN bTup (mCons (m1 bNeg (mC (.int 1))) (mCons (mC (.int 0)) mNil))) (mCons (mN bTup (mCons (mC (.int 0)) (mCons (m1 bNeg (mC (.int 1))) mNil))) (mCons (mV 3) mNil))))))) (sIf (mCallP F_is_past (mCons (mV 0) (mCons (mV 1) (mCons (mV 2) (mCons (mV 4) (mCons (mV 5) mNil)))))) (sRet (mN bTup (mCons (mV 4) (mCons (mV 5) mNil)))) (sK .nx))) (sRet (mN bTup (mCons (m2 bSub (mC (.int 0)) (m2 bIx (mV 3) (mC (.int 0)))) (mCons (m2 bSub (mC (.int 0)) (m2 bIx (mV 3) (mC (.int 1)))) mNil))))))
def F_way_past : List D → Res D := runP 3 B_way_past
def B_meets_paper : MS := (sSeq (sAsg (pN 3) (mCallP F_met_between (mCons (mV 0) (mCons (mV 1) (mCons (mV 2) mNil))))) (sSeq (sIf (m2 bNotN (mV 3) (mC .non)) (sRet (m2 bAdd (mN bTup (mCons (mC (.str "meets")) mNil)) (mCallP F_share_between (mCons (m2 bIx (mV 3) (mC (.int 0))) (mCons (m2 bIx (mV 3) (mC (.int 1))) mNil))))) (sK .nx)) (sSeq (sAsg (pT 2 (psC (pN 4) (psC (pN 5) psN))) (mCallP F_way_past (mCons (mV 0) (mCons (mV 1) (mCons (mV 2) mNil))))) (sRet (mN bTup (mCons (mC (.str "misses")) (mCons (mV 4) (mCons (mV 5) (mCons (mCallP F_least_on (mCons (mV 1) (mCons (mV 4) (mCons (mV 5) mNil)))) mNil)))))))))
def F_meets_paper : List D → Res D := runP 3 B_meets_paper
theorem dbl {x : Int} (h : x.natAbs ≤ 10000000) : (2 * x).natAbs < 2 ^ 50 := by omega
theorem dbl2 {x u : Int} (h : x.natAbs ≤ 10000000) (h' : u.natAbs ≤ 10000000) : (2 * (u - x)).natAbs < 2 ^ 50 := by omega
set_option maxHeartbeats 0 in
theorem between_eq {g x y u v i j : Int} (hg : g.natAbs ≤ 1000) (hx : x.natAbs ≤ 10000000) (hy : y.natAbs ≤ 10000000) (hu : u.natAbs ≤ 10000000) (hv : v.natAbs ≤ 10000000) (hi : i.natAbs ≤ 10000000) (hj : j.natAbs ≤ 10000000) :
    ∃ d, F_met_between [.int g, ln x y u v, pt i j] = .ok d ∧ ((d = .non ∧ cellB g x y u v i j = false) ∨ ∃ a b : Bd, d = .tup [bdD a, bdD b] ∧ cellB g x y u v i j = true ∧ Sm a ∧ Sm b ∧ metI g x y u v i j (shareB a b).1 (shareB a b).2 = true) := by
  refine runP_ex ?_
  show W (sSeq (sPar 3 4 (mCons (mN (bMake "Bound" ["n", "d", "is_out"]) (mCons (mC (.int 0)) (mCons (mC (.int 1)) (mCons (mC (.bl false)) mNil)))) (mCons (mN (bMake "Bound" ["n", "d", "is_out"]) (mCons (mC (.int 1)) (mCons (mC (.int 1)) (mCons (mC (.bl false)) mNil)))) mNil))) (sSeq (sFor (pT 3 (psC (pN 5) (psC (pN 6) (psC (pN 7) psN)))) (mItN zip3 (mCons (m2 bIx (mV 1) (mC (.int 0))) (mCons (m2 bIx (mV 1) (mC (.int 1))) (mCons (mV 2) mNil)))) stepB) (sSeq (sIf (mOr (mCallP F_Bound_is_ahead_of (mCons (m1 (bRcv "Bound" "is_ahead_of") (mV 3)) (mCons (mV 4) mNil))) (mAnd (mCallP F_Bound_is_at (mCons (m1 (bRcv "Bound" "is_at") (mV 3)) (mCons (mV 4) mNil))) (mAnd (m1 bNot (m1 (bFld "is_out") (mV 3))) (m1 bNot (m1 (bFld "is_out") (mV 4)))))) (sRet (mN bTup (mCons (mV 3) (mCons (mV 4) mNil)))) (sK .nx)) (sRet (mC .non))))) _ _
  walk_at "r"
  walk_at "u"
  have z0 : Sm ⟨0, 1, false⟩ := ⟨by decide, by decide⟩
  have z1 : Sm ⟨1, 1, false⟩ := ⟨by decide, by decide⟩
  obtain ⟨r1, r2⟩ := rim_lt hg hi
  obtain ⟨r3, r4⟩ := rim_lt hg hj
  cases h1 : rowB (2 * x) (2 * (u - x)) ((2 * i - 1) * g) ((2 * i + 1) * g) with
  | none =>
    have hc : cellB g x y u v i j = false := by unfold cellB metB; rw [h1]
    refine step_none (s := ⟨0, 1, false⟩) (e := ⟨1, 1, false⟩) hg h1 fun ρ => ?_
    walk_at "r"
    exact .inl ⟨rfl, hc⟩
  | some p =>
    obtain ⟨s, e⟩ := p
    obtain ⟨m1, m2⟩ := row_sm (dbl hx) (dbl2 hx hu) r1 r2 h1
    obtain ⟨d1, d2, w1⟩ := row_some h1
    refine step_some (s := ⟨0, 1, false⟩) (e := ⟨1, 1, false⟩) hg z0 z1 m1 m2 h1 fun o8 o9 o10 => ?_
    walk_at "r"
    walk_at "u"
    cases h2 : rowB (2 * y) (2 * (v - y)) ((2 * j - 1) * g) ((2 * j + 1) * g) with
    | none =>
      have hc : cellB g x y u v i j = false := by unfold cellB metB; rw [h1, h2]
      refine step_none hg h2 fun ρ => ?_
      walk_at "r"
      exact .inl ⟨rfl, hc⟩
    | some p' =>
      obtain ⟨s', e'⟩ := p'
      obtain ⟨m3, m4⟩ := row_sm (dbl hy) (dbl2 hy hv) r3 r4 h2
      obtain ⟨d3, d4, w2⟩ := row_some h2
      have k1 := laterB_sm z0 m1
      have k2 := soonerB_sm z1 m2
      refine step_some hg k1 k2 m3 m4 h2 fun o8 o9 o10 => ?_
      have k3 := laterB_sm k1 m3
      have k4 := soonerB_sm k2 m4
      have l1 := laterB_d (a := ⟨0, 1, false⟩) (by decide) d1
      have l2 := soonerB_d (a := ⟨1, 1, false⟩) (by decide) d2
      have l3 := laterB_d l1 d3
      have l4 := soonerB_d l2 d4
      have hc : cellB g x y u v i j = openB (laterB (laterB ⟨0, 1, false⟩ s) s') (soonerB (soonerB ⟨1, 1, false⟩ e) e') := by unfold cellB metB; rw [h1, h2]
      have hin : ∀ t : Rat, (laterB (laterB ⟨0, 1, false⟩ s) s').ge t → (soonerB (soonerB ⟨1, 1, false⟩ e) e').le t → 0 ≤ t ∧ t ≤ 1 ∧ Ins (2 * x) (2 * (u - x)) ((2 * i - 1) * g) ((2 * i + 1) * g) t ∧ Ins (2 * y) (2 * (v - y)) ((2 * j - 1) * g) ((2 * j + 1) * g) t := fun t a b => by
        rw [later_ge l1 d3, later_ge (by decide) d1, bd0] at a
        rw [sooner_le l2 d4, sooner_le (by decide) d2, bd1] at b
        exact ⟨a.1.1, b.1.1, (w1 t a.1.1 b.1.1).mpr ⟨a.1.2, b.1.2⟩, (w2 t a.1.1 b.1.1).mpr ⟨a.2, b.2⟩⟩
      rw [hc]
      generalize laterB (laterB ⟨0, 1, false⟩ s) s' = A at *
      generalize soonerB (soonerB ⟨1, 1, false⟩ e) e' = B at *
      have E1 := ahead_eq k3 k4
      have E2 := at_eq k3 k4
      walk_at "r"
      have ho : openB A B = (A.lt B || (A.at B && (!A.o && !B.o))) := rfl
      refine go_if (fun h => ?_) fun h => ?_
      · walk_at "r"
        rw [← ho] at h
        obtain ⟨q1, q2, q3⟩ := share_in l3 l4 h
        obtain ⟨i1, i2, i3, i4⟩ := hin _ q2 q3
        exact .inr ⟨A, B, rfl, h, k3, k4, metI_of q1 i1 i2 i3 i4⟩
      · walk_at "r"
        rw [← ho] at h
        exact .inl ⟨rfl, h⟩
theorem share_eq2 {a b : Bd} (ha : Sm a) (hb : Sm b) : F_share_between [bdD a, bdD b] = .ok (pt (shareB a b).1 (shareB a b).2) := by
  have h1 : a.d.natAbs < 2 ^ 60 := ha.2
  have h2 : b.d.natAbs < 2 ^ 60 := hb.2
  have h3 : a.n.natAbs < 2 ^ 60 := ha.1
  have h4 : b.n.natAbs < 2 ^ 60 := hb.1
  refine runP_of ?_
  unfold B_share_between
  walk_at "r"
  unfold shareB
  refine go_if (fun h => ?_) fun h => ?_
  · walk_at "r"
    simp at h
    simp [h, pt]
  · walk_at "r"
    refine go_if (fun h' => ?_) fun h' => ?_
    · walk_at "r"
      simp at h h'
      simp [h, h', pt]
    · walk_at "r"
      simp at h h'
      simp [h, h', pt]
theorem least_eq {x y u v p q : Int} (hx : x.natAbs ≤ 10000000) (hy : y.natAbs ≤ 10000000) (hu : u.natAbs ≤ 10000000) (hv : v.natAbs ≤ 10000000) (hp : p.natAbs ≤ 100000000) (hq : q.natAbs ≤ 100000000) : F_least_on [ln x y u v, .int p, .int q] = .ok (.int (leastI x y u v p q)) := by
  refine runP_of ?_
  unfold B_least_on
  walk_at "r"
  rfl
theorem rims_st {g k : Int} {P : D → Prop} (hg : g.natAbs ≤ 1000) (h : P (pt ((2 * k - 1) * g) ((2 * k + 1) * g))) : ∃ d, F_rims_of [.int g, .int k] = .ok d ∧ P d := ⟨_, rims_eq (by omega), h⟩
theorem great_eq {g i j p q : Int} (hg : g.natAbs ≤ 1000) (hi : i.natAbs ≤ 10000000) (hj : j.natAbs ≤ 10000000) (hp : p.natAbs ≤ 100000000) (hq : q.natAbs ≤ 100000000) : F_greatest_in [.int g, pt i j, .int p, .int q] = .ok (.int (topI g i p + topI g j q)) := by
  refine runP_of ?_
  unfold B_greatest_in
  walk_at "r"
  walk_at "u"
  walk_at "r"
  refine rims_st hg ?_
  walk_at "r"
  walk_at "u"
  walk_at "r"
  refine rims_st hg ?_
  walk_at "r"
  simp only [List.foldl, topI]
  simp only [Int.zero_add, Int.mul_assoc]
theorem past_eq {g x y u v i j p q : Int} (hg : g.natAbs ≤ 1000) (hx : x.natAbs ≤ 10000000) (hy : y.natAbs ≤ 10000000) (hu : u.natAbs ≤ 10000000) (hv : v.natAbs ≤ 10000000) (hi : i.natAbs ≤ 10000000) (hj : j.natAbs ≤ 10000000) (hp : p.natAbs ≤ 100000000) (hq : q.natAbs ≤ 100000000) : F_is_past [.int g, ln x y u v, pt i j, .int p, .int q] = .ok (.bl (pastI g x y u v i j p q)) := by
  have E1 := least_eq hx hy hu hv hp hq
  have E2 := great_eq hg hi hj hp hq
  refine runP_of ?_
  unfold B_is_past
  walk_at "r"
  rfl
theorem sub_small {a b : Int} (ha : a.natAbs ≤ 10000000) (hb : b.natAbs ≤ 10000000) : (a - b).natAbs ≤ 100000000 ∧ (-(a - b)).natAbs ≤ 100000000 := by omega
def wayI (g x y u v i j : Int) : Int × Int := if pastI g x y u v i j 1 0 then (1, 0) else if pastI g x y u v i j 0 1 then (0, 1) else if pastI g x y u v i j (-1) 0 then (-1, 0) else if pastI g x y u v i j 0 (-1) then (0, -1) else if pastI g x y u v i j (y - v) (u - x) then (y - v, u - x) else (-(y - v), -(u - x))
set_option maxHeartbeats 0 in
theorem way_eq {g x y u v i j : Int} (hg : g.natAbs ≤ 1000) (hx : x.natAbs ≤ 10000000) (hy : y.natAbs ≤ 10000000) (hu : u.natAbs ≤ 10000000) (hv : v.natAbs ≤ 10000000) (hi : i.natAbs ≤ 10000000) (hj : j.natAbs ≤ 10000000) : F_way_past [.int g, ln x y u v, pt i j] = .ok (pt (wayI g x y u v i j).1 (wayI g x y u v i j).2) := by
  have E : ∀ p q : Int, p.natAbs ≤ 100000000 → q.natAbs ≤ 100000000 → F_is_past [.int g, ln x y u v, pt i j, .int p, .int q] = .ok (.bl (pastI g x y u v i j p q)) := fun p q hp hq => past_eq hg hx hy hu hv hi hj hp hq
  refine runP_of ?_
  unfold B_way_past
  unfold wayI
  walk_at "r"
  walk_at "u"
  walk_at "r"
  refine ⟨_, E _ _ (by decide) (by decide), ?_⟩
  refine go_if (fun h => ?_) fun h => ?_
  · walk_at "r"
    simp [h, pt]
  walk_at "r"
  walk_at "u"
  walk_at "r"
  refine ⟨_, E _ _ (by decide) (by decide), ?_⟩
  refine go_if (fun h' => ?_) fun h' => ?_
  · walk_at "r"
    simp [h, h', pt]
  walk_at "r"
  walk_at "u"
  walk_at "r"
  refine ⟨_, E _ _ (by decide) (by decide), ?_⟩
  refine go_if (fun h2 => ?_) fun h2 => ?_
  · walk_at "r"
    simp [h, h', h2, pt]
  walk_at "r"
  walk_at "u"
  walk_at "r"
  refine ⟨_, E _ _ (by decide) (by decide), ?_⟩
  refine go_if (fun h3 => ?_) fun h3 => ?_
  · walk_at "r"
    simp [h, h', h2, h3, pt]
  walk_at "r"
  walk_at "u"
  walk_at "r"
  refine ⟨_, E _ _ (sub_small hy hv).1 (sub_small hu hx).1, ?_⟩
  refine go_if (fun h4 => ?_) fun h4 => ?_
  · walk_at "r"
    simp [h, h', h2, h3, h4, pt]
  walk_at "r"
  simp [h, h', h2, h3, h4, pt]
theorem way_past {g x y u v i j : Int} (g0 : 0 < g) (n : ¬ (x = u ∧ y = v)) (hc : cellB g x y u v i j = false) : ¬ ((wayI g x y u v i j).1 = 0 ∧ (wayI g x y u v i j).2 = 0) ∧ pastI g x y u v i j (wayI g x y u v i j).1 (wayI g x y u v i j).2 = true := by
  unfold wayI
  cases h1 : pastI g x y u v i j 1 0 <;> simp
  · cases h2 : pastI g x y u v i j 0 1 <;> simp
    · cases h3 : pastI g x y u v i j (-1) 0 <;> simp
      · cases h4 : pastI g x y u v i j 0 (-1) <;> simp
        · cases h5 : pastI g x y u v i j (y - v) (u - x) <;> simp
          · exact ⟨by omega, by have := way_ok g0 n hc h1 h2 h3 h4 h5; simpa using this⟩
          · exact ⟨by omega, h5⟩
        · exact h4
      · exact h3
    · exact h2
  · exact h1
theorem way_small {x y u v : Int} (g i j : Int) (hx : x.natAbs ≤ 10000000) (hy : y.natAbs ≤ 10000000) (hu : u.natAbs ≤ 10000000) (hv : v.natAbs ≤ 10000000) : (wayI g x y u v i j).1.natAbs ≤ 100000000 ∧ (wayI g x y u v i j).2.natAbs ≤ 100000000 := by
  have h1 := sub_small hy hv
  have h2 := sub_small hu hx
  unfold wayI
  split
  · decide
  split
  · decide
  split
  · decide
  split
  · decide
  split
  · exact ⟨h1.1, h2.1⟩
  · exact ⟨h1.2, h2.2⟩
set_option maxHeartbeats 0 in
/-- the paper that is told, as data -/
theorem told_eq {g x y u v i j : Int} (g0 : 0 < g) (hg : g.natAbs ≤ 1000) (hx : x.natAbs ≤ 10000000) (hy : y.natAbs ≤ 10000000) (hu : u.natAbs ≤ 10000000) (hv : v.natAbs ≤ 10000000) (hi : i.natAbs ≤ 10000000) (hj : j.natAbs ≤ 10000000) (n : ¬ (x = u ∧ y = v)) :
    ∃ d, F_meets_paper [.int g, ln x y u v, pt i j] = .ok d ∧ ((cellB g x y u v i j = true ∧ ∃ k m : Int, d = .tup [.str "meets", .int k, .int m] ∧ metI g x y u v i j k m = true ∧ k.natAbs < 2 ^ 300 ∧ m.natAbs < 2 ^ 300) ∨ (cellB g x y u v i j = false ∧ ∃ p q r : Int, d = .tup [.str "misses", .int p, .int q, .int r] ∧ missI g x y u v i j p q r = true ∧ p.natAbs < 2 ^ 300 ∧ q.natAbs < 2 ^ 300 ∧ r.natAbs < 2 ^ 300)) := by
  obtain ⟨d, e, h⟩ := between_eq hg hx hy hu hv hi hj
  refine runP_ex ?_
  unfold B_meets_paper
  walk_at "r"
  rcases h with ⟨rfl, hc⟩ | ⟨a, b, rfl, hc, ha, hb, hm⟩
  · refine go_ifF rfl ?_
    walk_at "r"
    refine ⟨_, way_eq hg hx hy hu hv hi hj, ?_⟩
    obtain ⟨w1, w2⟩ := way_past g0 n hc
    have wb := way_small g i j hx hy hu hv
    have E := least_eq hx hy hu hv wb.1 wb.2
    generalize (wayI g x y u v i j).1 = p at *
    generalize (wayI g x y u v i j).2 = q at *
    walk_at "r"
    refine .inr ⟨hc, p, q, _, rfl, past_miss w1 w2, (Nb.le wb.1).mono (by decide), (Nb.le wb.2).mono (by decide), ?_⟩
    unfold leastI
    have b1 : ∀ a b : Int, a.natAbs ≤ 10000000 → b.natAbs ≤ 10000000 → (2 * (p * a + q * b)).natAbs < 2 ^ 140 := fun a b ha hb => by
      exact (Nb.mul (Nb.lit (n := 2)) (Nb.add (Nb.mul (Nb.le wb.1) (Nb.le ha)) (Nb.mul (Nb.le wb.2) (Nb.le hb)))).mono (by decide)
    exact (Nb.min (n := 140) (m := 140) (b1 x y hx hy) (b1 u v hu hv)).mono (by decide)
  · refine go_ifT rfl ?_
    walk_at "r"
    refine ⟨_, share_eq2 ha hb, ?_⟩
    walk_at "r"
    refine .inl ⟨hc, _, _, rfl, hm, ?_⟩
    have h1 : Nb 60 a.d := ha.2
    have h2 : Nb 60 b.d := hb.2
    have h3 : Nb 60 a.n := ha.1
    have h4 : Nb 60 b.n := hb.1
    have s1 : Nb 300 (shareB a b).1 := by
      unfold shareB
      split
      · exact h3.mono (by decide)
      split
      · exact h4.mono (by decide)
      · exact (Nb.add (Nb.mul h3 h2) (Nb.mul h4 h1)).mono (by decide)
    have s2 : Nb 300 (shareB a b).2 := by
      unfold shareB
      split
      · exact h1.mono (by decide)
      split
      · exact h2.mono (by decide)
      · exact (Nb.mul (Nb.mul (Nb.self 2) h1) h2).mono (by decide)
    exact ⟨s1, s2⟩
end CLX

namespace CL
open PySem PySem.Spec L2
set_option autoImplicit false
/-! ### repr of data that may hold dicts -/
mutual
def D.pyE : D → PyData
  | .non => .none
  | .bl b => .bool b
  | .int i => .int i
  | .str x => .str x
  | .tup l => .tuple (D.pyEL l)
  | .lst l => .list (D.pyEL l)
  | .scr l => .list (l.map .int)
  | .dct ks vs => .dict ((D.pyEL ks).zip (D.pyEL vs))
  | .ins _ _ _ => .none
def D.pyEL : List D → List PyData
  | [] => []
  | d :: ds => D.pyE d :: D.pyEL ds
end
/-- ints that are shown -/
def bigE : Nat := 2 ^ 400
mutual
/-- data with dicts, at most so deep -/
def D.okE : Nat → D → Bool
  | _, .non => true
  | _, .bl _ => true
  | _, .int i => decide (i.natAbs < bigE)
  | _, .str _ => true
  | n + 1, .tup l => D.okEL n l
  | n + 1, .lst l => D.okEL n l
  | n + 1, .dct ks vs => D.okEL n ks && D.okEL n vs && decide (ks.length = vs.length)
  | _, _ => false
def D.okEL : Nat → List D → Bool
  | _, [] => true
  | n, d :: ds => D.okE n d && D.okEL n ds
end
mutual
/-- how much there is of it -/
def D.wtE : D → Nat
  | .str x => 1 + (reprText x).length
  | .tup l => 1 + D.wtEL l
  | .lst l => 1 + D.wtEL l
  | .dct ks vs => 1 + D.wtEL ks + D.wtEL vs
  | _ => 1
def D.wtEL : List D → Nat
  | [] => 0
  | d :: ds => D.wtE d + D.wtEL ds
end
theorem pyEL_len : ∀ l : List D, (D.pyEL l).length = l.length
  | [] => rfl
  | d :: ds => by simp [D.pyEL, pyEL_len ds]
/-- the text of repr -/
def D.shownE (d : D) : Str := d.pyE.shown
def bReprE : List D → Option D
  | [d] => if D.okE 60 d = true ∧ D.wtE d ≤ 100000 then some (.str d.shownE) else none
  | _ => none
theorem piled_kv : ∀ (A B : List PyData), piled (PyData.shownKv (A.zip B)) ≤ piled (PyData.shownAll A) + piled (PyData.shownAll B)
  | [], B => by simp [PyData.shownKv, piled]
  | a :: A, [] => by simp [PyData.shownKv, piled]
  | a :: A, b :: B => by
    have h := piled_kv A B
    simp only [List.zip_cons_cons, PyData.shownKv, PyData.shownAll, piled_cons]
    have e : (PyData.shown a ++ ": " ++ PyData.shown b).length = (PyData.shown a).length + 2 + (PyData.shown b).length := by
      rw [slen, slen]
      have : ((": " : String) : Str).length = 2 := rfl
      omega
    rw [e]
    omega
theorem showable_zip : ∀ (A B : List PyData), PyData.showableAll A = true → PyData.showableAll B = true → PyData.showableKv (A.zip B) = true
  | [], B, _, _ => by simp [PyData.showableKv]
  | a :: A, [], _, _ => by simp [PyData.showableKv]
  | a :: A, b :: B, h1, h2 => by
    simp only [PyData.showableAll, Bool.and_eq_true] at h1 h2
    simp only [List.zip_cons_cons, PyData.showableKv, h1.1, h2.1, showable_zip A B h1.2 h2.2, Bool.and_self]
theorem depth_zip : ∀ (A B : List PyData), PyData.depthKv (A.zip B) ≤ max (PyData.depthAll A) (PyData.depthAll B)
  | [], B => by simp [PyData.depthKv]
  | a :: A, [] => by simp [PyData.depthKv]
  | a :: A, b :: B => by
    have h := depth_zip A B
    simp only [List.zip_cons_cons, PyData.depthKv, PyData.depthAll]
    omega
theorem tupleText_le (ts : List Str) : (tupleText ts).length ≤ piled ts + 3 := by
  have e1 : ((if ts.length == 1 then ",)" else ")" : String) : Str).length ≤ 2 := by
    split
    · exact Nat.le_of_eq rfl
    · exact Nat.le_succ_of_le (Nat.le_of_eq rfl)
  have e3 : (("(" : String) : Str).length = 1 := rfl
  unfold tupleText
  rw [slen, slen]
  by_cases hl : ts = []
  · subst hl
    have : (Str.join ", " []).length = 0 := rfl
    omega
  · have e2 := join_length_add _ hl
    omega
theorem listText_le (ts : List Str) : (listText ts).length ≤ piled ts + 3 := by
  have h := textFrom_le ts 0 "["
  have e1 : (("[" : String) : Str).length = 1 := rfl
  have e2 : (("]" : String) : Str).length = 1 := rfl
  have e : (listText ts).length = (textFrom 0 "[" ts).length + 1 := by
    show (textFrom 0 "[" ts ++ "]").length = _
    rw [slen, e2]
  omega
theorem dictText_le (ts : List Str) : (dictText ts).length ≤ piled ts + 3 := by
  have e1 : (("{" : String) : Str).length = 1 := rfl
  have e2 : (("}" : String) : Str).length = 1 := rfl
  unfold dictText
  rw [slen, slen]
  by_cases hl : ts = []
  · subst hl
    have : (Str.join ", " []).length = 0 := rfl
    omega
  · have e2 := join_length_add _ hl
    omega
theorem bigE_R {n : Nat} (h : n < bigE) : n < bigR := Nat.lt_of_lt_of_le h (Nat.pow_le_pow_right (by decide) (by decide))
theorem bigE_text {i : Int} (h : i.natAbs < bigE) : (PySem.Str.ofString (toString i)).length ≤ 151 := by
  rw [PySem.ofString_length]
  exact int_text_length_le10 (k := 150) (by decide) (Nat.lt_trans h (by decide +kernel))
mutual
theorem shownE_le : ∀ (n : Nat) (d : D), D.okE n d = true → d.pyE.showable = true ∧ d.pyE.depth ≤ n ∧ d.pyE.shown.length + 2 ≤ 160 * D.wtE d
  | _, .non, _ => by simp only [D.pyE, PyData.showable, PyData.shown, D.wtE, PyData.depth]; exact ⟨trivial, Nat.zero_le _, by decide⟩
  | _, .bl b, _ => by simp only [D.pyE, PyData.showable, PyData.shown, D.wtE, PyData.depth]; exact ⟨trivial, Nat.zero_le _, by cases b <;> decide⟩
  | _, .int i, h => by
    simp only [D.okE, decide_eq_true_eq] at h
    have e := bigE_text h
    have h := bigR_log (bigE_R h)
    simp only [D.pyE, PyData.showable, PyData.shown, D.wtE, PyData.depth]
    exact ⟨decide_eq_true h, Nat.zero_le _, by omega⟩
  | _, .str x, _ => by simp only [D.pyE, PyData.showable, PyData.shown, D.wtE, PyData.depth]; exact ⟨trivial, Nat.zero_le _, by omega⟩
  | n + 1, .tup l, o => by
    simp only [D.okE] at o
    obtain ⟨a, b, c⟩ := shownEL_le n l o
    simp only [D.pyE, PyData.showable, PyData.shown, D.wtE, PyData.depth]
    have := tupleText_le (PyData.shownAll (D.pyEL l))
    exact ⟨a, by omega, by omega⟩
  | n + 1, .lst l, o => by
    simp only [D.okE] at o
    obtain ⟨a, b, c⟩ := shownEL_le n l o
    simp only [D.pyE, PyData.showable, PyData.shown, D.wtE, PyData.depth]
    have := listText_le (PyData.shownAll (D.pyEL l))
    exact ⟨a, by omega, by omega⟩
  | n + 1, .dct ks vs, o => by
    simp only [D.okE, Bool.and_eq_true] at o
    obtain ⟨a, b, c⟩ := shownEL_le n ks o.1.1
    obtain ⟨a', b', c'⟩ := shownEL_le n vs o.1.2
    simp only [D.pyE, PyData.showable, PyData.shown, D.wtE, PyData.depth]
    have h1 := dictText_le (PyData.shownKv ((D.pyEL ks).zip (D.pyEL vs)))
    have h2 := piled_kv (D.pyEL ks) (D.pyEL vs)
    have h3 := depth_zip (D.pyEL ks) (D.pyEL vs)
    exact ⟨showable_zip _ _ a a', by omega, by omega⟩
  | 0, .tup l, o => by simp [D.okE] at o
  | 0, .lst l, o => by simp [D.okE] at o
  | 0, .dct _ _, o => by simp [D.okE] at o
  | _, .ins _ _ _, o => by simp [D.okE] at o
  | _, .scr _, o => by simp [D.okE] at o
theorem shownEL_le : ∀ (n : Nat) (l : List D), D.okEL n l = true → PyData.showableAll (D.pyEL l) = true ∧ PyData.depthAll (D.pyEL l) ≤ n ∧ piled (PyData.shownAll (D.pyEL l)) ≤ 160 * D.wtEL l
  | _, [], _ => by simp only [D.pyEL, PyData.showableAll, PyData.shownAll, D.wtEL, PyData.depthAll]; exact ⟨trivial, Nat.zero_le _, by simp [piled]⟩
  | n, d :: ds, o => by
    simp only [D.okEL, Bool.and_eq_true] at o
    obtain ⟨a, b, c⟩ := shownE_le n d o.1
    obtain ⟨a', b', c'⟩ := shownEL_le n ds o.2
    simp only [D.pyEL, PyData.showableAll, PyData.shownAll, D.wtEL, PyData.depthAll, a, a', Bool.and_self, piled_cons]
    exact ⟨trivial, by omega, by omega⟩
end
mutual
/-- data on the heap, each dict in it apart from the table of modules -/
inductive RdE (h : Heap) : Value → PyData → Prop
  | none : RdE h .none .none
  | bool (b) : RdE h (.bool b) (.bool b)
  | int (i t) : RdE h (.int i t) (.int i)
  | str (x t) : RdE h (.str x t) (.str x)
  | list {a o vs n xs} : h.get? a = some o → o.cls = .type "list" → o.data = .seq vs n → RdEL h vs.toList xs → RdE h (.ref a) (.list xs)
  | tuple {a o vs n xs} : h.get? a = some o → o.cls = .type "tuple" → o.data = .seq vs n → RdEL h vs.toList xs → RdE h (.ref a) (.tuple xs)
  | dict {a o es n kvs} : h.get? a = some o → o.cls = .type "dict" → o.data = .dict es n → (a == sysModules) = false → RdEL h (es.toList.map (·.key)) (kvs.map (·.1)) → RdEL h (es.toList.map (·.val)) (kvs.map (·.2)) → RdE h (.ref a) (.dict kvs)
inductive RdEL (h : Heap) : List Value → List PyData → Prop
  | nil : RdEL h [] []
  | cons {v vs d ds} : RdE h v d → RdEL h vs ds → RdEL h (v :: vs) (d :: ds)
end
mutual
theorem RdE.rd {h : Heap} : ∀ {v : Value} {d : PyData}, RdE h v d → ∃ as, Reads h v d as
  | _, _, .none => ⟨_, .none⟩
  | _, _, .bool b => ⟨_, .bool b⟩
  | _, _, .int i t => ⟨_, .int i t⟩
  | _, _, .str x t => ⟨_, .str x t⟩
  | _, _, .list h1 h2 h3 h4 => let ⟨_, r⟩ := RdEL.rd h4; ⟨_, .list h1 h2 h3 r⟩
  | _, _, .tuple h1 h2 h3 h4 => let ⟨_, r⟩ := RdEL.rd h4; ⟨_, .tuple h1 h2 h3 r⟩
  | _, _, .dict h1 h2 h3 _ h4 h5 => let ⟨_, r⟩ := RdEL.rd h4; let ⟨_, r'⟩ := RdEL.rd h5; ⟨_, .dict h1 h2 h3 r r'⟩
theorem RdEL.rd {h : Heap} : ∀ {v : List Value} {d : List PyData}, RdEL h v d → ∃ as, ReadsAll h v d as
  | _, _, .nil => ⟨_, .nil⟩
  | _, _, .cons a b => let ⟨_, r⟩ := RdE.rd a; let ⟨_, r'⟩ := RdEL.rd b; ⟨_, .cons r r'⟩
end
section
variable {prog : Program} {w : World} {h : Heap}
mutual
theorem RdE.k : ∀ {v : Value} {d : PyData}, RdE h v d → d.showable = true → d.shown.length ≤ sizeLine → ∃ bs, ReadAtMost h d.depth bs ∧ ReprK prog w bs h d.depth v d.shown
  | _, _, .none, _, _ => ⟨[], nofun, by simp only [PyData.shown]; exact .of_is ReprIs.none _ _ _⟩
  | _, _, .bool b, _, _ => ⟨[], nofun, by simp only [PyData.shown]; exact .of_is (ReprIs.bool b) _ _ _⟩
  | _, _, .int i t, hs, _ => ⟨[], nofun, by simp only [PyData.shown]; exact .of_is (ReprIs.int t (by simpa [PyData.showable] using hs)) _ _ _⟩
  | _, _, .str x t, _, z => ⟨[], nofun, by simp only [PyData.shown]; exact .of_is (ReprIs.str x t (by simpa only [PyData.shown] using z)) _ _ _⟩
  | _, _, .list (a := a) (vs := vs) (xs := xs) h1 h2 h3 h4, hs, z => by
    simp only [PyData.shown] at z
    obtain ⟨_, rx⟩ := RdEL.rd h4
    obtain ⟨bs, hb, hk⟩ := RdEL.k h4 (by simpa [PyData.showable] using hs) (fun t ht => Nat.le_trans (listText_mem_le ht) z)
    have rr : Reads h (.ref a) (.list xs) _ := .list h1 h2 h3 rx
    have na : a ∉ bs := not_mem_of_deeper rr (by simp only [PyData.depth]; omega) hb
    refine ⟨a :: bs, .cons rr (by simp only [PyData.depth]; omega) hb, ?_⟩
    simp only [PyData.depth, PyData.shown]
    obtain ⟨l⟩ := vs
    cases l with
    | nil =>
      have h5 : RdEL h [] xs := h4
      cases h5
      simp only [PyData.shownAll, listText_nil]
      exact .listEmpty h1 h2 h3
    | cons x l => exact .list h1 h2 h3 na (by simpa using hk.length_eq) (fun i y e => hk.item i y (by simpa using e))
  | _, _, .tuple (a := a) (xs := xs) h1 h2 h3 h4, hs, z => by
    simp only [PyData.shown] at z
    obtain ⟨_, rx⟩ := RdEL.rd h4
    obtain ⟨bs, hb, hk⟩ := RdEL.k h4 (by simpa [PyData.showable] using hs) (fun t ht => Nat.le_trans (tupleText_mem_le ht) z)
    have rr : Reads h (.ref a) (.tuple xs) _ := .tuple h1 h2 h3 rx
    have na : a ∉ bs := not_mem_of_deeper rr (by simp only [PyData.depth]; omega) hb
    refine ⟨a :: bs, .cons rr (by simp only [PyData.depth]; omega) hb, ?_⟩
    simp only [PyData.depth, PyData.shown]
    exact .tuple h1 h2 h3 na hk
  | _, _, .dict (a := a) (es := es) (kvs := kvs) h1 h2 h3 hy h4 h5, hs, z => by
    simp only [PyData.shown] at z
    obtain ⟨_, rx⟩ := RdEL.rd h4
    obtain ⟨_, ry⟩ := RdEL.rd h5
    obtain ⟨s1, s2⟩ := PyData.showableKv_split kvs (by simpa [PyData.showable] using hs)
    obtain ⟨b1, p1, k1⟩ := RdEL.k h4 s1 (fun t ht => let ⟨p, hp, hl⟩ := PyData.shownKv_key_le kvs t ht; Nat.le_trans hl (Nat.le_trans (dictText_mem_le hp) z))
    obtain ⟨b2, p2, k2⟩ := RdEL.k h5 s2 (fun t ht => let ⟨p, hp, hl⟩ := PyData.shownKv_val_le kvs t ht; Nat.le_trans hl (Nat.le_trans (dictText_mem_le hp) z))
    have rr : Reads h (.ref a) (.dict kvs) _ := .dict h1 h2 h3 rx ry
    have hb : ReadAtMost h (PyData.depthKv kvs) (b1 ++ b2) := (p1.mono (PyData.depthAll_keys_le kvs)).append (p2.mono (PyData.depthAll_vals_le kvs))
    have na : a ∉ b1 ++ b2 := not_mem_of_deeper rr (by simp only [PyData.depth]; omega) hb
    refine ⟨a :: (b1 ++ b2), .cons rr (by simp only [PyData.depth]; omega) hb, ?_⟩
    simp only [PyData.depth, PyData.shown, PyData.shownKv_eq]
    exact .dict h1 h2 h3 hy na (.of_two es.toList _ _ (k1.more_le (fun b m => List.mem_append_left _ m) (PyData.depthAll_keys_le kvs)) (k2.more_le (fun b m => List.mem_append_right _ m) (PyData.depthAll_vals_le kvs)))
theorem RdEL.k : ∀ {vs : List Value} {ds : List PyData}, RdEL h vs ds → PyData.showableAll ds = true → (∀ t ∈ PyData.shownAll ds, t.length ≤ sizeLine) → ∃ bs, ReadAtMost h (PyData.depthAll ds) bs ∧ ReprAllK prog w bs h (PyData.depthAll ds) vs (PyData.shownAll ds)
  | _, _, .nil, _, _ => ⟨[], nofun, by simp only [PyData.shownAll]; exact .nil⟩
  | _, _, .cons (d := d) (ds := ds) r rs, hs, z => by
    simp only [PyData.showableAll, Bool.and_eq_true] at hs
    simp only [PyData.shownAll, List.forall_mem_cons] at z
    obtain ⟨b1, p1, k1⟩ := RdE.k r hs.1 z.1
    obtain ⟨b2, p2, k2⟩ := RdEL.k rs hs.2 z.2
    simp only [PyData.depthAll, PyData.shownAll]
    refine ⟨b1 ++ b2, (p1.mono (Nat.le_max_left _ _)).append (p2.mono (Nat.le_max_right _ _)), ?_⟩
    exact .cons ((k1.more fun b m => List.mem_append_left _ m).level_le (Nat.le_max_left _ _)) (k2.more_le (fun b m => List.mem_append_right _ m) (Nat.le_max_right _ _))
end
theorem RdE.shows {a : Addr} {d : PyData} (r : RdE h (.ref a) d) (hs : d.showable = true) (z : d.shown.length ≤ sizeLine) : ∃ T idr, ShowsBy prog w h a d T idr := by
  cases r with
  | list h1 h2 h3 h4 =>
    rename_i o vs n xs
    simp only [PyData.shown] at z
    obtain ⟨_, rx⟩ := RdEL.rd h4
    obtain ⟨bs, hb, hk⟩ := RdEL.k (prog := prog) (w := w) h4 (by simpa [PyData.showable] using hs) (fun t ht => Nat.le_trans (listText_mem_le ht) z)
    have na : a ∉ bs := not_mem_of_deeper (.list h1 h2 h3 rx) (by simp only [PyData.depth]; omega) hb
    refine ⟨"list", "list.__repr__", F.slot_list_repr.toG, F.slot_list_str, F.slot_list_format, fun s k0 => ⟨o, k0 _ _ h1, h2⟩, fun A E s Q hg hu k0 hQ => ?_⟩
    simp only [PyData.depth] at hu
    simp only [PyData.shown] at hQ
    obtain ⟨l⟩ := vs
    cases l with
    | nil =>
      have h5 : RdEL h [] xs := h4
      cases h5
      simp only [PyData.shownAll, listText_nil] at hQ
      exact call_list_repr_empty ⟨o, k0 _ _ h1, h2⟩ (k0 _ _ h1) h3 (hQ s.heap _ _ fun _ _ e => e)
    | cons x l => exact call_list_reprK h1 h2 h3 na (by simpa using hk.length_eq) (fun i y e => hk.item i y (by simpa using e)) hg (fun b _ => .nil b) hu k0 hQ z
  | tuple h1 h2 h3 h4 =>
    rename_i o vs n xs
    simp only [PyData.shown] at z
    obtain ⟨_, rx⟩ := RdEL.rd h4
    obtain ⟨bs, hb, hk⟩ := RdEL.k (prog := prog) (w := w) h4 (by simpa [PyData.showable] using hs) (fun t ht => Nat.le_trans (tupleText_mem_le ht) z)
    have na : a ∉ bs := not_mem_of_deeper (.tuple h1 h2 h3 rx) (by simp only [PyData.depth]; omega) hb
    refine ⟨"tuple", "tuple.__repr__", F.slot_tuple_repr, F.slot_tuple_str, F.slot_tuple_format, fun s k0 => ⟨o, k0 _ _ h1, h2⟩, fun A E s Q hg hu k0 hQ => ?_⟩
    simp only [PyData.depth] at hu
    simp only [PyData.shown] at hQ
    exact call_tuple_reprK h1 h2 h3 na hk hg (fun b _ => .nil b) hu k0 hQ z
  | dict h1 h2 h3 hy h4 h5 =>
    rename_i o es n kvs
    simp only [PyData.shown] at z
    obtain ⟨_, rx⟩ := RdEL.rd h4
    obtain ⟨_, ry⟩ := RdEL.rd h5
    obtain ⟨s1, s2⟩ := PyData.showableKv_split kvs (by simpa [PyData.showable] using hs)
    obtain ⟨b1, p1, k1⟩ := RdEL.k (prog := prog) (w := w) h4 s1 (fun t ht => let ⟨p, hp, hl⟩ := PyData.shownKv_key_le kvs t ht; Nat.le_trans hl (Nat.le_trans (dictText_mem_le hp) z))
    obtain ⟨b2, p2, k2⟩ := RdEL.k (prog := prog) (w := w) h5 s2 (fun t ht => let ⟨p, hp, hl⟩ := PyData.shownKv_val_le kvs t ht; Nat.le_trans hl (Nat.le_trans (dictText_mem_le hp) z))
    have hb : ReadAtMost h (PyData.depthKv kvs) (b1 ++ b2) := (p1.mono (PyData.depthAll_keys_le kvs)).append (p2.mono (PyData.depthAll_vals_le kvs))
    have na : a ∉ b1 ++ b2 := not_mem_of_deeper (.dict h1 h2 h3 rx ry) (by simp only [PyData.depth]; omega) hb
    refine ⟨"dict", "dict.__repr__", F.slot_dict_repr, F.slot_dict_str, F.slot_dict_format, fun s k0 => ⟨o, k0 _ _ h1, h2⟩, fun A E s Q hg hu k0 hQ => ?_⟩
    simp only [PyData.depth] at hu
    simp only [PyData.shown, PyData.shownKv_eq] at hQ
    exact call_dict_reprK h1 h2 h3 hy na (.of_two es.toList _ _ (k1.more_le (fun b m => List.mem_append_left _ m) (PyData.depthAll_keys_le kvs)) (k2.more_le (fun b m => List.mem_append_right _ m) (PyData.depthAll_vals_le kvs))) hg (fun b _ => .nil b) hu k0 hQ (by rw [← PyData.shownKv_eq]; exact z)
theorem RdE.repr {A : Around} {E : Value → Shared → Prop} {s : Shared} {Q : Value → Shared → Prop} {a : Addr} {d : PyData} (r : RdE s.heap (.ref a) d) (hs : d.showable = true) (z : d.shown.length ≤ sizeLine) (hg : A.guards = some []) (hu : A.units + (d.depth + 1) < cLine)
    (hQ : ∀ h' u tk, (∀ b o, s.heap.get? b = some o → h'.get? b = some o) → Q (.str d.shown u) { s with heap := h', toks := tk }) : wpAny (model prog w) A (call (.builtin "repr") [.ref a]) Q E s := by
  obtain ⟨T, idr, S⟩ := RdE.shows (prog := prog) (w := w) r hs z
  exact call_repr_slot (by omega) (S.typeIs s fun _ _ e => e) S.slotRepr (S.call A.in1 E s _ hg (by show A.units + 1 + d.depth < cLine; omega) (fun _ _ e => e) fun h' u tk hk => ⟨_, _, rfl, hQ h' u tk hk⟩)
end
theorem dk_vals {P : Program} {w : World} : ∀ {kvs : List (Key × V)} {vs : List (Key × Value)} {es : List DictEntry}, KV kvs vs → Pairs (mixKind P w) es vs → Vals (kvs.map fun p => kV p.1) (es.map (·.key)) ∧ Vals (kvs.map (·.2)) (es.map (·.val))
  | _, _, _, .nil, .nil => ⟨.nil, .nil⟩
  | _, _, _, .cons ⟨h1, h2⟩ t, .cons (e := e) k v r => by
    obtain ⟨a, b⟩ := dk_vals t r
    refine ⟨.cons ?_ a, .cons (by show RelV _ e.val; rw [v]; exact h2) b⟩
    show RelV (kV _) e.key
    rw [h1]
    rcases keyIs_shape k with ⟨i, t, e1, e2⟩ | ⟨x, t, e1, e2⟩
    · rw [e1, e2]; exact ⟨t, rfl⟩
    · rw [e1, e2]; exact ⟨t, rfl⟩
section
variable {X : Cx} {pins : List (Addr × Obj)} {σ : St} {H : Hp} {s : Shared} {Z : Addr → Prop}
mutual
theorem RSh.rdE (I : Inv X pins σ H s) : ∀ (n : Nat) (d : D) (v : V) (u : Value), D.okE n d = true → RSh X.K Z H d v → RelV v u → RdE s.heap u d.pyE
  | _, .non, v, u, _, h, r => by
    simp only [RSh] at h; subst h; cases r; simp only [D.pyE]; exact .none
  | _, .bl b, v, u, _, h, r => by
    simp only [RSh] at h; subst h; cases r; simp only [D.pyE]; exact .bool b
  | _, .int i, v, u, _, h, r => by
    simp only [RSh] at h; subst h; obtain ⟨t, rfl⟩ := r; simp only [D.pyE]; exact .int i t
  | _, .str x, v, u, _, h, r => by
    simp only [RSh] at h; subst h; obtain ⟨t, rfl⟩ := r; simp only [D.pyE]; exact .str x t
  | n + 1, .tup l, v, u, o, h, r => by
    simp only [D.okE] at o
    simp only [RSh] at h
    obtain ⟨a, xs, rfl, hs, hl⟩ := h
    cases r
    simp only [D.pyE]
    obtain ⟨its, rv, ⟨ob, ho, hc, n, hd⟩, _⟩ := I.tuple hs
    exact .tuple ho hc hd (RShL.rdE I _ l xs its o hl rv)
  | n + 1, .lst l, v, u, o, h, r => by
    simp only [D.okE] at o
    simp only [RSh] at h
    obtain ⟨a, xs, rfl, z, hs, hl⟩ := h
    cases r
    simp only [D.pyE]
    obtain ⟨its, rv, ⟨ob, n, ho, hc, _, hd⟩, _⟩ := I.list (SqL.of hs)
    exact .list ho hc hd (RShL.rdE I _ l xs its o hl rv)
  | n + 1, .dct ks vs, v, u, o, h, r => by
    simp only [D.okE, Bool.and_eq_true, decide_eq_true_eq] at o
    simp only [RSh] at h
    obtain ⟨a, kvs, rfl, z, hs, hk, hv⟩ := h
    cases r
    simp only [D.pyE]
    obtain ⟨_, hsys, vs', kv, ob, es, ep, e1, ex, e2, _, pr, _⟩ := (show ObjOk X.prog X.w H s.heap a (.dK kvs) from I.hok a _ hs)
    obtain ⟨v1, v2⟩ := dk_vals kv pr
    have h1 := RShL.rdE I _ ks _ _ o.1.1 hk v1
    have h2 := RShL.rdE I _ vs _ _ o.1.2 hv v2
    have el : (D.pyEL ks).length = (D.pyEL vs).length := by rw [pyEL_len, pyEL_len]; exact o.2
    exact .dict (kvs := (D.pyEL ks).zip (D.pyEL vs)) e1 ex.1 e2 hsys (by rw [List.map_fst_zip (by omega)]; exact h1) (by rw [List.map_snd_zip (by omega)]; exact h2)
  | 0, .tup l, _, _, o, _, _ => by simp [D.okE] at o
  | 0, .lst l, _, _, o, _, _ => by simp [D.okE] at o
  | 0, .dct _ _, _, _, o, _, _ => by simp [D.okE] at o
  | _, .ins _ _ _, _, _, o, _, _ => by simp [D.okE] at o
  | _, .scr _, _, _, o, _, _ => by simp [D.okE] at o
theorem RShL.rdE (I : Inv X pins σ H s) : ∀ (n : Nat) (l : List D) (vs : List V) (us : List Value), D.okEL n l = true → RShL X.K Z H l vs → Vals vs us → RdEL s.heap us (D.pyEL l)
  | _, [], vs, us, _, h, r => by
    simp only [RShL] at h; subst h; cases r; simp only [D.pyEL]; exact .nil
  | n, d :: ds, vs, us, o, h, r => by
    simp only [D.okEL, Bool.and_eq_true] at o
    simp only [RShL] at h
    obtain ⟨w, ws, rfl, h1, h2⟩ := h
    cases r with
    | cons r1 r2 =>
      simp only [D.pyEL]
      exact .cons (RSh.rdE I n d w _ o.1 h1 r1) (RShL.rdE I n ds ws _ o.2 h2 r2)
end
end
theorem Pk0.rdE {X : Cx} {pins : List (Addr × Obj)} {σ : St} {H : Hp} {s : Shared} {Z : Addr → Prop} (I : Inv X pins σ H s) {n : Nat} {d : D} {v : V} {u : Value} (o : D.okE n d = true) (h : Pk0 X.K Z H d v) (r : RelV v u) : RdE s.heap u d.pyE := by
  rcases h with h | ⟨l, a, xs, rfl, rfl, hs, hl⟩
  · exact RSh.rdE I n d v u o h r
  · cases n with
    | zero => simp [D.okE] at o
    | succ n =>
      simp only [D.okE] at o
      cases r
      simp only [D.pyE]
      obtain ⟨its, rv, ⟨ob, n, ho, hc, _, hd⟩, _⟩ := I.list (SqL.of hs)
      exact .list ho hc hd (RShL.rdE I _ l xs its o hl rv)
theorem c_reprE {X : Cx} (hu : X.A.units + 64 < cLine) (hg : X.A.guards = some []) : CallR X (.builtin "repr") (rFn X.K bReprE) := by
  intro pins s σ H xs us Q I r h
  obtain ⟨Z, ds, d, pl, e, k⟩ := h
  unfold bReprE at e
  split at e
  · rename_i c
    split at e
    · rename_i ho
      cases e
      obtain ⟨v, rfl, p⟩ := pl.one
      obtain ⟨u, rfl, ru⟩ := r.one
      have rd := p.rdE I ho.1 ru
      have kk : Q (.str c.pyE.shown) H := fin0 (by simp only [RSh]; rfl) k
      obtain ⟨sh1, l2, sh2⟩ := shownE_le 60 c ho.1
      have hsz : c.pyE.shown.length ≤ sizeLine := by rw [szL]; omega
      have ref : ∀ a, u = .ref a → wpAny (model X.prog X.w) X.A (call (.builtin "repr") [u]) (EP X pins σ Q) X.xe s := fun a e => by
        subst e
        exact rd.repr sh1 hsz hg (by omega) (fun h' t tk hk => ⟨.str _, H, I.kept hk, ⟨_, rfl⟩, kk⟩)
      cases c with
      | non =>
        rw [p.non] at ru
        have ru : u = Value.none := ru
        subst ru
        simp only [D.pyE, PyData.shown] at kk
        exact PySem.P.repr_of_none ⟨.str _, H, I.tok _, ⟨_, rfl⟩, kk⟩
      | bl b =>
        rw [p.bl] at ru
        have ru : u = Value.bool b := ru
        subst ru
        simp only [D.pyE, PyData.shown] at kk
        refine PySem.P.repr_of_bool ⟨.str _, H, I.tok _, ⟨_, rfl⟩, ?_⟩
        cases b <;> exact kk
      | int i =>
        rw [p.int] at ru
        obtain ⟨t, rfl⟩ := ru
        simp only [D.pyE, PyData.shown] at kk
        have hi := sh1
        simp only [D.pyE, PyData.showable, decide_eq_true_eq] at hi
        exact PySem.P.repr_of_int hi ⟨.str _, H, I.tok _, ⟨_, rfl⟩, kk⟩
      | str z =>
        rw [p.str] at ru
        obtain ⟨t, rfl⟩ := ru
        simp only [D.pyE, PyData.shown] at kk hsz
        exact PySem.P.repr_of_str ⟨.str _, H, I.tok _, ⟨_, rfl⟩, kk⟩ hsz
      | tup l =>
        obtain ⟨a, ys, rfl, _⟩ := p.tup
        exact ref a ru
      | lst l =>
        obtain ⟨a, ys, rfl, _⟩ := p.lst
        exact ref a ru
      | scr l => simp [D.okE] at ho
      | dct ks vs =>
        rcases p with p | ⟨_, _, _, e, _⟩
        · simp only [RSh] at p
          obtain ⟨a, kvs, rfl, _⟩ := p
          exact ref a ru
        · cases e
      | ins _ _ _ => simp [D.okE] at ho
    · cases e
  · cases e
/-! ### arithmetic with truths -/
def bAddB : D → D → Option D
  | .bl a, .int b => some (.int ((if a = true then 1 else 0) + b))
  | x, y => bAdd x y
def bSubB : D → D → Option D
  | .bl a, .int b => some (.int ((if a = true then 1 else 0) - b))
  | .int a, .bl b => some (.int (a - if b = true then 1 else 0))
  | x, y => bSub x y
def bMulB : D → D → Option D
  | .int a, .bl b => some (.int (a * if b = true then 1 else 0))
  | x, y => bMul x y
def bStrB : List D → Option D
  | [.bl b] => some (.str (if b then "True" else "False"))
  | l => bStr l
def bUpper : D → Option D
  | .str x => if x.length ≤ 5592405 then some (.str (Txt.upper x)) else none
  | _ => none
section
variable {X : Cx}
theorem o_addB : OpR X (binaryOp .Add) (rF2 X.K bAddB) := by
  intro pins s σ H x y v u Q I r1 r2 h
  obtain ⟨Z, a, b, d, p1, p2, e, k⟩ := h
  unfold bAddB at e
  split at e
  · cases e
    rw [p1.bl] at r1
    rw [p2.int] at r2
    have r1 : v = Value.bool _ := r1
    subst r1
    obtain ⟨t, rfl⟩ := r2
    exact IntBool.add_bool_int ⟨.int _, H, I.tok _, ⟨_, rfl⟩, fin0 (by simp only [RSh]) k⟩
  · exact o_add pins s σ H x y v u Q I r1 r2 ⟨Z, a, b, d, p1, p2, e, k⟩
theorem o_subB : OpR X (binaryOp .Sub) (rF2 X.K bSubB) := by
  intro pins s σ H x y v u Q I r1 r2 h
  obtain ⟨Z, a, b, d, p1, p2, e, k⟩ := h
  unfold bSubB at e
  split at e
  · cases e
    rw [p1.bl] at r1
    rw [p2.int] at r2
    have r1 : v = Value.bool _ := r1
    subst r1
    obtain ⟨t, rfl⟩ := r2
    exact IntBool.sub_bool_int ⟨.int _, H, I.tok _, ⟨_, rfl⟩, fin0 (by simp only [RSh]) k⟩
  · cases e
    rw [p1.int] at r1
    rw [p2.bl] at r2
    have r2 : u = Value.bool _ := r2
    subst r2
    obtain ⟨t, rfl⟩ := r1
    exact IntBool.sub_int_bool ⟨.int _, H, I.tok _, ⟨_, rfl⟩, fin0 (by simp only [RSh]) k⟩
  · exact o_sub pins s σ H x y v u Q I r1 r2 ⟨Z, a, b, d, p1, p2, e, k⟩
theorem o_mulB : OpR X (binaryOp .Mult) (rF2 X.K bMulB) := by
  intro pins s σ H x y v u Q I r1 r2 h
  obtain ⟨Z, a, b, d, p1, p2, e, k⟩ := h
  unfold bMulB at e
  split at e
  · cases e
    rw [p1.int] at r1
    rw [p2.bl] at r2
    have r2 : u = Value.bool _ := r2
    subst r2
    obtain ⟨t, rfl⟩ := r1
    exact IntBool.mul_int_bool ⟨.int _, H, I.tok _, ⟨_, rfl⟩, fin0 (by simp only [RSh]) k⟩
  · exact o_mul pins s σ H x y v u Q I r1 r2 ⟨Z, a, b, d, p1, p2, e, k⟩
theorem c_strB : CallR X (.type "str") (rFn X.K bStrB) := by
  intro pins s σ H xs us Q I r h
  obtain ⟨Z, ds, d, pl, e, k⟩ := h
  unfold bStrB at e
  split at e
  · rename_i b
    cases e
    obtain ⟨v, rfl, p⟩ := pl.one
    obtain ⟨u, rfl, ru⟩ := r.one
    rw [p.bl] at ru
    have ru : u = Value.bool b := ru
    subst ru
    refine PySem.P.str_of_bool ⟨.str _, H, I.tok _, ⟨_, rfl⟩, ?_⟩
    exact fin0 (by cases b <;> simp only [RSh] <;> rfl) k
  · exact c_str pins s σ H xs us Q I r ⟨Z, _, d, pl, e, k⟩
end
end CL

namespace CL
open PySem PySem.Spec L2
set_option autoImplicit false
local macro_rules | `(tactic| walk_at "o") => `(tactic| ((try simp only [backA, List.set_cons_zero, List.set_cons_succ, wipeD, List.map_cons, List.map_nil, List.cons_append, List.nil_append, List.replicate_succ, List.replicate_zero]); first | done | rfl))
local macro_rules | `(tactic| walk_at "b") => `(tactic| first
  | with_reducible exact Nb.lit
  | ((with_reducible apply Nb.mul) <;> walk_at "b")
  | ((with_reducible apply Nb.add) <;> walk_at "b")
  | ((with_reducible apply Nb.sub) <;> walk_at "b")
  | ((with_reducible apply Nb.neg) <;> walk_at "b")
  | ((with_reducible apply Nb.fdiv) <;> walk_at "b")
  | ((with_reducible apply Nb.fmod); (· walk_at "z"); (· walk_at "b"))
  | ((with_reducible apply Nb.max) <;> walk_at "b")
  | ((with_reducible apply Nb.min) <;> walk_at "b")
  | ((with_reducible apply Nb.ite) <;> walk_at "b")
  | with_reducible assumption
  | with_reducible exact Nb.le (by assumption)
  | with_reducible exact Nb.nle (by assumption)
  | with_reducible exact Nb.lt (by assumption)
  | ((with_reducible apply Nb.rng (by assumption) (by assumption)) <;> walk_at "b")
  | ((with_reducible apply Nb.rngE (by assumption) (by assumption)) <;> walk_at "b")
  | with_reducible exact Nb.self _)
local macro_rules | `(tactic| walk_at "z") => `(tactic| first | decide | assumption | omega | exact fmod_nn (by omega) | exact fmod_lt (by omega))
local macro_rules | `(tactic| walk_at "e") => `(tactic| first
  | ((with_reducible refine is_ev ?_); first
    | ((with_reducible apply mul_st); (· walk_at "b"); (· walk_at "b"); (· rfl))
    | ((with_reducible apply mul_s1); (· walk_at "b"); (· rfl))
    | ((with_reducible apply mul_s2); (· walk_at "b"); (· rfl))
    | ((with_reducible apply div_st); (· walk_at "z"); (· walk_at "b"); (· rfl))
    | ((with_reducible apply mod_st); (· walk_at "z"))
    | with_reducible apply tup_pt
    | with_reducible apply tup_ln
    | ((with_reducible apply tup_st); (· rfl))
    | ((with_reducible apply lst_st); (· rfl))
    | with_reducible apply eqi_st
    | with_reducible apply nei_st
    | with_reducible apply eqp_st
    | with_reducible apply nep_st
    | with_reducible apply eqp_st'
    | with_reducible apply nep_st'
    | with_reducible apply eqb_st
    | with_reducible apply neb_st
    | with_reducible apply isb_st
    | with_reducible apply eqs_st
    | with_reducible apply nes_st
    | with_reducible refine ix2bi (fun _ _ _ => ?_)
    | ((with_reducible refine ix4i ?_ ?_ (fun _ _ _ => ?_)); (· walk_at "z"); (· walk_at "z"))
    | ((with_reducible refine ix2i ?_ ?_ (fun _ _ _ => ?_)); (· walk_at "z"); (· walk_at "z"))
    | ((with_reducible refine ix3i ?_ ?_ (fun _ _ _ => ?_)); (· walk_at "z"); (· walk_at "z"))
    | refine ⟨_, rfl, ?_⟩)
  | ((with_reducible refine fill_st ?_); refine ⟨_, rfl, ?_⟩; (try dsimp only))
  | ((with_reducible apply and_go rfl); (· (intro _; (repeat walk_at "s"); with_reducible exact ⟨rfl, rfl⟩)))
  | ((with_reducible refine is_chain ?_); (apply chain_go rfl); (· (intro _; (repeat walk_at "s"); exact ⟨rfl, rfl⟩)))
  | ((with_reducible refine draw_step (by assumption) ?_ ?_ (fun _ _ _ _ _ => ?_)); (· walk_at "z"); (· walk_at "z"))
  | ((with_reducible refine CLY.draw_step (by assumption) ?_ ?_ (fun _ _ _ _ _ => ?_)); (· walk_at "z"); (· walk_at "z"))
  | ((with_reducible refine is_evA ?_); refine ⟨_, rfl, ?_⟩)
  | ((with_reducible refine is_evL ?_); refine ⟨_, rfl, ?_⟩)
  | ((with_reducible refine is_evI ?_); refine ⟨_, rfl, ?_⟩)
  | ((with_reducible refine is_evR ?_); refine ⟨_, rfl, ?_⟩))
local macro_rules | `(tactic| walk_at "f") => `(tactic| first
  | with_reducible refine W_mV.mpr ?_
  | with_reducible refine W_mCons.mpr ?_
  | with_reducible refine W_m2.mpr ?_
  | with_reducible refine W_mC.mpr ?_
  | with_reducible refine W_mNil.mpr ?_
  | with_reducible refine W_mN.mpr ?_
  | with_reducible refine W_sSeq.mpr ?_
  | with_reducible refine W_sAsg.mpr ?_
  | with_reducible refine W_m1.mpr ?_
  | with_reducible refine W_mCallP.mpr ?_
  | with_reducible refine W_mCall.mpr ?_
  | with_reducible refine X_evI.mpr ?_
  | with_reducible refine X_evE.mpr ?_
  | with_reducible refine X_evN.mpr ?_
  | with_reducible refine X_if ?_
  | with_reducible refine W_sRet.mpr ?_
  | with_reducible refine W_sK.mpr ?_
  | with_reducible refine X_and ?_
  | with_reducible refine X_or ?_
  | with_reducible refine W_sPar.mpr ?_
  | with_reducible refine W_mSl.mpr ?_
  | with_reducible refine W_mPtN.mpr ?_
  | with_reducible refine W_mPtS.mpr ?_
  | with_reducible refine W_mIt.mpr ?_
  | with_reducible refine W_mItN.mpr ?_
  | with_reducible refine W_mComp.mpr ?_
  | ((with_reducible refine is_comp ?_); first | (apply X_compN; (· walk_at "o")) | ((with_reducible apply X_compY); (· walk_at "o"); (· rfl)))
  | with_reducible refine W_sFor.mpr ?_
  | ((with_reducible refine is_for ?_); refine W_forNil.mpr ?_)
  | with_reducible refine X_chain ?_
  | with_reducible refine W_sExp.mpr ?_
  | with_reducible refine W_mL.mpr ?_
  | with_reducible refine X_mif ?_
  | with_reducible refine W_mIxS.mpr ?_
  | with_reducible refine W_mYes.mpr ?_
  | with_reducible refine W_sPar3.mpr ?_
  | with_reducible refine W_mApp.mpr ?_
  | with_reducible refine W_mBor.mpr ?_
  | with_reducible refine CLX.W_sFz.mpr ?_)
local macro_rules | `(tactic| walk_at "s") => `(tactic| first
  | ((with_reducible refine is_W ?_); walk_at "f")
  | ((with_reducible refine is_ex ?_); first
    | ((with_reducible refine is_evS ?_); refine ⟨_, rfl, ?_⟩)
    | ((with_reducible apply call_st); (· with_reducible assumption))
    | walk_at "e")
  | ((with_reducible apply X_nx); (· walk_at "o"))
  | with_reducible refine Kq_ret.mpr ?_
  | with_reducible refine Kq_brk.mpr ?_
  | with_reducible refine Kq_cnt.mpr ?_
  | ((with_reducible apply X_fnx); (· walk_at "o"))
  | ((with_reducible apply X_fcnt); (· walk_at "o"))
  | with_reducible refine X_fbrk ?_
  | with_reducible refine X_fret ?_
  | ((with_reducible refine is_ltA ?_); refine ⟨?_, ?_⟩; (· first | decide | omega | (simp; omega) | (simp; done)))
  | with_reducible refine parW_mk.mpr ?_
  | with_reducible refine par3W_mk.mpr ?_)
local macro_rules | `(tactic| walk_at "r") => `(tactic| repeat walk_at "s")
local macro_rules | `(tactic| walk_at "u") => `(tactic| first | ((apply X_forC); (· walk_at "o"); (· rfl)) | ((apply X_compY); (· walk_at "o"); (· rfl)) | ((apply X_compC); (· walk_at "o"); (· rfl)))
local macro_rules | `(tactic| walk_at "g") => `(tactic| repeat first | walk_at "s" | (with_reducible refine go_ifF (rfl : _ = false) ?_) | (with_reducible refine go_ifT (rfl : _ = true) ?_) | (refine go_ifF (rfl : _ = false) ?_) | (refine go_ifT (rfl : _ = true) ?_) | walk_at "u")
/-! ### things that are spoilt at any depth, dicts among them -/
mutual
/-- data: ints below 2 ^ b, at most so deep, texts not long -/
def D.gd (b : Nat) : Nat → D → Bool
  | _, .non => true
  | _, .bl _ => true
  | _, .int i => decide (i.natAbs < 2 ^ b)
  | _, .str x => x.cps.all (· < 16 ^ 8) && decide (x.length ≤ 200)
  | n + 1, .tup l => D.gdL b n l
  | n + 1, .lst l => D.gdL b n l
  | n + 1, .dct ks vs => D.gdL b n ks && D.gdL b n vs && decide (ks.length = vs.length)
  | _, _ => false
def D.gdL (b : Nat) : Nat → List D → Bool
  | _, [] => true
  | n, d :: ds => D.gd b n d && D.gdL b n ds
end
theorem gdL_iff {b n : Nat} : ∀ {l : List D}, D.gdL b n l = true ↔ ∀ x ∈ l, D.gd b n x = true
  | [] => by simp [D.gdL]
  | d :: l => by simp [D.gdL, gdL_iff (l := l)]
mutual
theorem gd_mono {b c : Nat} (hb : b ≤ c) : ∀ {n m : Nat} (d : D), n ≤ m → D.gd b n d = true → D.gd c m d = true
  | _, _, .non, _, _ => by simp [D.gd]
  | _, _, .bl _, _, _ => by simp [D.gd]
  | _, _, .int i, _, h => by
    simp only [D.gd, decide_eq_true_eq] at h ⊢
    exact Nat.lt_of_lt_of_le h (Nat.pow_le_pow_right (by decide) hb)
  | _, _, .str x, _, h => by simpa only [D.gd] using h
  | n + 1, m + 1, .tup l, hn, h => by simp only [D.gd] at h ⊢; exact gdL_mono hb l (by omega) h
  | n + 1, m + 1, .lst l, hn, h => by simp only [D.gd] at h ⊢; exact gdL_mono hb l (by omega) h
  | n + 1, m + 1, .dct ks vs, hn, h => by
    simp only [D.gd, Bool.and_eq_true] at h ⊢
    exact ⟨⟨gdL_mono hb ks (by omega) h.1.1, gdL_mono hb vs (by omega) h.1.2⟩, h.2⟩
  | 0, _, .tup l, _, h => by simp [D.gd] at h
  | 0, _, .lst l, _, h => by simp [D.gd] at h
  | 0, _, .dct _ _, _, h => by simp [D.gd] at h
  | n + 1, 0, _, hn, _ => by omega
  | _, _, .ins _ _ _, _, h => by simp [D.gd] at h
  | _, _, .scr _, _, h => by simp [D.gd] at h
theorem gdL_mono {b c : Nat} (hb : b ≤ c) : ∀ {n m : Nat} (l : List D), n ≤ m → D.gdL b n l = true → D.gdL c m l = true
  | _, _, [], _, _ => by simp [D.gdL]
  | n, m, d :: ds, hn, h => by
    simp only [D.gdL, Bool.and_eq_true] at h ⊢
    exact ⟨gd_mono hb d hn h.1, gdL_mono hb ds hn h.2⟩
end
mutual
theorem gd_okE {b : Nat} (hb : b ≤ 400) : ∀ (n : Nat) (d : D), D.gd b n d = true → D.okE n d = true
  | _, .non, _ => by simp [D.okE]
  | _, .bl _, _ => by simp [D.okE]
  | _, .int i, h => by
    simp only [D.gd, decide_eq_true_eq] at h
    simp only [D.okE, decide_eq_true_eq]
    exact Nat.lt_of_lt_of_le h (Nat.pow_le_pow_right (by decide) hb)
  | _, .str x, h => by simp [D.okE]
  | n + 1, .tup l, h => by simp only [D.gd] at h; simp only [D.okE]; exact gdL_okE hb n l h
  | n + 1, .lst l, h => by simp only [D.gd] at h; simp only [D.okE]; exact gdL_okE hb n l h
  | n + 1, .dct ks vs, h => by
    simp only [D.gd, Bool.and_eq_true] at h
    simp only [D.okE, Bool.and_eq_true]
    exact ⟨⟨gdL_okE hb n ks h.1.1, gdL_okE hb n vs h.1.2⟩, h.2⟩
  | 0, .tup l, h => by simp [D.gd] at h
  | 0, .lst l, h => by simp [D.gd] at h
  | 0, .dct _ _, h => by simp [D.gd] at h
  | _, .ins _ _ _, h => by simp [D.gd] at h
  | _, .scr _, h => by simp [D.gd] at h
theorem gdL_okE {b : Nat} (hb : b ≤ 400) : ∀ (n : Nat) (l : List D), D.gdL b n l = true → D.okEL n l = true
  | _, [], _ => by simp [D.okEL]
  | n, d :: ds, h => by
    simp only [D.gdL, Bool.and_eq_true] at h
    simp only [D.okEL, Bool.and_eq_true]
    exact ⟨gd_okE hb n d h.1, gdL_okE hb n ds h.2⟩
end
theorem okE_mono : ∀ {n m : Nat} {d : D}, n ≤ m → D.gd 400 n d = true → D.okE m d = true := fun h g => gd_okE (Nat.le_refl _) _ _ (gd_mono (Nat.le_refl _) _ h g)
theorem repr_gd {b n : Nat} {d : D} (h : D.gd b n d = true) (hb : b ≤ 400) (hn : n ≤ 60) (hw : d.wtE ≤ 100000) : bReprE [d] = some (.str d.shownE) := by
  simp only [bReprE]
  rw [if_pos ⟨gd_okE hb 60 d (gd_mono (Nat.le_refl _) d hn h), hw⟩]
theorem gd_nn {b n : Nat} {d : D} (h : D.gd b n d = true) : CLX.Nn d := fun c ns fs e => by rw [e] at h; cases n <;> simp [D.gd] at h
theorem gd_nnL {b n : Nat} {d : D} (h : D.gd b n d = true) : ∀ l, d = .tup l → ∀ z ∈ l, CLX.Nn z := fun l e z hz => by
  subst e
  cases n with
  | zero => simp [D.gd] at h
  | succ n => simp only [D.gd] at h; exact gd_nn (gdL_iff.mp h z hz)
/-! weights -/
theorem wtE_pos (d : D) : 1 ≤ d.wtE := by cases d <;> simp [D.wtE] <;> omega
theorem wtEL_app : ∀ (l r : List D), D.wtEL (l ++ r) = D.wtEL l + D.wtEL r
  | [], r => by simp [D.wtEL]
  | d :: l, r => by simp [D.wtEL, wtEL_app l r]; omega
theorem wtEL_mem : ∀ {l : List D} {x : D}, x ∈ l → x.wtE ≤ D.wtEL l
  | [], _, h => by simp at h
  | d :: l, x, h => by
    simp only [D.wtEL]
    rcases List.mem_cons.mp h with rfl | h
    · omega
    · have := wtEL_mem h; omega
theorem wtEL_len : ∀ (l : List D), l.length ≤ D.wtEL l
  | [] => by simp [D.wtEL]
  | d :: l => by have := wtEL_len l; have := wtE_pos d; simp [D.wtEL]; omega
theorem wtEL_rev : ∀ (l : List D), D.wtEL l.reverse = D.wtEL l
  | [] => rfl
  | d :: l => by simp [wtEL_app, D.wtEL, wtEL_rev l]; omega
theorem wtEL_take (l : List D) (k : Nat) : D.wtEL (l.take k) ≤ D.wtEL l := by
  have h := wtEL_app (l.take k) (l.drop k)
  rw [List.take_append_drop] at h
  omega
theorem wtEL_drop (l : List D) (k : Nat) : D.wtEL (l.drop k) ≤ D.wtEL l := by
  have h := wtEL_app (l.take k) (l.drop k)
  rw [List.take_append_drop] at h
  omega
theorem cut_wt (l : List D) (lo hi : Option Int) : D.wtEL (cutD l lo hi) ≤ D.wtEL l := by
  unfold cutD
  exact Nat.le_trans (wtEL_take _ _) (wtEL_drop _ _)
theorem cut_len {α : Type} (l : List α) (lo hi : Option Int) : (cutD l lo hi).length ≤ l.length := by
  unfold cutD
  simp
  omega
theorem cut_gd {b n : Nat} {l : List D} {lo hi : Option Int} (h : ∀ x ∈ l, D.gd b n x = true) : ∀ x ∈ cutD l lo hi, D.gd b n x = true := fun x hx => h x (List.mem_of_mem_drop (List.mem_of_mem_take hx))
theorem wtEL_set : ∀ {l : List D} {k : Nat} {x : D} (y : D), l[k]? = some x → D.wtEL (l.set k y) + x.wtE = D.wtEL l + y.wtE
  | [], _, _, _, h => by simp at h
  | d :: l, 0, x, y, h => by simp at h; subst h; simp [D.wtEL]; omega
  | d :: l, k + 1, x, y, h => by
    have := wtEL_set (l := l) (k := k) y (by simpa using h)
    simp [D.wtEL]; omega
/-! a part -/
theorem At.gd {b : Nat} : ∀ {d : D} {p : List Nat} {e : D} {n : Nat}, At d p e → D.gd b n d = true → ∃ m, m + p.length ≤ n ∧ D.gd b m e = true
  | _, _, _, n, .nil d, h => ⟨n, by simp, h⟩
  | _, _, _, n + 1, .cons hk r, h => by
    simp only [D.gd] at h
    obtain ⟨m, h1, h2⟩ := r.gd (gdL_iff.mp h _ (List.mem_of_getElem? hk))
    exact ⟨m, by simp; omega, h2⟩
  | _, _, _, 0, .cons hk r, h => by simp [D.gd] at h
theorem At.wt : ∀ {d : D} {p : List Nat} {e : D}, At d p e → e.wtE ≤ d.wtE
  | _, _, _, .nil d => Nat.le_refl _
  | _, _, _, .cons hk r => by
    have h1 := r.wt
    have h2 := wtEL_mem (List.mem_of_getElem? hk)
    simp only [D.wtE]; omega
theorem putAt_gd {b c : Nat} {v : D} (hb : b ≤ c) : ∀ {d : D} {p : List Nat} {e : D} {n m : Nat}, At d p e → D.gd b n d = true → m + p.length ≤ n → D.gd c (m + 1) v = true → D.gd c (n + 1) (putAt d p v) = true
  | _, _, _, n, m, .nil d, _, hm, hv => by simp only [putAt]; exact gd_mono (Nat.le_refl _) v (by simp at hm; omega) hv
  | _, _, _, n + 1, m, .cons (l := l) (k := k) (x := x) hk r, h, hm, hv => by
    simp only [D.gd] at h
    simp only [putAt, hk, D.gd]
    refine gdL_iff.mpr fun y hy => ?_
    rcases List.mem_or_eq_of_mem_set hy with hy | rfl
    · exact gd_mono hb y (by omega) (gdL_iff.mp h y hy)
    · exact putAt_gd hb r (gdL_iff.mp h x (List.mem_of_getElem? hk)) (by simp at hm; omega) hv
  | _, _, _, 0, _, .cons hk r, h, _, _ => by simp [D.gd] at h
theorem putAt_wt {v : D} : ∀ {d : D} {p : List Nat} {e : D}, At d p e → (putAt d p v).wtE + e.wtE = d.wtE + v.wtE
  | _, _, _, .nil d => by simp only [putAt]; omega
  | _, _, _, .cons (l := l) (k := k) (x := x) (p := p) hk r => by
    have h1 := putAt_wt (v := v) r
    have h2 := wtEL_set (putAt x p v) hk
    simp only [putAt, hk, D.wtE]
    omega
theorem put_ok2 {v : D} : ∀ (n : Nat) {d : D} {p : List Nat} {e : D}, At d p e → p.length < n → d.wtE ≤ 10000000 → putR n [d, pathD p, v] = .ok (putAt d p v)
  | 0, _, _, _, _, h, _ => by omega
  | n + 1, _, _, _, .nil d, _, _ => by
    refine runP_of ?_
    simp only [putB, W_sSeq, W_sIf, W_m2, W_mV, W_mN, W_mNil]
    simp [pathD, bTup, eq_tup0, W_sRet, W_mV, Kq_ret, putAt]
  | n + 1, _, _, _, .cons (l := l) (k := k) (x := x) (p := p) (e := e) hk r, h, ht => by
    have hx := wtEL_mem (List.mem_of_getElem? hk)
    simp only [D.wtE] at ht
    have ih := put_ok2 (v := v) n r (by simp at h; omega) (by omega)
    have hl := (List.getElem?_eq_some_iff.mp hk).1
    have h1000 := wtEL_len l
    refine runP_of ?_
    simp only [putB, W_sSeq, W_sIf, W_m2, W_mV, W_mN, W_mNil]
    simp [pathD, bTup, eq_tup0, W_sK, Kq_nx, W_sSeq, W_sAsg, W_m2, W_mV, W_mC, bIx, atI, ixN, pN, W_sRet, W_mSl, W_mPtN, W_mPtS, bSl, W_mN, W_mCons, W_mCallP, W_mNil, hl, hk]
    have e1 : cutD (D.int (k : Nat) :: p.map fun (k : Nat) => D.int k) (some 1) none = p.map fun (k : Nat) => D.int k := cut_from (k := 1)
    have e2 : cutD l none (some (k : Int)) = l.take k := cut_to (by omega)
    have e3 : cutD l (some ((k : Int) + 1)) none = l.drop (k + 1) := by rw [← cut_from (l := l) (k := k + 1)]; norm_cast
    unfold pathD at ih
    have ex : l[k] = x := (List.getElem?_eq_some_iff.mp hk).2
    simp only [e1, e2, e3, ex, ih]
    refine ⟨_, rfl, .tup (l.take k ++ [putAt x p v]), by simp [bAdd]; omega, ?_⟩
    refine ⟨.int ((k : Int) + 1), rfl, _, rfl, ?_⟩
    simp only [putAt, hk, bAdd, e3]
    rw [if_pos (by simp; omega)]
    congr 2
    rw [List.set_eq_take_append_cons_drop, if_pos hl]
    simp
def spots2B (R : List D → Res D) : MS := (sSeq (sAsg (pN 1) (mN bLst (mCons (mN bTup mNil) mNil))) (sSeq (sIf (m1 (bIsi "tuple") (mV 0)) (sFor (pN 2) (mItN range1 (mCons (mN bLen (mCons (mV 0) mNil)) mNil)) (sExp (mExt 1 (mComp [3] (pN 3) (mIt (mCallP R (mCons (m2 bIx (mV 0) (mV 2)) mNil))) mYes (m2 bAdd (mN bTup (mCons (mV 2) mNil)) (mV 3)))))) (sK .nx)) (sFz 1 (sRet (mV 1)))))
def spots2R : Nat → List D → Res D
  | 0 => fun _ => .bad
  | n + 1 => runP 3 (spots2B (spots2R n))
def bent2B : MS := (sSeq (sAsg (pT 3 (psC (pN 2) (psC (pN 3) (psC (pN 4) psN)))) (mV 1)) (sSeq (sAsg (pN 5) (mCallP (spots2R 12) (mCons (mV 0) mNil))) (sSeq (sAsg (pN 6) (m2 bIx (mV 5) (m2 bMod (mV 3) (mN bLen (mCons (mV 5) mNil))))) (sSeq (sAsg (pN 7) (mV 0)) (sSeq (sFor (pN 8) (mIt (mV 6)) (sAsg (pN 7) (m2 bIx (mV 7) (mV 8)))) (sSeq (sIf (mAnd (m2 bLt (mV 2) (mC (.int 4))) (m1 (bIsi "int") (mV 7))) (sSeq (sAsg (pN 9) (mN bLst (mCons (m2 bAddB (mV 7) (mC (.int 1))) (mCons (m2 bSubB (mV 7) (mC (.int 1))) (mCons (m2 bSubB (mC (.int 0)) (mV 7)) (mCons (m2 bEq (mV 7) (mC (.int 1))) (mCons (mN bStrB (mCons (mV 7) mNil)) (mCons (m2 bMulB (mC (.int 2)) (mV 7)) (mCons (m2 bAddB (mV 7) (m2 bPow (mC (.int 10)) (mC (.int 30)))) (mCons (mC .non) mNil)))))))))) (sRet (mCallP (putR 12) (mCons (mV 0) (mCons (mV 6) (mCons (m2 bIx (mV 9) (m2 bMod (mV 4) (mC (.int 8)))) mNil)))))) (sK .nx)) (sSeq (sIf (mAnd (m2 bLt (mV 2) (mC (.int 6))) (m1 (bIsi "tuple") (mV 7))) (sSeq (sAsg (pN 10) (m2 bMod (mV 4) (m2 bAddB (mN bLen (mCons (mV 7) mNil)) (mC (.int 1))))) (sSeq (sAsg (pN 9) (mN bLst (mCons (m2 bAddB (mSl (mV 7) none (some (mV 10))) (mSl (mV 7) (some (m2 bAddB (mV 10) (mC (.int 1)))) none)) (mCons (m2 bAddB (m2 bAddB (mSl (mV 7) none (some (mV 10))) (mSl (mV 7) (some (mV 10)) (some (m2 bAddB (mV 10) (mC (.int 1)))))) (mSl (mV 7) (some (mV 10)) none)) (mCons (m1 bRevT (mV 7)) (mCons (mL listOfD (mCons (mV 7) mNil)) mNil)))))) (sSeq (sExp (mApp 9 (m2 bAddB (m2 bAddB (mSl (mV 7) none (some (mV 10))) (m1 bRevT (mSl (mV 7) (some (mV 10)) (some (m2 bAddB (mV 10) (mC (.int 2))))))) (mSl (mV 7) (some (m2 bAddB (mV 10) (mC (.int 2)))) none)))) (sRet (mCallP (putR 12) (mCons (mV 0) (mCons (mV 6) (mCons (m2 bIx (mV 9) (m2 bMod (m2 bDiv (mV 4) (mC (.int 100))) (mC (.int 5)))) mNil)))))))) (sK .nx)) (sSeq (sAsg (pN 11) (mN bLst (mCons (mC .non) (mCons (mC (.bl true)) (mCons (mC (.bl false)) (mCons (mC (.int 0)) (mCons (mC (.int 1)) (mCons (m1 bNeg (mC (.int 1))) (mCons (mC (.str "")) (mCons (mC (.str "meets")) (mCons (mC (.str "misses")) (mCons (mN bTup mNil) (mCons (mN bLst mNil) (mCons (mC (.dct [] [])) (mCons (mN bLst (mCons (mV 7) mNil)) (mCons (mN bTup (mCons (mV 7) mNil)) (mCons (m2 bPow (mC (.int 10)) (mC (.int 39))) (mCons (mN bTup (mCons (mC (.int 0)) (mCons (mC (.int 1)) mNil))) mNil)))))))))))))))))) (sRet (mCallP (putR 12) (mCons (mV 0) (mCons (mV 6) (mCons (m2 bIx (mV 11) (m2 bMod (mV 4) (mC (.int 16)))) mNil)))))))))))))
def bent2F : List D → Res D := runP 10 bent2B
def spoils2B : MS := (sSeq (sAsg (pN 2) (mN bLst mNil)) (sSeq (sFor (pN 3) (mItN range1 (mCons (mV 1) mNil)) (sExp (mApp 2 (mN bTup (mCons (mCall drawF (.io 0 :: (.e (mC (.int 8)) :: []))) (mCons (mCall drawF (.io 0 :: (.e (mC (.int 100003)) :: []))) (mCons (mCall drawF (.io 0 :: (.e (mC (.int 99991)) :: []))) (mCons (mCall drawF (.io 0 :: (.e (mC (.int 3)) :: []))) mNil)))))))) (sFz 2 (sRet (mV 2)))))
def spoils2F : Fn := runF [.ol (.ol .sh .sh) .sh, .sh] 2 spoils2B
theorem X_ext {i : Nat} {m : M D} {ρ : Sl} {Q : D → Sl → Prop} {d0 : D} (h0 : ρ[i]? = some (some d0)) (h : W m ρ fun d ρ1 => ∃ l r, d = .lst r ∧ ρ1[i]? = some (some (.lst l)) ∧ l.length + r.length ≤ 16777216 ∧ Q .non (ρ1.set i (some (.lst (l ++ r))))) : W (mExt i m) ρ Q := by
  unfold mExt
  refine W_bind.mpr (W_mV.mpr ⟨d0, h0, W_bind.mpr (h.mono fun d ρ1 hh => ?_)⟩)
  obtain ⟨l, r, rfl, h1, h2, h3⟩ := hh
  exact ⟨_, _, by simp only [h1]; rw [if_pos h2], h3⟩
def intsF (k m : Nat) : List D := (List.range m).map fun i => .int ((k + i : Nat))
theorem intsF_succ {k m : Nat} : intsF k (m + 1) = .int (k : Nat) :: intsF (k + 1) m := by
  unfold intsF
  rw [List.range_succ_eq_map, List.map_cons, List.map_map]
  congr 1
  refine List.map_congr_left fun i _ => ?_
  simp only [Function.comp_apply]
  congr 2
  omega
theorem rangeL_ints (n : Nat) : rangeL 0 (n : Int) = intsF 0 n := by
  unfold rangeL intsF
  simp
theorem spots2_loop {R : List D → Res D} (l : List D) (ps : D → List (List Nat)) {Q : Fl → Sl → Prop} : ∀ (r : List D) (k : Nat) (acc : List (List Nat)) (o2 : Option D), l.drop k = r →
    (∀ x ∈ r, R [x] = .ok (.lst ((ps x).map pathD)) ∧ ∀ p ∈ ps x, p.length ≤ 1000) → acc.length + (r.map fun x => (ps x).length).sum ≤ 16777216 →
    (∀ (out : List (List Nat)) (o2' : Option D), out.length = acc.length + (r.map fun x => (ps x).length).sum → (∀ p ∈ out, p ∈ acc ∨ ∃ (j : Nat) (x : D) (q : List Nat), r[j]? = some x ∧ q ∈ ps x ∧ p = (k + j) :: q) → Q .nx [some (.tup l), some (.lst (out.map pathD)), o2', none]) →
    W (forL (pN 2) (sExp (mExt 1 (mComp [3] (pN 3) (mIt (mCallP R (mCons (m2 bIx (mV 0) (mV 2)) mNil))) mYes (m2 bAdd (mN bTup (mCons (mV 2) mNil)) (mV 3))))) (intsF k r.length)) [some (.tup l), some (.lst (acc.map pathD)), o2, none] Q
  | [], k, acc, o2, _, _, _, hQ => W_forNil.mpr (hQ acc o2 (by simp) fun p hp => .inl hp)
  | x :: r, k, acc, o2, hdr, hR, hl, hQ => by
    obtain ⟨hx, hxp⟩ := hR x (by simp)
    simp only [List.map_cons, List.sum_cons] at hl
    have hk : l[k]? = some x := by
      have h := congrArg (fun z => z[0]?) hdr
      simpa using h
    have hdr' : l.drop (k + 1) = r := by
      rw [← List.drop_drop, hdr]; rfl
    rw [List.length_cons, intsF_succ]
    refine W_forCons.mpr ⟨[some (.tup l), some (.lst (acc.map pathD)), some (.int (k : Nat)), none], rfl, ?_⟩
    refine W_sExp.mpr (X_ext rfl ?_)
    simp only [W_m2, W_mV, W_mComp, W_mIt, W_mCallP, W_mCons, W_mNil]
    simp [bIx, at_nat hk, hx, itemsOf, wipeD]
    refine compTo (f := fun q => pathD (k :: q)) (fun q hq => ?_) ?_
    · have := hxp q hq
      refine ⟨_, [some (.tup l), some (.lst (acc.map pathD)), some (.int (k : Nat)), some (pathD q)], rfl, ?_, rfl⟩
      simp [m2, CL.bind, mN, mCons, mV, mNil, ofO, bTup, pathD, bAdd, show 1 + q.length ≤ 16777216 by omega]
    · refine ⟨acc.map pathD, rfl, by simp; omega, ?_⟩
      have e : (acc.map pathD ++ (ps x).map fun q => pathD (k :: q)) = (acc ++ (ps x).map (k :: ·)).map pathD := by simp [Function.comp_def]
      show W _ [some (.tup l), some (.lst (acc.map pathD ++ (ps x).map fun q => pathD (k :: q))), some (.int (k : Nat)), none] Q
      rw [e]
      refine spots2_loop l ps r (k + 1) (acc ++ (ps x).map (k :: ·)) _ hdr' (fun y hy => hR y (by simp [hy])) (by simp; omega) fun out o2' h2 h3 => hQ out o2' (by rw [h2]; simp; omega) fun p hp => ?_
      rcases h3 p hp with h | ⟨j, y, q, a, b, c⟩
      · rcases List.mem_append.mp h with h | h
        · exact .inl h
        · obtain ⟨q, hq, rfl⟩ := List.mem_map.mp h
          exact .inr ⟨0, x, q, by simp, hq, by simp⟩
      · exact .inr ⟨j + 1, y, q, by simpa using a, b, by rw [c]; congr 1; omega⟩
theorem spots2_ok {b : Nat} : ∀ (N n : Nat) (d : D), n < N → N ≤ 100 → D.gd b n d = true → d.wtE ≤ 10000000 → ∃ ps : List (List Nat), spots2R N [d] = .ok (.lst (ps.map pathD)) ∧ 0 < ps.length ∧ ps.length ≤ d.wtE ∧ ∀ p ∈ ps, p.length ≤ n ∧ ∃ e, At d p e := by
  intro N
  induction N with
  | zero => intro n d h; omega
  | succ N ih =>
    intro n d hn hN h hw
    by_cases ht : ∃ l, d = .tup l
    · obtain ⟨l, rfl⟩ := ht
      cases n with
      | zero => simp [D.gd] at h
      | succ n =>
      simp only [D.gd] at h
      simp only [D.wtE] at hw
      have hx : ∀ x ∈ l, ∃ ps : List (List Nat), spots2R N [x] = .ok (.lst (ps.map pathD)) ∧ 0 < ps.length ∧ ps.length ≤ x.wtE ∧ ∀ p ∈ ps, p.length ≤ n ∧ ∃ e, At x p e := fun x hx => ih n x (by omega) (by omega) (gdL_iff.mp h x hx) (by have := wtEL_mem hx; omega)
      classical
      let ps : D → List (List Nat) := fun x => if hx' : x ∈ l then (hx x hx').choose else []
      have hps : ∀ x ∈ l, spots2R N [x] = .ok (.lst ((ps x).map pathD)) ∧ 0 < (ps x).length ∧ (ps x).length ≤ x.wtE ∧ ∀ p ∈ ps x, p.length ≤ n ∧ ∃ e, At x p e := fun x hx' => by
        have := (hx x hx').choose_spec
        simp only [ps, dif_pos hx']
        exact this
      have hs : (l.map fun x => (ps x).length).sum ≤ D.wtEL l := by
        have : ∀ m : List D, (∀ x ∈ m, (ps x).length ≤ x.wtE) → (m.map fun x => (ps x).length).sum ≤ D.wtEL m := by
          intro m
          induction m with
          | nil => intro _; simp [D.wtEL]
          | cons y m ih =>
            intro h
            simp only [List.map_cons, List.sum_cons, D.wtEL]
            have := h y (by simp)
            have := ih fun x hx => h x (by simp [hx])
            omega
        exact this l fun x hx => (hps x hx).2.2.1
      have big : ∃ d, runP 3 (spots2B (spots2R N)) [.tup l] = .ok d ∧ ∃ out : List (List Nat), d = .lst (out.map pathD) ∧ 0 < out.length ∧ out.length ≤ (D.tup l).wtE ∧ ∀ p ∈ out, p.length ≤ n + 1 ∧ ∃ e, At (.tup l) p e := by
        refine runP_ex ?_
        have hll := wtEL_len l
        have hr : range1 [.int l.length] = some (intsF 0 l.length) := by
          rw [← rangeL_ints]; simp [range1]; omega
        simp only [spots2B, W_sSeq, W_sAsg, W_mN, W_mCons, W_mNil, pN]
        simp [bTup, bLst, bLen, Kq_nx, W_sSeq, W_sIf, W_m1, W_mV, isi_tuple_tup, W_sK, W_sRet, W_sFor, W_mItN, W_mN, W_mCons, W_mNil, hr]
        refine spots2_loop l ps l 0 [[]] none rfl (fun x hx => ⟨(hps x hx).1, fun p hp => ?_⟩) (by simp; omega) fun out o2 h2 h3 => ?_
        · have := ((hps x hx).2.2.2 p hp).1; omega
        · simp [Kq_nx, W_sRet, W_mV, CLX.W_sFz]
          refine ⟨out, rfl, by rw [h2]; simp; omega, by rw [h2]; simp [D.wtE]; omega, fun p hp => ?_⟩
          rcases h3 p hp with h | ⟨j, x, q, a, b, c⟩
          · simp at h; subst h; exact ⟨Nat.zero_le _, _, .nil _⟩
          · obtain ⟨b1, e, b2⟩ := (hps x (List.mem_of_getElem? a)).2.2.2 q b
            rw [c]
            exact ⟨by simp; omega, e, .cons (by simpa using a) b2⟩
      obtain ⟨d, h1, out, rfl, h2, h3, h4⟩ := big
      exact ⟨out, h1, h2, h3, h4⟩
    · refine ⟨[[]], runP_of ?_, by simp, wtE_pos d, fun p hp => ?_⟩
      · have hi : bIsi "tuple" d = some (.bl false) := by
          rw [CLX.isi_tup (gd_nn h)]
          cases d <;> first | rfl | exact absurd ⟨_, rfl⟩ ht
        simp only [spots2B, W_sSeq, W_sAsg, W_mN, W_mCons, W_mNil, pN]
        simp [bTup, bLst, Kq_nx, W_sSeq, W_sIf, W_m1, W_mV, hi, W_sK, W_sRet, pathD, CLX.W_sFz]
      · simp at hp; subst hp; exact ⟨Nat.zero_le _, _, .nil _⟩

/-! the spoil itself -/
theorem part_loop2 : ∀ {d : D} {p : List Nat} {e : D} {o0 o1 o2 o3 o4 o5 o6 o8 o9 o10 o11 : Option D} {Q : Fl → Sl → Prop}, At d p e → (∀ o8', Q .nx [o0, o1, o2, o3, o4, o5, o6, some e, o8', o9, o10, o11]) → W (forL (pN 8) (sAsg (pN 7) (m2 bIx (mV 7) (mV 8))) (p.map fun (k : Nat) => D.int k)) [o0, o1, o2, o3, o4, o5, o6, some d, o8, o9, o10, o11] Q
  | _, _, _, o0, o1, o2, o3, o4, o5, o6, o8, o9, o10, o11, Q, .nil d, h => W_forNil.mpr (h o8)
  | _, _, _, o0, o1, o2, o3, o4, o5, o6, o8, o9, o10, o11, Q, .cons (l := l) (k := k) (x := x) hk r, h => by
    refine W_forCons.mpr ⟨_, rfl, ?_⟩
    simp only [W_sAsg, W_m2, W_mV]
    simp [bIx, at_nat hk, pN]
    exact part_loop2 r h
theorem txt_gd {b n : Nat} {i : Int} (h : i.natAbs < bigE) : D.gd b n (.str (toString i : String)) = true := by
  have e := bigE_text h
  simp only [D.gd, Bool.and_eq_true, decide_eq_true_eq]
  refine ⟨?_, by show (PySem.Str.ofString (toString i)).length ≤ 200; omega⟩
  show (PySem.Str.ofString (toString i)).cps.all _ = true
  rw [PySem.Str.ofString_eq_toList]
  simp only [Array.all_eq_true', List.mem_toArray, List.mem_map, decide_eq_true_eq]
  rintro c ⟨a, _, rfl⟩
  exact a.val.toNat_lt
theorem str_wt {b n : Nat} {x : Str} (h : D.gd b n (.str x) = true) : (D.str x).wtE ≤ 2010 := by
  simp only [D.gd, Bool.and_eq_true, decide_eq_true_eq] at h
  have e := StrLaws.reprText_len x (fun c hc => by
    have := Array.all_eq_true'.mp h.1 c (Array.mem_def.mpr hc)
    simpa using this)
  simp only [D.wtE]
  omega
/-- what is put in a part's place -/
def New (b m w : Nat) (v : D) : Prop := D.gd b m v = true ∧ v.wtE ≤ w
theorem New.leaf {b m w : Nat} {v : D} (h : D.gd b 0 v = true) (hw : v.wtE ≤ 2010) (k : 2010 ≤ w) : New b m w v := ⟨gd_mono (Nat.le_refl _) v (Nat.zero_le _) h, by omega⟩
theorem gd0_int {b : Nat} {i : Int} (h : i.natAbs < 2 ^ b) : D.gd b 0 (.int i) = true := by simp only [D.gd, decide_eq_true_eq]; exact h
theorem pow_lt {b c n : Nat} (h : n < 2 ^ b) (k : b ≤ c) : n < 2 ^ c := Nat.lt_of_lt_of_le h (Nat.pow_le_pow_right (by decide) k)
theorem bent_int {b : Nat} (hb : 101 ≤ b) (hb2 : b ≤ 380) {i : Int} (h : i.natAbs < 2 ^ b) : (i + 1).natAbs < 2 ^ (b + 1) ∧ (i - 1).natAbs < 2 ^ (b + 1) ∧ (0 - i).natAbs < 2 ^ (b + 1) ∧ (2 * i).natAbs < 2 ^ (b + 1) ∧ (i + 1000000000000000000000000000000).natAbs < 2 ^ (b + 1) := by
  have h1 : 2 ^ 101 ≤ 2 ^ b := Nat.pow_le_pow_right (by decide) hb
  have h2 : 2 ^ (b + 1) = 2 * 2 ^ b := by rw [Nat.pow_succ]; omega
  have h3 : (2 : Nat) ^ 101 = 2535301200456458802993406410752 := by decide
  rw [h2]
  rw [h3] at h1
  generalize 2 ^ b = z at *
  omega
/-- the eight things that a number may become -/
def someI (i : Int) (s : Str) (t : Bool) : List D := [.int (i + 1), .int (i - 1), .int (0 - i), .bl t, .str s, .int (2 * i), .int (i + 1000000000000000000000000000000), .non]
theorem someI_new {b m : Nat} (hb : 101 ≤ b) (hb2 : b ≤ 380) {i : Int} {s : Str} {t : Bool} (h : i.natAbs < 2 ^ b) (hs : D.gd (b + 1) 0 (.str s) = true) : ∀ x ∈ someI i s t, New (b + 1) m 2010 x := by
  obtain ⟨h1, h2, h3, h4, h5⟩ := bent_int hb hb2 h
  have one : ∀ z : Int, (D.int z).wtE ≤ 2010 := fun z => by simp [D.wtE]
  unfold someI
  simp only [List.forall_mem_cons]
  refine ⟨.leaf (gd0_int h1) (one _) (Nat.le_refl _), .leaf (gd0_int h2) (one _) (Nat.le_refl _), .leaf (gd0_int h3) (one _) (Nat.le_refl _), .leaf (by simp [D.gd]) (by simp [D.wtE]) (Nat.le_refl _), .leaf hs (str_wt hs) (Nat.le_refl _), .leaf (gd0_int h4) (one _) (Nat.le_refl _), .leaf (gd0_int h5) (one _) (Nat.le_refl _), .leaf (by simp [D.gd]) (by simp [D.wtE]) (Nat.le_refl _), by simp⟩
theorem ixL {l : List D} {w : Int} {P : D → Prop} (h0 : 0 ≤ w) (h1 : w < l.length) (k : ∀ x ∈ l, P x) : ∃ d, bIx (.lst l) (.int w) = some d ∧ P d := by
  obtain ⟨x, e, hx⟩ := at_mem h0 h1
  exact ⟨x, e, k x hx⟩
def tupNew (b m w : Nat) (v : D) : Prop := New b m w v
theorem new_tup {b m w : Nat} {l : List D} (h : ∀ x ∈ l, D.gd b m x = true) (hw : 1 + D.wtEL l ≤ w) : New b (m + 1) w (.tup l) := ⟨by simp only [D.gd]; exact gdL_iff.mpr h, by simpa only [D.wtE] using hw⟩
theorem new_lst {b m w : Nat} {l : List D} (h : ∀ x ∈ l, D.gd b m x = true) (hw : 1 + D.wtEL l ≤ w) : New b (m + 1) w (.lst l) := ⟨by simp only [D.gd]; exact gdL_iff.mpr h, by simpa only [D.wtE] using hw⟩
theorem cat2 {l r : List D} (h : l.length + r.length ≤ 16777216) {P : D → Prop} (k : P (.tup (l ++ r))) : ∃ d, bAddB (.tup l) (.tup r) = some d ∧ P d := ⟨_, by simp only [bAddB, bAdd]; rw [if_pos h], k⟩
theorem isi_int {d : D} (h : CLX.Nn d) (hi : ∀ i, d ≠ .int i) (hb : ∀ t, d ≠ .bl t) : bIsi "int" d = some (.bl false) := by
  cases d with
  | int i => exact absurd rfl (hi i)
  | bl t => exact absurd rfl (hb t)
  | ins c ns fs => exact absurd rfl (h c ns fs)
  | _ => exact CLX.isi_of rfl (by decide +kernel)
theorem isi_int_bl {i : Bool} : bIsi "int" (.bl i) = some (.bl true) := CLX.isi_of rfl (by decide +kernel)
end CL

namespace CL
open PySem PySem.Spec L2
set_option autoImplicit false
section
variable {l : List D} {a b c d e f : Option Int} {P : D → Prop}
theorem catA (h : l.length ≤ 4000000) (k : P (.tup (cutD l a b ++ cutD l c d))) : ∃ z, bAddB (.tup (cutD l a b)) (.tup (cutD l c d)) = some z ∧ P z := cat2 (by have := cut_len l a b; have := cut_len l c d; omega) k
theorem catB (h : l.length ≤ 4000000) (k : P (.tup (cutD l a b ++ cutD l c d ++ cutD l e f))) : ∃ z, bAddB (.tup (cutD l a b ++ cutD l c d)) (.tup (cutD l e f)) = some z ∧ P z := cat2 (by have := cut_len l a b; have := cut_len l c d; have := cut_len l e f; simp only [List.length_append]; omega) k
theorem catC (h : l.length ≤ 4000000) (k : P (.tup (cutD l a b ++ (cutD l c d).reverse))) : ∃ z, bAddB (.tup (cutD l a b)) (.tup (cutD l c d).reverse) = some z ∧ P z := cat2 (by have := cut_len l a b; have := cut_len l c d; simp only [List.length_reverse]; omega) k
theorem catD (h : l.length ≤ 4000000) (k : P (.tup (cutD l a b ++ (cutD l c d).reverse ++ cutD l e f))) : ∃ z, bAddB (.tup (cutD l a b ++ (cutD l c d).reverse)) (.tup (cutD l e f)) = some z ∧ P z := cat2 (by have := cut_len l a b; have := cut_len l c d; have := cut_len l e f; simp only [List.length_append, List.length_reverse]; omega) k
end
local macro_rules | `(tactic| walk_at "o") => `(tactic| ((try simp only [backA, List.set_cons_zero, List.set_cons_succ, wipeD, List.map_cons, List.map_nil, List.cons_append, List.nil_append, List.replicate_succ, List.replicate_zero]); first | done | rfl))
local macro_rules | `(tactic| walk_at "b") => `(tactic| first
  | with_reducible exact Nb.lit
  | ((with_reducible apply Nb.mul) <;> walk_at "b")
  | ((with_reducible apply Nb.add) <;> walk_at "b")
  | ((with_reducible apply Nb.sub) <;> walk_at "b")
  | ((with_reducible apply Nb.neg) <;> walk_at "b")
  | ((with_reducible apply Nb.fdiv) <;> walk_at "b")
  | ((with_reducible apply Nb.fmod); (· walk_at "z"); (· walk_at "b"))
  | ((with_reducible apply Nb.max) <;> walk_at "b")
  | ((with_reducible apply Nb.min) <;> walk_at "b")
  | ((with_reducible apply Nb.ite) <;> walk_at "b")
  | with_reducible assumption
  | with_reducible exact Nb.le (by assumption)
  | with_reducible exact Nb.nle (by assumption)
  | with_reducible exact Nb.lt (by assumption)
  | ((with_reducible apply Nb.rng (by assumption) (by assumption)) <;> walk_at "b")
  | ((with_reducible apply Nb.rngE (by assumption) (by assumption)) <;> walk_at "b")
  | with_reducible exact Nb.self _)
local macro_rules | `(tactic| walk_at "z") => `(tactic| first | decide | assumption | omega | exact fmod_nn (by omega) | exact fmod_lt (by omega))
local macro_rules | `(tactic| walk_at "e") => `(tactic| first
  | ((with_reducible refine is_ev ?_); first
    | ((with_reducible apply mul_st); (· walk_at "b"); (· walk_at "b"); (· rfl))
    | ((with_reducible apply mul_s1); (· walk_at "b"); (· rfl))
    | ((with_reducible apply mul_s2); (· walk_at "b"); (· rfl))
    | ((with_reducible apply div_st); (· walk_at "z"); (· walk_at "b"); (· rfl))
    | ((with_reducible apply mod_st); (· walk_at "z"))
    | with_reducible apply tup_pt
    | with_reducible apply tup_ln
    | ((with_reducible apply tup_st); (· rfl))
    | ((with_reducible apply lst_st); (· rfl))
    | with_reducible apply eqi_st
    | with_reducible apply nei_st
    | with_reducible apply eqp_st
    | with_reducible apply nep_st
    | with_reducible apply eqp_st'
    | with_reducible apply nep_st'
    | with_reducible apply eqb_st
    | with_reducible apply neb_st
    | with_reducible apply isb_st
    | with_reducible apply eqs_st
    | with_reducible apply nes_st
    | with_reducible refine ix2bi (fun _ _ _ => ?_)
    | ((with_reducible refine ix4i ?_ ?_ (fun _ _ _ => ?_)); (· walk_at "z"); (· walk_at "z"))
    | ((with_reducible refine ix2i ?_ ?_ (fun _ _ _ => ?_)); (· walk_at "z"); (· walk_at "z"))
    | ((with_reducible refine ix3i ?_ ?_ (fun _ _ _ => ?_)); (· walk_at "z"); (· walk_at "z"))
    | refine ⟨_, rfl, ?_⟩)
  | ((with_reducible refine fill_st ?_); refine ⟨_, rfl, ?_⟩; (try dsimp only))
  | ((with_reducible apply and_go rfl); (· (intro _; (repeat walk_at "s"); with_reducible exact ⟨rfl, rfl⟩)))
  | ((with_reducible refine is_chain ?_); (apply chain_go rfl); (· (intro _; (repeat walk_at "s"); exact ⟨rfl, rfl⟩)))
  | ((with_reducible refine draw_step (by assumption) ?_ ?_ (fun _ _ _ _ _ => ?_)); (· walk_at "z"); (· walk_at "z"))
  | ((with_reducible refine CLY.draw_step (by assumption) ?_ ?_ (fun _ _ _ _ _ => ?_)); (· walk_at "z"); (· walk_at "z"))
  | ((with_reducible refine is_evA ?_); refine ⟨_, rfl, ?_⟩)
  | ((with_reducible refine is_evL ?_); refine ⟨_, rfl, ?_⟩)
  | ((with_reducible refine is_evI ?_); refine ⟨_, rfl, ?_⟩)
  | ((with_reducible refine is_evR ?_); refine ⟨_, rfl, ?_⟩))
local macro_rules | `(tactic| walk_at "f") => `(tactic| first
  | with_reducible refine W_mV.mpr ?_
  | with_reducible refine W_mCons.mpr ?_
  | with_reducible refine W_m2.mpr ?_
  | with_reducible refine W_mC.mpr ?_
  | with_reducible refine W_mNil.mpr ?_
  | with_reducible refine W_mN.mpr ?_
  | with_reducible refine W_sSeq.mpr ?_
  | with_reducible refine W_sAsg.mpr ?_
  | with_reducible refine W_m1.mpr ?_
  | with_reducible refine W_mCallP.mpr ?_
  | with_reducible refine W_mCall.mpr ?_
  | with_reducible refine X_evI.mpr ?_
  | with_reducible refine X_evE.mpr ?_
  | with_reducible refine X_evN.mpr ?_
  | with_reducible refine X_if ?_
  | with_reducible refine W_sRet.mpr ?_
  | with_reducible refine W_sK.mpr ?_
  | with_reducible refine X_and ?_
  | with_reducible refine X_or ?_
  | with_reducible refine W_sPar.mpr ?_
  | with_reducible refine W_mSl.mpr ?_
  | with_reducible refine W_mPtN.mpr ?_
  | with_reducible refine W_mPtS.mpr ?_
  | with_reducible refine W_mIt.mpr ?_
  | with_reducible refine W_mItN.mpr ?_
  | with_reducible refine W_mComp.mpr ?_
  | ((with_reducible refine is_comp ?_); first | (apply X_compN; (· walk_at "o")) | ((with_reducible apply X_compY); (· walk_at "o"); (· rfl)))
  | with_reducible refine W_sFor.mpr ?_
  | ((with_reducible refine is_for ?_); refine W_forNil.mpr ?_)
  | with_reducible refine X_chain ?_
  | with_reducible refine W_sExp.mpr ?_
  | with_reducible refine W_mL.mpr ?_
  | with_reducible refine X_mif ?_
  | with_reducible refine W_mIxS.mpr ?_
  | with_reducible refine W_mYes.mpr ?_
  | with_reducible refine W_sPar3.mpr ?_
  | with_reducible refine W_mApp.mpr ?_
  | with_reducible refine W_mBor.mpr ?_
  | with_reducible refine CLX.W_sFz.mpr ?_)
local macro_rules | `(tactic| walk_at "s") => `(tactic| first
  | ((with_reducible refine is_W ?_); walk_at "f")
  | ((with_reducible refine is_ex ?_); first
    | ((with_reducible refine is_evS ?_); refine ⟨_, rfl, ?_⟩)
    | ((with_reducible apply call_st); (· with_reducible assumption))
    | refine catA (by with_reducible assumption) ?_
    | refine catB (by with_reducible assumption) ?_
    | refine catC (by with_reducible assumption) ?_
    | refine catD (by with_reducible assumption) ?_
    | with_reducible refine ⟨_, by with_reducible assumption, ?_⟩
    | refine ixL (fmod_nn (by decide)) (fmod_lt (by decide)) (fun _ _ => ?_)
    | walk_at "e")
  | ((with_reducible apply X_nx); (· walk_at "o"))
  | with_reducible refine Kq_ret.mpr ?_
  | with_reducible refine Kq_brk.mpr ?_
  | with_reducible refine Kq_cnt.mpr ?_
  | ((with_reducible apply X_fnx); (· walk_at "o"))
  | ((with_reducible apply X_fcnt); (· walk_at "o"))
  | with_reducible refine X_fbrk ?_
  | with_reducible refine X_fret ?_
  | ((with_reducible refine is_ltA ?_); refine ⟨?_, ?_⟩; (· first | decide | omega | (simp; omega) | (simp; done)))
  | with_reducible refine parW_mk.mpr ?_
  | with_reducible refine par3W_mk.mpr ?_)
local macro_rules | `(tactic| walk_at "r") => `(tactic| repeat walk_at "s")
local macro_rules | `(tactic| walk_at "u") => `(tactic| first | ((apply X_forC); (· walk_at "o"); (· rfl)) | ((apply X_compY); (· walk_at "o"); (· rfl)) | ((apply X_compC); (· walk_at "o"); (· rfl)))
local macro_rules | `(tactic| walk_at "g") => `(tactic| repeat first | walk_at "s" | (with_reducible refine go_ifF (rfl : _ = false) ?_) | (with_reducible refine go_ifT (rfl : _ = true) ?_) | (refine go_ifF (rfl : _ = false) ?_) | (refine go_ifT (rfl : _ = true) ?_) | walk_at "u")
theorem put_fin {b n m w : Nat} {d e v : D} {p : List Nat} (hat : At d p e) (hg : D.gd b n d = true) (hm : m + p.length ≤ n) (hw : d.wtE ≤ w) (hn : n ≤ 10) (hw2 : w ≤ 1000000) (hv : New (b + 1) (m + 1) (3 * w + 2100) v) {P : D → Prop} (k : ∀ d', D.gd (b + 1) (n + 1) d' = true → d'.wtE ≤ 4 * w + 2100 → P d') :
    ∃ d', putR 12 [d, pathD p, v] = .ok d' ∧ P d' := by
  refine ⟨_, put_ok2 12 hat (by omega) (by omega), k _ (putAt_gd (by omega) hat hg hm hv.1) ?_⟩
  have h1 := putAt_wt (v := v) hat
  have h2 := hv.2
  omega
theorem odd_new {b m w : Nat} {e : D} (hb : 140 ≤ b) (he : D.gd b m e = true) (hw : e.wtE ≤ w) : ∀ x ∈ ([.non, .bl true, .bl false, .int 0, .int 1, .int (-1), .str "", .str "meets", .str "misses", .tup [], .lst [], .dct [] [], .lst [e], .tup [e], .int 1000000000000000000000000000000000000000, .tup [.int 0, .int 1]] : List D), New (b + 1) (m + 1) (3 * w + 2100) x := by
  have g0 : D.gd (b + 1) m (.int 0) = true := by simp [D.gd, Nat.pow_pos]
  have h1 : 2 ^ 140 ≤ 2 ^ (b + 1) := Nat.pow_le_pow_right (by decide) (by omega)
  have g1 : D.gd (b + 1) m (.int 1) = true := by
    simp only [D.gd, decide_eq_true_eq]
    exact Nat.lt_of_lt_of_le (by decide) h1
  have gm : D.gd (b + 1) (m + 1) (.int (-1)) = true := by
    simp only [D.gd, decide_eq_true_eq]
    exact Nat.lt_of_lt_of_le (by decide) h1
  have gb : D.gd (b + 1) (m + 1) (.int 1000000000000000000000000000000000000000) = true := by
    simp only [D.gd, decide_eq_true_eq]
    exact Nat.lt_of_lt_of_le (by decide) h1
  have gs : ∀ s : String, D.gd 0 0 (.str s) = true → New (b + 1) (m + 1) (3 * w + 2100) (.str s) := fun s h => ⟨gd_mono (by omega) _ (by omega) h, by have := str_wt h; omega⟩
  have he' : D.gd (b + 1) m e = true := gd_mono (by omega) _ (Nat.le_refl _) he
  simp only [List.forall_mem_cons]
  refine ⟨⟨by simp [D.gd], by simp [D.wtE]⟩, ⟨by simp [D.gd], by simp [D.wtE]⟩, ⟨by simp [D.gd], by simp [D.wtE]⟩, ⟨gd_mono (Nat.le_refl _) _ (by omega) g0, by simp [D.wtE]⟩, ⟨gd_mono (Nat.le_refl _) _ (by omega) g1, by simp [D.wtE]⟩, ⟨gm, by simp [D.wtE]⟩,
    gs "" (by decide +kernel), gs "meets" (by decide +kernel), gs "misses" (by decide +kernel), new_tup (by simp) (by simp [D.wtEL]), new_lst (by simp) (by simp [D.wtEL]), ⟨by simp [D.gd, D.gdL], by simp [D.wtE, D.wtEL]⟩,
    new_lst (by simpa using he') (by simp [D.wtEL]; omega), new_tup (by simpa using he') (by simp [D.wtEL]; omega), ⟨gb, by simp [D.wtE]⟩, new_tup (by simp only [List.forall_mem_cons]; exact ⟨g0, g1, by simp⟩) (by simp [D.wtEL, D.wtE]), by simp⟩
theorem powB : bPow (.int 10) (.int 30) = some (.int 1000000000000000000000000000000) := rfl
set_option maxHeartbeats 0 in
theorem bent_ok {d : D} {b n w : Nat} {way place what : Int} (hg : D.gd b n d = true) (hn : n ≤ 10) (hb : 140 ≤ b) (hb2 : b ≤ 380) (hw : d.wtE ≤ w) (hw2 : w ≤ 1000000) : ∃ d', bent2F [d, .tup [.int way, .int place, .int what]] = .ok d' ∧ D.gd (b + 1) (n + 1) d' = true ∧ d'.wtE ≤ 4 * w + 2100 := by
  obtain ⟨ps, e1, h0, h1, h2⟩ := spots2_ok 12 n d (by omega) (by omega) hg (by omega)
  have hne : (((ps.map pathD).length : Nat) : Int) ≠ 0 := by rw [List.length_map]; omega
  have hpos : 0 < (((ps.map pathD).length : Nat) : Int) := by rw [List.length_map]; omega
  refine runP_ex ?_
  unfold bent2B
  walk_at "r"
  refine ixL (fmod_nn hpos) (fmod_lt hpos) (fun x hx => ?_)
  obtain ⟨p, hp, rfl⟩ := List.mem_map.mp hx
  obtain ⟨hl, e, hat⟩ := h2 p hp
  obtain ⟨m, hm, he⟩ := hat.gd hg
  have hew := hat.wt
  walk_at "r"
  refine part_loop2 hat fun o8 => ?_
  have nn := gd_nn he
  by_cases hi : (∃ i, e = .int i) ∨ ∃ t, e = .bl t
  · have ht : bIsi "tuple" e = some (.bl false) := by
      rcases hi with ⟨i, rfl⟩ | ⟨t, rfl⟩ <;> exact CLX.isi_of rfl (by decide +kernel)
    have hi' : bIsi "int" e = some (.bl true) := by
      rcases hi with ⟨i, rfl⟩ | ⟨t, rfl⟩ <;> exact CLX.isi_of rfl (by decide +kernel)
    walk_at "r"
    refine go_if (fun hlt => ?_) fun _ => ?_
    · rcases hi with ⟨i, rfl⟩ | ⟨t, rfl⟩
      · have hib : i.natAbs < 2 ^ b := by simpa [D.gd] using he
        have hiE : i.natAbs < bigE := pow_lt hib (by omega)
        have hs : bStrB [.int i] = some (.str (toString i : String)) := by
          simp only [bStrB, bStr]
          rw [if_pos (bigE_R hiE)]
        walk_at "r"
        rename_i x hx
        refine put_fin hat hg hm hw hn hw2 ?_ fun d' g' w' => ?_
        · have h := someI_new (m := m + 1) (t := decide (i = 1)) (by omega) hb2 hib (txt_gd (b := b + 1) (n := 0) hiE) x hx
          exact ⟨h.1, by have := h.2; omega⟩
        walk_at "r"
        first | exact w' | exact ⟨g', w'⟩ | exact ⟨_, rfl, g', w'⟩
      · cases t with
        | true =>
          walk_at "r"
          rename_i x hx
          refine put_fin hat hg hm hw hn hw2 ?_ fun d' g' w' => ?_
          · have h : ∀ x ∈ ([.int 2, .int 0, .int (-1), .bl true, .str "True", .int 2, .int 1000000000000000000000000000001, .non] : List D), D.gd 140 0 x = true ∧ x.wtE ≤ 2010 := by decide +kernel
            have h := h x hx
            exact ⟨gd_mono (by omega) _ (by omega) h.1, by omega⟩
          walk_at "r"
          first | exact w' | exact ⟨g', w'⟩ | exact ⟨_, rfl, g', w'⟩
        | false =>
          walk_at "r"
          rename_i x hx
          refine put_fin hat hg hm hw hn hw2 ?_ fun d' g' w' => ?_
          · have h : ∀ x ∈ ([.int 1, .int (-1), .int 0, .bl false, .str "False", .int 0, .int 1000000000000000000000000000000, .non] : List D), D.gd 140 0 x = true ∧ x.wtE ≤ 2010 := by decide +kernel
            have h := h x hx
            exact ⟨gd_mono (by omega) _ (by omega) h.1, by omega⟩
          walk_at "r"
          first | exact w' | exact ⟨g', w'⟩ | exact ⟨_, rfl, g', w'⟩
    · walk_at "r"
      refine go_ifF (by simp) ?_
      walk_at "r"
      rename_i x hx
      refine put_fin hat hg hm hw hn hw2 (odd_new hb he (by omega) x hx) fun d' g' w' => ?_
      walk_at "r"
      first | exact w' | exact ⟨g', w'⟩ | exact ⟨_, rfl, g', w'⟩
  · have hi' : bIsi "int" e = some (.bl false) := isi_int nn (fun i h => hi (.inl ⟨i, h⟩)) (fun i h => hi (.inr ⟨i, h⟩))
    have ht := CLX.isi_tup nn
    walk_at "r"
    refine go_ifF (by simp) ?_
    walk_at "r"
    refine go_if (fun hh => ?_) fun _ => ?_
    · have hT : ∃ l, e = .tup l := by
        simp only [Bool.and_eq_true] at hh
        cases e with
        | tup l => exact ⟨l, rfl⟩
        | _ => exact absurd hh.2 (by simp [CLX.isTup])
      obtain ⟨l, rfl⟩ := hT
      have hll := wtEL_len l
      simp only [D.wtE] at hew
      have hp1 : (0 : Int) < (l.length : Int) + 1 := by omega
      have hp2 : (l.length : Int) + 1 ≠ 0 := by omega
      obtain ⟨m', rfl⟩ : ∃ m', m = m' + 1 := by
        cases m with
        | zero => simp [D.gd] at he
        | succ m' => exact ⟨m', rfl⟩
      simp only [D.gd] at he
      have hel := gdL_iff.mp he
      have hl4 : l.length ≤ 4000000 := by omega
      walk_at "r"
      refine ⟨by simp, ?_⟩
      walk_at "r"
      rename_i x hx
      refine put_fin hat hg hm hw hn hw2 ?_ fun d' g' w' => ?_
      · have gl : ∀ z ∈ l, D.gd (b + 1) m' z = true := fun z hz => gd_mono (by omega) z (Nat.le_refl _) (hel z hz)
        have gc : ∀ lo hi, ∀ z ∈ cutD l lo hi, D.gd (b + 1) m' z = true := fun lo hi => cut_gd gl
        have cw : ∀ lo hi, D.wtEL (cutD l lo hi) ≤ D.wtEL l := fun lo hi => cut_wt l lo hi
        have up : ∀ v, New (b + 1) (m' + 1) (3 * w + 2100) v → New (b + 1) (m' + 1 + 1) (3 * w + 2100) v := fun v h => ⟨gd_mono (Nat.le_refl _) v (by omega) h.1, h.2⟩
        refine up x ?_
        revert x
        show ∀ x ∈ [_, _, _, _, _], _
        simp only [List.forall_mem_cons]
        refine ⟨new_tup (fun z hz => ?_) ?_, new_tup (fun z hz => ?_) ?_, new_tup (fun z hz => ?_) ?_, new_lst (fun z hz => ?_) ?_, new_tup (fun z hz => ?_) ?_, by simp⟩
        · rcases List.mem_append.mp hz with h | h <;> exact gc _ _ z h
        · rw [wtEL_app]
          have h1 := cw none (some (what.fmod (↑l.length + 1)))
          have h2 := cw (some (what.fmod (↑l.length + 1) + 1)) none
          omega
        · rcases List.mem_append.mp hz with h | h
          · rcases List.mem_append.mp h with h | h <;> exact gc _ _ z h
          · exact gc _ _ z h
        · rw [wtEL_app, wtEL_app]
          have h1 := cw none (some (what.fmod (↑l.length + 1)))
          have h2 := cw (some (what.fmod (↑l.length + 1))) (some (what.fmod (↑l.length + 1) + 1))
          have h3 := cw (some (what.fmod (↑l.length + 1))) none
          omega
        · exact gl z (List.mem_reverse.mp hz)
        · rw [wtEL_rev]; omega
        · exact gl z hz
        · omega
        · rcases List.mem_append.mp hz with h | h
          · rcases List.mem_append.mp h with h | h
            · exact gc _ _ z h
            · exact gc _ _ z (List.mem_reverse.mp h)
          · exact gc _ _ z h
        · rw [wtEL_app, wtEL_app, wtEL_rev]
          have h1 := cw none (some (what.fmod (↑l.length + 1)))
          have h2 := cw (some (what.fmod (↑l.length + 1))) (some (what.fmod (↑l.length + 1) + 2))
          have h3 := cw (some (what.fmod (↑l.length + 1) + 2)) none
          omega
      walk_at "r"
      first | exact w' | exact ⟨g', w'⟩ | exact ⟨_, rfl, g', w'⟩
    · walk_at "r"
      rename_i x hx
      refine put_fin hat hg hm hw hn hw2 (odd_new hb he (by omega) x hx) fun d' g' w' => ?_
      walk_at "r"
      first | exact w' | exact ⟨g', w'⟩ | exact ⟨_, rfl, g', w'⟩
end CL

namespace CL
open PySem PySem.Spec L2
set_option autoImplicit false
local macro_rules | `(tactic| walk_at "o") => `(tactic| ((try simp only [backA, List.set_cons_zero, List.set_cons_succ, wipeD, List.map_cons, List.map_nil, List.cons_append, List.nil_append, List.replicate_succ, List.replicate_zero]); first | done | rfl))
local macro_rules | `(tactic| walk_at "b") => `(tactic| first
  | with_reducible exact Nb.lit
  | ((with_reducible apply Nb.mul) <;> walk_at "b")
  | ((with_reducible apply Nb.add) <;> walk_at "b")
  | ((with_reducible apply Nb.sub) <;> walk_at "b")
  | ((with_reducible apply Nb.neg) <;> walk_at "b")
  | ((with_reducible apply Nb.fdiv) <;> walk_at "b")
  | ((with_reducible apply Nb.fmod); (· walk_at "z"); (· walk_at "b"))
  | ((with_reducible apply Nb.max) <;> walk_at "b")
  | ((with_reducible apply Nb.min) <;> walk_at "b")
  | ((with_reducible apply Nb.ite) <;> walk_at "b")
  | with_reducible assumption
  | with_reducible exact Nb.le (by assumption)
  | with_reducible exact Nb.nle (by assumption)
  | with_reducible exact Nb.lt (by assumption)
  | ((with_reducible apply Nb.rng (by assumption) (by assumption)) <;> walk_at "b")
  | ((with_reducible apply Nb.rngE (by assumption) (by assumption)) <;> walk_at "b")
  | with_reducible exact Nb.self _)
local macro_rules | `(tactic| walk_at "z") => `(tactic| first | decide | assumption | omega | exact fmod_nn (by omega) | exact fmod_lt (by omega))
local macro_rules | `(tactic| walk_at "e") => `(tactic| first
  | ((with_reducible refine is_ev ?_); first
    | ((with_reducible apply mul_st); (· walk_at "b"); (· walk_at "b"); (· rfl))
    | ((with_reducible apply mul_s1); (· walk_at "b"); (· rfl))
    | ((with_reducible apply mul_s2); (· walk_at "b"); (· rfl))
    | ((with_reducible apply div_st); (· walk_at "z"); (· walk_at "b"); (· rfl))
    | ((with_reducible apply mod_st); (· walk_at "z"))
    | with_reducible apply tup_pt
    | with_reducible apply tup_ln
    | ((with_reducible apply tup_st); (· rfl))
    | ((with_reducible apply lst_st); (· rfl))
    | with_reducible apply eqi_st
    | with_reducible apply nei_st
    | with_reducible apply eqp_st
    | with_reducible apply nep_st
    | with_reducible apply eqp_st'
    | with_reducible apply nep_st'
    | with_reducible apply eqb_st
    | with_reducible apply neb_st
    | with_reducible apply isb_st
    | with_reducible apply eqs_st
    | with_reducible apply nes_st
    | with_reducible refine ix2bi (fun _ _ _ => ?_)
    | ((with_reducible refine ix4i ?_ ?_ (fun _ _ _ => ?_)); (· walk_at "z"); (· walk_at "z"))
    | ((with_reducible refine ix2i ?_ ?_ (fun _ _ _ => ?_)); (· walk_at "z"); (· walk_at "z"))
    | ((with_reducible refine ix3i ?_ ?_ (fun _ _ _ => ?_)); (· walk_at "z"); (· walk_at "z"))
    | refine ⟨_, rfl, ?_⟩)
  | ((with_reducible refine fill_st ?_); refine ⟨_, rfl, ?_⟩; (try dsimp only))
  | ((with_reducible apply and_go rfl); (· (intro _; (repeat walk_at "s"); with_reducible exact ⟨rfl, rfl⟩)))
  | ((with_reducible refine is_chain ?_); (apply chain_go rfl); (· (intro _; (repeat walk_at "s"); exact ⟨rfl, rfl⟩)))
  | ((with_reducible refine draw_step (by assumption) ?_ ?_ (fun _ _ _ _ _ => ?_)); (· walk_at "z"); (· walk_at "z"))
  | ((with_reducible refine CLY.draw_step (by assumption) ?_ ?_ (fun _ _ _ _ _ => ?_)); (· walk_at "z"); (· walk_at "z"))
  | ((with_reducible refine is_evA ?_); refine ⟨_, rfl, ?_⟩)
  | ((with_reducible refine is_evL ?_); refine ⟨_, rfl, ?_⟩)
  | ((with_reducible refine is_evI ?_); refine ⟨_, rfl, ?_⟩)
  | ((with_reducible refine is_evR ?_); refine ⟨_, rfl, ?_⟩))
local macro_rules | `(tactic| walk_at "f") => `(tactic| first
  | with_reducible refine W_mV.mpr ?_
  | with_reducible refine W_mCons.mpr ?_
  | with_reducible refine W_m2.mpr ?_
  | with_reducible refine W_mC.mpr ?_
  | with_reducible refine W_mNil.mpr ?_
  | with_reducible refine W_mN.mpr ?_
  | with_reducible refine W_sSeq.mpr ?_
  | with_reducible refine W_sAsg.mpr ?_
  | with_reducible refine W_m1.mpr ?_
  | with_reducible refine W_mCallP.mpr ?_
  | with_reducible refine W_mCall.mpr ?_
  | with_reducible refine X_evI.mpr ?_
  | with_reducible refine X_evE.mpr ?_
  | with_reducible refine X_evN.mpr ?_
  | with_reducible refine X_if ?_
  | with_reducible refine W_sRet.mpr ?_
  | with_reducible refine W_sK.mpr ?_
  | with_reducible refine X_and ?_
  | with_reducible refine X_or ?_
  | with_reducible refine W_sPar.mpr ?_
  | with_reducible refine W_mSl.mpr ?_
  | with_reducible refine W_mPtN.mpr ?_
  | with_reducible refine W_mPtS.mpr ?_
  | with_reducible refine W_mIt.mpr ?_
  | with_reducible refine W_mItN.mpr ?_
  | with_reducible refine W_mComp.mpr ?_
  | ((with_reducible refine is_comp ?_); first | (apply X_compN; (· walk_at "o")) | ((with_reducible apply X_compY); (· walk_at "o"); (· rfl)))
  | with_reducible refine W_sFor.mpr ?_
  | ((with_reducible refine is_for ?_); refine W_forNil.mpr ?_)
  | with_reducible refine X_chain ?_
  | with_reducible refine W_sExp.mpr ?_
  | with_reducible refine W_mL.mpr ?_
  | with_reducible refine X_mif ?_
  | with_reducible refine W_mIxS.mpr ?_
  | with_reducible refine W_mYes.mpr ?_
  | with_reducible refine W_sPar3.mpr ?_
  | with_reducible refine W_mApp.mpr ?_
  | with_reducible refine W_mBor.mpr ?_
  | with_reducible refine CLX.W_sFz.mpr ?_)
local macro_rules | `(tactic| walk_at "s") => `(tactic| first
  | ((with_reducible refine is_W ?_); walk_at "f")
  | ((with_reducible refine is_ex ?_); first
    | ((with_reducible refine is_evS ?_); refine ⟨_, rfl, ?_⟩)
    | ((with_reducible apply call_st); (· with_reducible assumption))
    | walk_at "e")
  | ((with_reducible apply X_nx); (· walk_at "o"))
  | with_reducible refine Kq_ret.mpr ?_
  | with_reducible refine Kq_brk.mpr ?_
  | with_reducible refine Kq_cnt.mpr ?_
  | ((with_reducible apply X_fnx); (· walk_at "o"))
  | ((with_reducible apply X_fcnt); (· walk_at "o"))
  | with_reducible refine X_fbrk ?_
  | with_reducible refine X_fret ?_
  | ((with_reducible refine is_ltA ?_); refine ⟨?_, ?_⟩; (· first | decide | omega | (simp; omega) | (simp; done)))
  | with_reducible refine parW_mk.mpr ?_
  | with_reducible refine par3W_mk.mpr ?_)
local macro_rules | `(tactic| walk_at "r") => `(tactic| repeat walk_at "s")
local macro_rules | `(tactic| walk_at "u") => `(tactic| first | ((apply X_forC); (· walk_at "o"); (· rfl)) | ((apply X_compY); (· walk_at "o"); (· rfl)) | ((apply X_compC); (· walk_at "o"); (· rfl)))
local macro_rules | `(tactic| walk_at "g") => `(tactic| repeat first | walk_at "s" | (with_reducible refine go_ifF (rfl : _ = false) ?_) | (with_reducible refine go_ifT (rfl : _ = true) ?_) | (refine go_ifF (rfl : _ = false) ?_) | (refine go_ifT (rfl : _ = true) ?_) | walk_at "u")
/-- how, where, by what, whether once more -/
def Four (x : D) : Prop := ∃ a b c e : Int, x = .tup [.int a, .int b, .int c, .int e]
def SpI (n : Nat) (k : Nat) (ρ : Sl) : Prop := ∃ dk L o3, ρ = [some dk, some (.int n), some (.lst L), o3] ∧ Deck dk ∧ (∀ x ∈ L, Four x) ∧ L.length = k
theorem spoils_loop {n : Nat} {Q : Fl → Sl → Prop} : ∀ (xs : List D) (k : Nat) (ρ : Sl), SpI n k ρ → k + xs.length ≤ 1000 → (∀ ρ', SpI n (k + xs.length) ρ' → Q .nx ρ') → W (forL (pN 3) (sExp (mApp 2 (mN bTup (mCons (mCall drawF (.io 0 :: (.e (mC (.int 8)) :: []))) (mCons (mCall drawF (.io 0 :: (.e (mC (.int 100003)) :: []))) (mCons (mCall drawF (.io 0 :: (.e (mC (.int 99991)) :: []))) (mCons (mCall drawF (.io 0 :: (.e (mC (.int 3)) :: []))) mNil))))))) xs) ρ Q
  | [], k, ρ, h, _, q => W_forNil.mpr (q ρ h)
  | x :: xs, k, ρ, h, hk, q => by
    obtain ⟨dk, L, o3, rfl, hd, hL, hl⟩ := h
    simp only [List.length_cons] at hk
    refine W_forCons.mpr ⟨_, rfl, ?_⟩
    walk_at "r"
    refine ⟨by omega, ?_⟩
    refine .inl ⟨.inl rfl, ?_⟩
    rename_i h4
    refine spoils_loop xs (k + 1) _ ⟨_, _, _, rfl, h4, ?_, by simp [hl]⟩ (by omega) fun ρ' h' => q ρ' (by rw [List.length_cons, show k + (xs.length + 1) = k + 1 + xs.length by omega]; exact h')
    intro z hz
    rcases List.mem_append.mp hz with hz | hz
    · exact hL z hz
    · rw [List.mem_singleton.mp hz]; exact ⟨_, _, _, _, rfl⟩
theorem spoils_step {dk : D} {n : Nat} {Q : D → List D → Prop} (hd : Deck dk) (hn : n ≤ 1000) (k : ∀ L dk', (∀ x ∈ L, Four x) → L.length = n → Deck dk' → Q (.lst L) [dk', .int n]) : ∃ r out, spoils2F [dk, .int n] = .ok (r, out) ∧ Q r out := by
  refine runF_ex ?_
  unfold spoils2B
  walk_at "r"
  have hr : range1 [.int n] = some (rangeL 0 n) := by simp [range1]; omega
  refine ⟨_, hr, ?_⟩
  have hlen : (rangeL 0 (n : Int)).length = n := by simp [rangeL]
  refine spoils_loop (n := n) _ 0 _ ⟨_, _, _, rfl, hd, by simp, rfl⟩ (by omega) fun ρ' h => ?_
  rw [hlen] at h
  obtain ⟨dk', L, o3, rfl, hd', hL, hl⟩ := h
  walk_at "r"
  exact ⟨_, _, rfl, rfl, k L dk' hL (by omega) hd'⟩
end CL

namespace LW
open PySem PySem.Spec L2 CL
def topS (i : Nat) : Stmt := PySem.Challenge.pw_cornerlines_k19_papers_of_cells_spoilt.main.body.getD i (.Pass ⟨0, 0, 0, 0⟩)
section
variable {P : Program} {w : World} {K : PySem.W.Frag} {mg : Str → Option Value} {base : Heap}
abbrev s_Bound_init : Stmt := inClass (topS 8) 0
theorem sc_Bound_init : FnScope ["self", "n", "d", "is_out"] ["self", "n", "d", "is_out"] (defScope s_Bound_init) := ⟨rfl, rfl, rfl, by decide +kernel, rfl, by decide +kernel, by decide +kernel⟩
theorem mkc_Bound (t : TxI K mg "Bound" "Bound.__init__" ["n", "d", "is_out"] s_Bound_init ["self", "n", "d", "is_out"]) : MkT P w K mg base 1 "Bound" ["n", "d", "is_out"] := by
  obtain ⟨C, f, fd, tc, Fu, mk, bd⟩ := t
  refine ⟨C, f, fd, _, tc.at_, tc.mgC, tc.cl, tc.na, mk, Fu.ok sc_Bound_init (fun vs H Q E h => ?_) (fun cdv A outer s H vs Q E hr h => ?_), bd⟩
  · obtain ⟨p, dx, ws, rfl, hl, _⟩ := h
    simpa using hl
  · obtain ⟨p, dx, ws, rfl, hl, hp, k⟩ := h
    match ws, hl, k with
    | [w1, w2, w3], _, k =>
    refine ⟨_, pss_cons (ps_fld (pv 0) (pv 1) rfl) (pss_cons (ps_fld (pv 0) (pv 2) rfl) (pss_one (ps_fld (pv 0) (pv 3) rfl))), ?_⟩
    refine ⟨w1, rfl, _, rfl, p, C, dx, _, rfl, hp, tc.cl, tc.na "n" (by simp), (by decide), w2, rfl, _, rfl, p, C, dx, _, rfl, upd_same, tc.cl, tc.na "d" (by simp), (Nat.lt_of_lt_of_le (putF_lt (show ([] : List (Str × V)).length < 998 by decide) (show 998 < 999 by decide)) (by decide)), w3, rfl, _, rfl, p, C, dx, _, rfl, upd_same, tc.cl, tc.na "is_out" (by simp), (Nat.lt_of_lt_of_le (putF_lt (putF_lt (show ([] : List (Str × V)).length < 998 by decide) (show 998 < 999 by decide)) (show 999 < 1000 by decide)) (by decide)), ?_⟩
    refine k _ ?_ fun b hb => by simp only [upd_ne hb]
    rw [upd_same]
    have e1 : putF "n" w1 ([] : List (Str × V)) = [(("n" : Str), w1)] := putF_new fun q hq => by simp at hq
    have e2 : putF "d" w2 ([(("n" : Str), w1)] : List (Str × V)) = [(("n" : Str), w1), (("d" : Str), w2)] := putF_new fun q hq => by simp at hq; rcases hq with rfl <;> (dsimp only; decide +kernel)
    have e3 : putF "is_out" w3 ([(("n" : Str), w1), (("d" : Str), w2)] : List (Str × V)) = [(("n" : Str), w1), (("d" : Str), w2), (("is_out" : Str), w3)] := putF_new fun q hq => by simp at hq; rcases hq with rfl | rfl <;> (dsimp only; decide +kernel)
    rw [e1, e2, e3]
    rfl
abbrev s_is_whole : Stmt := topS 1
theorem sc_is_whole : FnScope ["thing"] ["thing"] (defScope s_is_whole) := ⟨rfl, rfl, rfl, by decide +kernel, rfl, by decide +kernel, by decide +kernel⟩
def B_is_whole : MS := (sRet (mAnd (m1 (bIsi "int") (mV 0)) (m1 bNot (m1 (bIsi "bool") (mV 0)))))
def F_is_whole : List D → Res D := runP 0 B_is_whole
theorem ok_is_whole (t : TxF K mg "is_whole" s_is_whole ["thing"]) (hm_bool : mg "bool" = none) (hm_int : mg "int" = none) (hm_isinstance : mg "isinstance" = none) : CalP P w K mg base 1 "is_whole" 1 (.sh) F_is_whole := by
  obtain ⟨f, fd, Fu, bd, hm⟩ := t
  refine ⟨f, fd, _, ok_p (n := 1) (nl := 0) (F := ⟨fun i => .sh, fun i => false, .sh⟩) (b := B_is_whole) Fu sc_is_whole (sh_ok _ _ (by decide)) rfl rfl (.inl rfl) ?_, Fu.kp, bd, hm⟩
  intro cdv A outer s H E hr hg
  exact (ss_one (s_ret (e_and (e_isi_int (e_v 0) hm_isinstance hm_int) (e_one (e_not (e_isi_bool (e_v 0) hm_isinstance hm_bool))))))
abbrev s_is_share : Stmt := topS 3
theorem sc_is_share : FnScope ["k", "m"] ["k", "m"] (defScope s_is_share) := ⟨rfl, rfl, rfl, by decide +kernel, rfl, by decide +kernel, by decide +kernel⟩
def B_is_share : MS := (sRet (mAnd (mCallP F_is_whole (mCons (mV 0) mNil)) (mAnd (mCallP F_is_whole (mCons (mV 1) mNil)) (mAnd (m2 bGe (mV 1) (mC (.int 1))) (mChain bLe bLe (mC (.int 0)) (mV 0) (mV 1))))))
def F_is_share : List D → Res D := runP 0 B_is_share
theorem ok_is_share (t : TxF K mg "is_share" s_is_share ["k", "m"]) (h_is_whole : CalP P w K mg base 1 "is_whole" 1 (.sh) F_is_whole) : CalP P w K mg base 2 "is_share" 2 (.sh) F_is_share := by
  obtain ⟨f, fd, Fu, bd, hm⟩ := t
  refine ⟨f, fd, _, ok_p (n := 2) (nl := 0) (F := ⟨fun i => .sh, fun i => false, .sh⟩) (b := B_is_share) Fu sc_is_share (sh_ok _ _ (by decide)) rfl rfl (.inl rfl) ?_, Fu.kp, bd, hm⟩
  intro cdv A outer s H E hr hg
  exact (ss_one (s_ret (e_and (e_c h_is_whole hr hg (as_cons (e_v 0) as_nil) (len_cons len_nil)) (e_and (e_c h_is_whole hr hg (as_cons (e_v 1) as_nil) (len_cons len_nil)) (e_and (e_cmp o_ge (e_v 1) e_int) (e_one (e_chain o_le o_le e_int (e_v 0) (e_v 1))))))))
abbrev s_is_met_at : Stmt := topS 4
theorem sc_is_met_at : FnScope ["grain", "line", "corner", "k", "m", "a", "b", "number", "twice"] ["grain", "line", "corner", "k", "m"] (defScope s_is_met_at) := ⟨rfl, rfl, rfl, by decide +kernel, rfl, by decide +kernel, by decide +kernel⟩
def B_is_met_at : MS := (sSeq (sFor (pT 3 (psC (pN 5) (psC (pN 6) (psC (pN 7) psN)))) (mItN zip3 (mCons (m2 bIx (mV 1) (mC (.int 0))) (mCons (m2 bIx (mV 1) (mC (.int 1))) (mCons (mV 2) mNil)))) (sSeq (sAsg (pN 8) (m2 bMul (mC (.int 2)) (m2 bAdd (m2 bMul (mV 5) (m2 bSub (mV 4) (mV 3))) (m2 bMul (mV 6) (mV 3))))) (sIf (m1 bNot (mChain bLe bLt (m2 bMul (m2 bMul (m2 bSub (m2 bMul (mC (.int 2)) (mV 7)) (mC (.int 1))) (mV 0)) (mV 4)) (mV 8) (m2 bMul (m2 bMul (m2 bAdd (m2 bMul (mC (.int 2)) (mV 7)) (mC (.int 1))) (mV 0)) (mV 4)))) (sRet (mC (.bl false))) (sK .nx)))) (sRet (mC (.bl true))))
def F_is_met_at : List D → Res D := runP 4 B_is_met_at
theorem ok_is_met_at (t : TxF K mg "is_met_at" s_is_met_at ["grain", "line", "corner", "k", "m"]) (hm_zip : mg "zip" = none) : CalP P w K mg base 1 "is_met_at" 5 (.sh) F_is_met_at := by
  obtain ⟨f, fd, Fu, bd, hm⟩ := t
  refine ⟨f, fd, _, ok_p (n := 5) (nl := 4) (F := ⟨fun i => .sh, fun i => false, .sh⟩) (b := B_is_met_at) Fu sc_is_met_at (sh_ok _ _ (by decide)) rfl rfl (.inl rfl) ?_, Fu.kp, bd, hm⟩
  intro cdv A outer s H E hr hg
  exact (ss_cons (s_for (i_zip3 (as_cons (e_ix x_ix (e_v 1) e_int) (as_cons (e_ix x_ix (e_v 1) e_int) (as_cons (e_v 2) as_nil))) (hm := hm_zip)) (g_t (gs_cons (g_n 5 sc_is_met_at.nd) (gs_cons (g_n 6 sc_is_met_at.nd) (gs_cons (g_n 7 sc_is_met_at.nd) gs_nil))))
    (ss_cons (s_set 8 sc_is_met_at.nd (e_2 o_mul e_int (e_2 o_add (e_2 o_mul (e_v 5) (e_2 o_sub (e_v 4) (e_v 3))) (e_2 o_mul (e_v 6) (e_v 3)))))
    (ss_one (s_if (t_not (t_chain o_le o_lt (e_2 o_mul (e_2 o_mul (e_2 o_sub (e_2 o_mul e_int (e_v 7)) e_int) (e_v 0)) (e_v 4)) (e_v 8) (e_2 o_mul (e_2 o_mul (e_2 o_add (e_2 o_mul e_int (e_v 7)) e_int) (e_v 0)) (e_v 4))))
    (ss_one (s_ret e_bl))
    ss_nil))))
    (ss_one (s_ret e_bl)))
abbrev s_is_missed_by : Stmt := topS 5
theorem sc_is_missed_by : FnScope ["grain", "line", "corner", "p", "q", "r", "i", "j", "rights", "ups", "greatest", "x", "y"] ["grain", "line", "corner", "p", "q", "r"] (defScope s_is_missed_by) := ⟨rfl, rfl, rfl, by decide +kernel, rfl, by decide +kernel, by decide +kernel⟩
def B_is_missed_by : MS := (sSeq (sIf (m1 bNot (mN bAll (mCons (mComp [11, 12] (pT 2 (psC (pN 11) (psC (pN 12) psN))) (mIt (mV 1)) mYes (m2 bGe (m2 bMul (mC (.int 2)) (m2 bAdd (m2 bMul (mV 3) (mV 11)) (m2 bMul (mV 4) (mV 12)))) (mV 5))) mNil))) (sRet (mC (.bl false))) (sK .nx)) (sSeq (sAsg (pT 2 (psC (pN 6) (psC (pN 7) psN))) (mV 2)) (sSeq (sAsg (pN 8) (mN bLst (mCons (m2 bMul (m2 bMul (mV 3) (m2 bSub (m2 bMul (mC (.int 2)) (mV 6)) (mC (.int 1)))) (mV 0)) (mCons (m2 bMul (m2 bMul (mV 3) (m2 bAdd (m2 bMul (mC (.int 2)) (mV 6)) (mC (.int 1)))) (mV 0)) mNil)))) (sSeq (sAsg (pN 9) (mN bLst (mCons (m2 bMul (m2 bMul (mV 4) (m2 bSub (m2 bMul (mC (.int 2)) (mV 7)) (mC (.int 1)))) (mV 0)) (mCons (m2 bMul (m2 bMul (mV 4) (m2 bAdd (m2 bMul (mC (.int 2)) (mV 7)) (mC (.int 1)))) (mV 0)) mNil)))) (sSeq (sAsg (pN 10) (m2 bAdd (mN bMax1 (mCons (mV 8) mNil)) (mN bMax1 (mCons (mV 9) mNil)))) (sRet (mOr (m2 bLt (mV 10) (mV 5)) (mAnd (m2 bEq (mV 10) (mV 5)) (mOr (m2 bGt (mV 3) (mC (.int 0))) (m2 bGt (mV 4) (mC (.int 0))))))))))))
def F_is_missed_by : List D → Res D := runP 7 B_is_missed_by
theorem ok_is_missed_by (t : TxF K mg "is_missed_by" s_is_missed_by ["grain", "line", "corner", "p", "q", "r"]) (hm_all : mg "all" = none) (hm_max : mg "max" = none) : CalP P w K mg base 1 "is_missed_by" 6 (.sh) F_is_missed_by := by
  obtain ⟨f, fd, Fu, bd, hm⟩ := t
  refine ⟨f, fd, _, ok_p (n := 6) (nl := 7) (F := ⟨fun i => .sh, fun i => false, .sh⟩) (b := B_is_missed_by) Fu sc_is_missed_by (sh_ok _ _ (by decide)) rfl rfl (.inl rfl) ?_, Fu.kp, bd, hm⟩
  intro cdv A outer s H E hr hg
  exact (ss_cons (s_if (t_not (t_val (e_callB (c_all rfl) (a_cons (e_sh (e_lcO (own' := [("x", 11), ("y", 12)]) (vs := [11, 12]) sc_is_missed_by.nd (blkOk_by (by kernel_rfl)) (i_any (e_v 1)) (fun _ _ _ _ _ => (g_t (gs_cons (g_n 11 sc_is_missed_by.nd) (gs_cons (g_n 12 sc_is_missed_by.nd) gs_nil)))) (fun _ _ _ _ _ => ts_nil) (fun _ _ _ _ _ => (e_cmp o_ge (e_2 o_mul e_int (e_2 o_add (e_2 o_mul (e_v 3) (e_v 11)) (e_2 o_mul (e_v 4) (e_v 12)))) (e_v 5))))) a_nil) (hm := hm_all))))
    (ss_one (s_ret e_bl))
    ss_nil)
    (ss_cons (s_asg (e_v 2) (g_t (gs_cons (g_n 6 sc_is_missed_by.nd) (gs_cons (g_n 7 sc_is_missed_by.nd) gs_nil))))
    (ss_cons (s_set 8 sc_is_missed_by.nd (e_sh (e_lstO (as_cons (e_2 o_mul (e_2 o_mul (e_v 3) (e_2 o_sub (e_2 o_mul e_int (e_v 6)) e_int)) (e_v 0)) (as_cons (e_2 o_mul (e_2 o_mul (e_v 3) (e_2 o_add (e_2 o_mul e_int (e_v 6)) e_int)) (e_v 0)) as_nil)))))
    (ss_cons (s_set 9 sc_is_missed_by.nd (e_sh (e_lstO (as_cons (e_2 o_mul (e_2 o_mul (e_v 4) (e_2 o_sub (e_2 o_mul e_int (e_v 7)) e_int)) (e_v 0)) (as_cons (e_2 o_mul (e_2 o_mul (e_v 4) (e_2 o_add (e_2 o_mul e_int (e_v 7)) e_int)) (e_v 0)) as_nil)))))
    (ss_cons (s_set 10 sc_is_missed_by.nd (e_2 o_add (e_callB (c_max1 rfl) (a_cons (e_v 8) a_nil) (hm := hm_max)) (e_callB (c_max1 rfl) (a_cons (e_v 9) a_nil) (hm := hm_max))))
    (ss_one (s_ret (e_or (e_cmp o_lt (e_v 10) (e_v 5)) (e_one (e_and (e_cmp (o_eq hr.units) (e_v 10) (e_v 5)) (e_one (e_or (e_cmp o_gt (e_v 3) e_int) (e_one (e_cmp o_gt (e_v 4) e_int))))))))))))))
abbrev s_meets_holds : Stmt := topS 6
theorem sc_meets_holds : FnScope ["grain", "line", "corner", "thing", "word", "p", "q", "r", "one"] ["grain", "line", "corner", "thing"] (defScope s_meets_holds) := ⟨rfl, rfl, rfl, by decide +kernel, rfl, by decide +kernel, by decide +kernel⟩
def B_meets_holds : MS := (sSeq (sIf (mOr (m1 bNot (m1 (bIsi "tuple") (mV 3))) (mOr (m2 bEq (mV 3) (mN bTup mNil)) (m1 bNot (m1 (bIsi "str") (m2 bIx (mV 3) (mC (.int 0))))))) (sRet (mC (.bl false))) (sK .nx)) (sSeq (sIf (mAnd (m2 bEq (m2 bIx (mV 3) (mC (.int 0))) (mC (.str "meets"))) (m2 bEq (mN bLen (mCons (mV 3) mNil)) (mC (.int 3)))) (sRet (mAnd (mCallP F_is_share (mCons (m2 bIx (mV 3) (mC (.int 1))) (mCons (m2 bIx (mV 3) (mC (.int 2))) mNil))) (mCallP F_is_met_at (mCons (mV 0) (mCons (mV 1) (mCons (mV 2) (mCons (m2 bIx (mV 3) (mC (.int 1))) (mCons (m2 bIx (mV 3) (mC (.int 2))) mNil)))))))) (sK .nx)) (sSeq (sIf (mOr (m2 bNe (m2 bIx (mV 3) (mC (.int 0))) (mC (.str "misses"))) (mOr (m2 bNe (mN bLen (mCons (mV 3) mNil)) (mC (.int 4))) (m1 bNot (mN bAll (mCons (mComp [8] (pN 8) (mIt (mSl (mV 3) (some (mC (.int 1))) none)) mYes (mCallP F_is_whole (mCons (mV 8) mNil))) mNil))))) (sRet (mC (.bl false))) (sK .nx)) (sSeq (sAsg (pT 4 (psC (pN 4) (psC (pN 5) (psC (pN 6) (psC (pN 7) psN))))) (mV 3)) (sRet (mAnd (m2 bNe (mN bTup (mCons (mV 5) (mCons (mV 6) mNil))) (mN bTup (mCons (mC (.int 0)) (mCons (mC (.int 0)) mNil)))) (mCallP F_is_missed_by (mCons (mV 0) (mCons (mV 1) (mCons (mV 2) (mCons (mV 5) (mCons (mV 6) (mCons (mV 7) mNil)))))))))))))
def F_meets_holds : List D → Res D := runP 5 B_meets_holds
theorem ok_meets_holds (t : TxF K mg "meets_holds" s_meets_holds ["grain", "line", "corner", "thing"]) (h_is_missed_by : CalP P w K mg base 1 "is_missed_by" 6 (.sh) F_is_missed_by) (h_is_share : CalP P w K mg base 2 "is_share" 2 (.sh) F_is_share) (h_is_met_at : CalP P w K mg base 1 "is_met_at" 5 (.sh) F_is_met_at) (h_is_whole : CalP P w K mg base 1 "is_whole" 1 (.sh) F_is_whole) (hm_all : mg "all" = none) (hm_isinstance : mg "isinstance" = none) (hm_len : mg "len" = none) (hm_str : mg "str" = none) (hm_tuple : mg "tuple" = none) : CalP P w K mg base 3 "meets_holds" 4 (.sh) F_meets_holds := by
  obtain ⟨f, fd, Fu, bd, hm⟩ := t
  refine ⟨f, fd, _, ok_p (n := 4) (nl := 5) (F := ⟨fun i => .sh, fun i => false, .sh⟩) (b := B_meets_holds) Fu sc_meets_holds (sh_ok _ _ (by decide)) rfl rfl (.inl rfl) ?_, Fu.kp, bd, hm⟩
  intro cdv A outer s H E hr hg
  exact (ss_cons (s_if (w_or (t_not (t_val (e_isi_tuple (e_v 3) hm_isinstance hm_tuple))) (w_or (t_cmp (o_eq hr.units) (e_v 3) (e_tup as_nil)) (w_or1 (t_not (t_val (e_isi_str (e_ix x_ix (e_v 3) e_int) hm_isinstance hm_str)))))).pt
    (ss_one (s_ret e_bl))
    ss_nil)
    (ss_cons (s_if (w_and (t_cmp (o_eq hr.units) (e_ix x_ix (e_v 3) e_int) e_str) (w_and1 (t_cmp (o_eq hr.units) (e_callB c_len (a_cons (e_v 3) a_nil) (hm := hm_len)) e_int))).pt
    (ss_one (s_ret (e_and (e_c h_is_share hr hg (as_cons (e_ix x_ix (e_v 3) e_int) (as_cons (e_ix x_ix (e_v 3) e_int) as_nil)) (len_cons (len_cons len_nil))) (e_one (e_c h_is_met_at hr hg (as_cons (e_v 0) (as_cons (e_v 1) (as_cons (e_v 2) (as_cons (e_ix x_ix (e_v 3) e_int) (as_cons (e_ix x_ix (e_v 3) e_int) as_nil))))) (len_cons (len_cons (len_cons (len_cons (len_cons len_nil))))))))))
    ss_nil)
    (ss_cons (s_if (w_or (t_cmp (o_ne hr.units) (e_ix x_ix (e_v 3) e_int) e_str) (w_or (t_cmp (o_ne hr.units) (e_callB c_len (a_cons (e_v 3) a_nil) (hm := hm_len)) e_int) (w_or1 (t_not (t_val (e_callB (c_all rfl) (a_cons (e_sh (e_lcO (own' := [("one", 8)]) (vs := [8]) sc_meets_holds.nd (blkOk_by (by kernel_rfl)) (i_any (e_sl (e_v 3) (po_s e_int) po_n)) (fun _ _ _ _ _ => (g_n 8 sc_meets_holds.nd)) (fun _ _ _ _ _ => ts_nil) (fun _ _ _ _ _ => (e_c h_is_whole hr hg (as_cons (e_v 8) as_nil) (len_cons len_nil))))) a_nil) (hm := hm_all))))))).pt
    (ss_one (s_ret e_bl))
    ss_nil)
    (ss_cons (s_asg (e_v 3) (g_t (gs_cons (g_n 4 sc_meets_holds.nd) (gs_cons (g_n 5 sc_meets_holds.nd) (gs_cons (g_n 6 sc_meets_holds.nd) (gs_cons (g_n 7 sc_meets_holds.nd) gs_nil))))))
    (ss_one (s_ret (e_and (e_cmp (o_ne hr.units) (e_tup (as_cons (e_v 5) (as_cons (e_v 6) as_nil))) (e_tup (as_cons e_int (as_cons e_int as_nil)))) (e_one (e_c h_is_missed_by hr hg (as_cons (e_v 0) (as_cons (e_v 1) (as_cons (e_v 2) (as_cons (e_v 5) (as_cons (e_v 6) (as_cons (e_v 7) as_nil)))))) (len_cons (len_cons (len_cons (len_cons (len_cons (len_cons len_nil)))))))))))))))
abbrev s_Bound_is_ahead_of : Stmt := inClass (topS 8) 1
theorem sc_Bound_is_ahead_of : FnScope ["self", "other"] ["self", "other"] (defScope s_Bound_is_ahead_of) := ⟨rfl, rfl, rfl, by decide +kernel, rfl, by decide +kernel, by decide +kernel⟩
def B_Bound_is_ahead_of : MS := (sRet (m2 bLt (m2 bMul (m1 (bFld "n") (mV 0)) (m1 (bFld "d") (mV 1))) (m2 bMul (m1 (bFld "n") (mV 1)) (m1 (bFld "d") (mV 0)))))
def F_Bound_is_ahead_of : List D → Res D := runP 0 B_Bound_is_ahead_of
theorem ok_Bound_is_ahead_of (t : TxM K mg "Bound" "is_ahead_of" "Bound.is_ahead_of" ["n", "d", "is_out"] s_Bound_is_ahead_of ["self", "other"]) : CalM P w K mg base 1 "Bound" "is_ahead_of" 2 (.sh) F_Bound_is_ahead_of := by
  obtain ⟨C, f, fd, tc, Fu, me, bd⟩ := t
  refine ⟨C, f, fd, _, tc.at_, tc.cl, ok_p (n := 2) (nl := 0) (F := ⟨fun i => .sh, fun i => false, .sh⟩) (b := B_Bound_is_ahead_of) Fu sc_Bound_is_ahead_of (sh_ok _ _ (by decide)) rfl rfl (.inl rfl) ?_, me, bd⟩
  intro cdv A outer s H E hr hg
  exact (ss_one (s_ret (e_cmp o_lt (e_2 o_mul (e_fld (e_v 0)) (e_fld (e_v 1))) (e_2 o_mul (e_fld (e_v 1)) (e_fld (e_v 0))))))
abbrev s_Bound_is_at : Stmt := inClass (topS 8) 2
theorem sc_Bound_is_at : FnScope ["self", "other"] ["self", "other"] (defScope s_Bound_is_at) := ⟨rfl, rfl, rfl, by decide +kernel, rfl, by decide +kernel, by decide +kernel⟩
def B_Bound_is_at : MS := (sRet (m2 bEq (m2 bMul (m1 (bFld "n") (mV 0)) (m1 (bFld "d") (mV 1))) (m2 bMul (m1 (bFld "n") (mV 1)) (m1 (bFld "d") (mV 0)))))
def F_Bound_is_at : List D → Res D := runP 0 B_Bound_is_at
theorem ok_Bound_is_at (t : TxM K mg "Bound" "is_at" "Bound.is_at" ["n", "d", "is_out"] s_Bound_is_at ["self", "other"]) : CalM P w K mg base 1 "Bound" "is_at" 2 (.sh) F_Bound_is_at := by
  obtain ⟨C, f, fd, tc, Fu, me, bd⟩ := t
  refine ⟨C, f, fd, _, tc.at_, tc.cl, ok_p (n := 2) (nl := 0) (F := ⟨fun i => .sh, fun i => false, .sh⟩) (b := B_Bound_is_at) Fu sc_Bound_is_at (sh_ok _ _ (by decide)) rfl rfl (.inl rfl) ?_, me, bd⟩
  intro cdv A outer s H E hr hg
  exact (ss_one (s_ret (e_cmp (o_eq hr.units) (e_2 o_mul (e_fld (e_v 0)) (e_fld (e_v 1))) (e_2 o_mul (e_fld (e_v 1)) (e_fld (e_v 0))))))
abbrev s_later : Stmt := topS 9
theorem sc_later : FnScope ["one", "other"] ["one", "other"] (defScope s_later) := ⟨rfl, rfl, rfl, by decide +kernel, rfl, by decide +kernel, by decide +kernel⟩
def B_later : MS := (sSeq (sIf (mOr (mCallP F_Bound_is_ahead_of (mCons (m1 (bRcv "Bound" "is_ahead_of") (mV 0)) (mCons (mV 1) mNil))) (mAnd (mCallP F_Bound_is_at (mCons (m1 (bRcv "Bound" "is_at") (mV 0)) (mCons (mV 1) mNil))) (m1 (bFld "is_out") (mV 1)))) (sRet (mV 1)) (sK .nx)) (sRet (mV 0)))
def F_later : List D → Res D := runP 0 B_later
theorem ok_later (t : TxF K mg "later" s_later ["one", "other"]) (h_Bound_is_ahead_of : CalM P w K mg base 1 "Bound" "is_ahead_of" 2 (.sh) F_Bound_is_ahead_of) (h_Bound_is_at : CalM P w K mg base 1 "Bound" "is_at" 2 (.sh) F_Bound_is_at) : CalP P w K mg base 2 "later" 2 (.sh) F_later := by
  obtain ⟨f, fd, Fu, bd, hm⟩ := t
  refine ⟨f, fd, _, ok_p (n := 2) (nl := 0) (F := ⟨fun i => .sh, fun i => false, .sh⟩) (b := B_later) Fu sc_later (sh_ok _ _ (by decide)) rfl rfl (.inl rfl) ?_, Fu.kp, bd, hm⟩
  intro cdv A outer s H E hr hg
  exact (ss_cons (s_if (w_or (t_val (e_m h_Bound_is_ahead_of hr hg (e_v 0) (as_cons (e_v 1) as_nil) (len_cons len_nil))) (w_or1 (w_and (t_val (e_m h_Bound_is_at hr hg (e_v 0) (as_cons (e_v 1) as_nil) (len_cons len_nil))) (w_and1 (t_val (e_fld (e_v 1))))).pt)).pt
    (ss_one (s_ret (e_v 1)))
    ss_nil)
    (ss_one (s_ret (e_v 0))))
abbrev s_sooner : Stmt := topS 10
theorem sc_sooner : FnScope ["one", "other"] ["one", "other"] (defScope s_sooner) := ⟨rfl, rfl, rfl, by decide +kernel, rfl, by decide +kernel, by decide +kernel⟩
def B_sooner : MS := (sSeq (sIf (mOr (mCallP F_Bound_is_ahead_of (mCons (m1 (bRcv "Bound" "is_ahead_of") (mV 1)) (mCons (mV 0) mNil))) (mAnd (mCallP F_Bound_is_at (mCons (m1 (bRcv "Bound" "is_at") (mV 0)) (mCons (mV 1) mNil))) (m1 (bFld "is_out") (mV 1)))) (sRet (mV 1)) (sK .nx)) (sRet (mV 0)))
def F_sooner : List D → Res D := runP 0 B_sooner
theorem ok_sooner (t : TxF K mg "sooner" s_sooner ["one", "other"]) (h_Bound_is_ahead_of : CalM P w K mg base 1 "Bound" "is_ahead_of" 2 (.sh) F_Bound_is_ahead_of) (h_Bound_is_at : CalM P w K mg base 1 "Bound" "is_at" 2 (.sh) F_Bound_is_at) : CalP P w K mg base 2 "sooner" 2 (.sh) F_sooner := by
  obtain ⟨f, fd, Fu, bd, hm⟩ := t
  refine ⟨f, fd, _, ok_p (n := 2) (nl := 0) (F := ⟨fun i => .sh, fun i => false, .sh⟩) (b := B_sooner) Fu sc_sooner (sh_ok _ _ (by decide)) rfl rfl (.inl rfl) ?_, Fu.kp, bd, hm⟩
  intro cdv A outer s H E hr hg
  exact (ss_cons (s_if (w_or (t_val (e_m h_Bound_is_ahead_of hr hg (e_v 1) (as_cons (e_v 0) as_nil) (len_cons len_nil))) (w_or1 (w_and (t_val (e_m h_Bound_is_at hr hg (e_v 0) (as_cons (e_v 1) as_nil) (len_cons len_nil))) (w_and1 (t_val (e_fld (e_v 1))))).pt)).pt
    (ss_one (s_ret (e_v 1)))
    ss_nil)
    (ss_one (s_ret (e_v 0))))
abbrev s_rims_of : Stmt := topS 11
theorem sc_rims_of : FnScope ["grain", "number"] ["grain", "number"] (defScope s_rims_of) := ⟨rfl, rfl, rfl, by decide +kernel, rfl, by decide +kernel, by decide +kernel⟩
def B_rims_of : MS := (sRet (mN bTup (mCons (m2 bMul (m2 bSub (m2 bMul (mC (.int 2)) (mV 1)) (mC (.int 1))) (mV 0)) (mCons (m2 bMul (m2 bAdd (m2 bMul (mC (.int 2)) (mV 1)) (mC (.int 1))) (mV 0)) mNil))))
def F_rims_of : List D → Res D := runP 0 B_rims_of
theorem ok_rims_of (t : TxF K mg "rims_of" s_rims_of ["grain", "number"]) : CalP P w K mg base 1 "rims_of" 2 (.sh) F_rims_of := by
  obtain ⟨f, fd, Fu, bd, hm⟩ := t
  refine ⟨f, fd, _, ok_p (n := 2) (nl := 0) (F := ⟨fun i => .sh, fun i => false, .sh⟩) (b := B_rims_of) Fu sc_rims_of (sh_ok _ _ (by decide)) rfl rfl (.inl rfl) ?_, Fu.kp, bd, hm⟩
  intro cdv A outer s H E hr hg
  exact (ss_one (s_ret (e_tup (as_cons (e_2 o_mul (e_2 o_sub (e_2 o_mul e_int (e_v 1)) e_int) (e_v 0)) (as_cons (e_2 o_mul (e_2 o_add (e_2 o_mul e_int (e_v 1)) e_int) (e_v 0)) as_nil)))))
abbrev s_bounds_between : Stmt := topS 12
theorem sc_bounds_between : FnScope ["first", "way", "low", "high"] ["first", "way", "low", "high"] (defScope s_bounds_between) := ⟨rfl, rfl, rfl, by decide +kernel, rfl, by decide +kernel, by decide +kernel⟩
def B_bounds_between : MS := (sSeq (sIf (m2 bEq (mV 1) (mC (.int 0))) (sSeq (sIf (mChain bLe bLt (mV 2) (mV 0) (mV 3)) (sRet (mN bTup (mCons (mN (bMake "Bound" ["n", "d", "is_out"]) (mCons (mC (.int 0)) (mCons (mC (.int 1)) (mCons (mC (.bl false)) mNil)))) (mCons (mN (bMake "Bound" ["n", "d", "is_out"]) (mCons (mC (.int 1)) (mCons (mC (.int 1)) (mCons (mC (.bl false)) mNil)))) mNil)))) (sK .nx)) (sRet (mC .non))) (sK .nx)) (sSeq (sIf (m2 bGt (mV 1) (mC (.int 0))) (sRet (mN bTup (mCons (mN (bMake "Bound" ["n", "d", "is_out"]) (mCons (m2 bSub (mV 2) (mV 0)) (mCons (mV 1) (mCons (mC (.bl false)) mNil)))) (mCons (mN (bMake "Bound" ["n", "d", "is_out"]) (mCons (m2 bSub (mV 3) (mV 0)) (mCons (mV 1) (mCons (mC (.bl true)) mNil)))) mNil)))) (sK .nx)) (sRet (mN bTup (mCons (mN (bMake "Bound" ["n", "d", "is_out"]) (mCons (m2 bSub (mV 0) (mV 3)) (mCons (m2 bSub (mC (.int 0)) (mV 1)) (mCons (mC (.bl true)) mNil)))) (mCons (mN (bMake "Bound" ["n", "d", "is_out"]) (mCons (m2 bSub (mV 0) (mV 2)) (mCons (m2 bSub (mC (.int 0)) (mV 1)) (mCons (mC (.bl false)) mNil)))) mNil))))))
def F_bounds_between : List D → Res D := runP 0 B_bounds_between
theorem ok_bounds_between (t : TxF K mg "bounds_between" s_bounds_between ["first", "way", "low", "high"]) (k_Bound : MkT P w K mg base 1 "Bound" ["n", "d", "is_out"]) : CalP P w K mg base 3 "bounds_between" 4 (.sh) F_bounds_between := by
  obtain ⟨f, fd, Fu, bd, hm⟩ := t
  refine ⟨f, fd, _, ok_p (n := 4) (nl := 0) (F := ⟨fun i => .sh, fun i => false, .sh⟩) (b := B_bounds_between) Fu sc_bounds_between (sh_ok _ _ (by decide)) rfl rfl (.inl rfl) ?_, Fu.kp, bd, hm⟩
  intro cdv A outer s H E hr hg
  exact (ss_cons (s_if (t_cmp (o_eq hr.units) (e_v 1) e_int)
    (ss_cons (s_if (t_chain o_le o_lt (e_v 2) (e_v 0) (e_v 3))
    (ss_one (s_ret (e_tup (as_cons (e_make k_Bound hr (as_cons e_int (as_cons e_int (as_cons e_bl as_nil)))) (as_cons (e_make k_Bound hr (as_cons e_int (as_cons e_int (as_cons e_bl as_nil)))) as_nil)))))
    ss_nil)
    (ss_one (s_ret e_non)))
    ss_nil)
    (ss_cons (s_if (t_cmp o_gt (e_v 1) e_int)
    (ss_one (s_ret (e_tup (as_cons (e_make k_Bound hr (as_cons (e_2 o_sub (e_v 2) (e_v 0)) (as_cons (e_v 1) (as_cons e_bl as_nil)))) (as_cons (e_make k_Bound hr (as_cons (e_2 o_sub (e_v 3) (e_v 0)) (as_cons (e_v 1) (as_cons e_bl as_nil)))) as_nil)))))
    ss_nil)
    (ss_one (s_ret (e_tup (as_cons (e_make k_Bound hr (as_cons (e_2 o_sub (e_v 0) (e_v 3)) (as_cons (e_2 o_sub e_int (e_v 1)) (as_cons e_bl as_nil)))) (as_cons (e_make k_Bound hr (as_cons (e_2 o_sub (e_v 0) (e_v 2)) (as_cons (e_2 o_sub e_int (e_v 1)) (as_cons e_bl as_nil)))) as_nil)))))))
abbrev s_met_between : Stmt := topS 13
theorem sc_met_between : FnScope ["grain", "line", "corner", "start", "stop", "a", "b", "number", "low", "high", "there"] ["grain", "line", "corner"] (defScope s_met_between) := ⟨rfl, rfl, rfl, by decide +kernel, rfl, by decide +kernel, by decide +kernel⟩
def B_met_between : MS := (sSeq (sPar 3 4 (mCons (mN (bMake "Bound" ["n", "d", "is_out"]) (mCons (mC (.int 0)) (mCons (mC (.int 1)) (mCons (mC (.bl false)) mNil)))) (mCons (mN (bMake "Bound" ["n", "d", "is_out"]) (mCons (mC (.int 1)) (mCons (mC (.int 1)) (mCons (mC (.bl false)) mNil)))) mNil))) (sSeq (sFor (pT 3 (psC (pN 5) (psC (pN 6) (psC (pN 7) psN)))) (mItN zip3 (mCons (m2 bIx (mV 1) (mC (.int 0))) (mCons (m2 bIx (mV 1) (mC (.int 1))) (mCons (mV 2) mNil)))) (sSeq (sAsg (pT 2 (psC (pN 8) (psC (pN 9) psN))) (mCallP F_rims_of (mCons (mV 0) (mCons (mV 7) mNil)))) (sSeq (sAsg (pN 10) (mCallP F_bounds_between (mCons (m2 bMul (mC (.int 2)) (mV 5)) (mCons (m2 bMul (mC (.int 2)) (m2 bSub (mV 6) (mV 5))) (mCons (mV 8) (mCons (mV 9) mNil)))))) (sSeq (sIf (m2 bIsN (mV 10) (mC .non)) (sRet (mC .non)) (sK .nx)) (sSeq (sAsg (pN 3) (mCallP F_later (mCons (mV 3) (mCons (m2 bIx (mV 10) (mC (.int 0))) mNil)))) (sAsg (pN 4) (mCallP F_sooner (mCons (mV 4) (mCons (m2 bIx (mV 10) (mC (.int 1))) mNil))))))))) (sSeq (sIf (mOr (mCallP F_Bound_is_ahead_of (mCons (m1 (bRcv "Bound" "is_ahead_of") (mV 3)) (mCons (mV 4) mNil))) (mAnd (mCallP F_Bound_is_at (mCons (m1 (bRcv "Bound" "is_at") (mV 3)) (mCons (mV 4) mNil))) (mAnd (m1 bNot (m1 (bFld "is_out") (mV 3))) (m1 bNot (m1 (bFld "is_out") (mV 4)))))) (sRet (mN bTup (mCons (mV 3) (mCons (mV 4) mNil)))) (sK .nx)) (sRet (mC .non)))))
def F_met_between : List D → Res D := runP 8 B_met_between
theorem ok_met_between (t : TxF K mg "met_between" s_met_between ["grain", "line", "corner"]) (h_rims_of : CalP P w K mg base 1 "rims_of" 2 (.sh) F_rims_of) (h_bounds_between : CalP P w K mg base 3 "bounds_between" 4 (.sh) F_bounds_between) (h_later : CalP P w K mg base 2 "later" 2 (.sh) F_later) (h_sooner : CalP P w K mg base 2 "sooner" 2 (.sh) F_sooner) (h_Bound_is_ahead_of : CalM P w K mg base 1 "Bound" "is_ahead_of" 2 (.sh) F_Bound_is_ahead_of) (h_Bound_is_at : CalM P w K mg base 1 "Bound" "is_at" 2 (.sh) F_Bound_is_at) (k_Bound : MkT P w K mg base 1 "Bound" ["n", "d", "is_out"]) (hm_zip : mg "zip" = none) : CalP P w K mg base 4 "met_between" 3 (.sh) F_met_between := by
  obtain ⟨f, fd, Fu, bd, hm⟩ := t
  refine ⟨f, fd, _, ok_p (n := 3) (nl := 8) (F := ⟨fun i => .sh, fun i => false, .sh⟩) (b := B_met_between) Fu sc_met_between (sh_ok _ _ (by decide)) rfl rfl (.inl rfl) ?_, Fu.kp, bd, hm⟩
  intro cdv A outer s H E hr hg
  exact (ss_cons (s_par 3 4 sc_met_between.nd (as_cons (e_make k_Bound hr (as_cons e_int (as_cons e_int (as_cons e_bl as_nil)))) (as_cons (e_make k_Bound hr (as_cons e_int (as_cons e_int (as_cons e_bl as_nil)))) as_nil)))
    (ss_cons (s_for (i_zip3 (as_cons (e_ix x_ix (e_v 1) e_int) (as_cons (e_ix x_ix (e_v 1) e_int) (as_cons (e_v 2) as_nil))) (hm := hm_zip)) (g_t (gs_cons (g_n 5 sc_met_between.nd) (gs_cons (g_n 6 sc_met_between.nd) (gs_cons (g_n 7 sc_met_between.nd) gs_nil))))
    (ss_cons (s_asg (e_c h_rims_of hr hg (as_cons (e_v 0) (as_cons (e_v 7) as_nil)) (len_cons (len_cons len_nil))) (g_t (gs_cons (g_n 8 sc_met_between.nd) (gs_cons (g_n 9 sc_met_between.nd) gs_nil))))
    (ss_cons (s_set 10 sc_met_between.nd (e_c h_bounds_between hr hg (as_cons (e_2 o_mul e_int (e_v 5)) (as_cons (e_2 o_mul e_int (e_2 o_sub (e_v 6) (e_v 5))) (as_cons (e_v 8) (as_cons (e_v 9) as_nil)))) (len_cons (len_cons (len_cons (len_cons len_nil))))))
    (ss_cons (s_if (t_cmp o_is (e_v 10) e_non)
    (ss_one (s_ret e_non))
    ss_nil)
    (ss_cons (s_set 3 sc_met_between.nd (e_c h_later hr hg (as_cons (e_v 3) (as_cons (e_ix x_ix (e_v 10) e_int) as_nil)) (len_cons (len_cons len_nil))))
    (ss_one (s_set 4 sc_met_between.nd (e_c h_sooner hr hg (as_cons (e_v 4) (as_cons (e_ix x_ix (e_v 10) e_int) as_nil)) (len_cons (len_cons len_nil))))))))))
    (ss_cons (s_if (w_or (t_val (e_m h_Bound_is_ahead_of hr hg (e_v 3) (as_cons (e_v 4) as_nil) (len_cons len_nil))) (w_or1 (w_and (t_val (e_m h_Bound_is_at hr hg (e_v 3) (as_cons (e_v 4) as_nil) (len_cons len_nil))) (w_and (t_not (t_val (e_fld (e_v 3)))) (w_and1 (t_not (t_val (e_fld (e_v 4))))))).pt)).pt
    (ss_one (s_ret (e_tup (as_cons (e_v 3) (as_cons (e_v 4) as_nil)))))
    ss_nil)
    (ss_one (s_ret e_non)))))
abbrev s_share_between : Stmt := topS 14
theorem sc_share_between : FnScope ["start", "stop"] ["start", "stop"] (defScope s_share_between) := ⟨rfl, rfl, rfl, by decide +kernel, rfl, by decide +kernel, by decide +kernel⟩
def B_share_between : MS := (sSeq (sIf (m1 bNot (m1 (bFld "is_out") (mV 0))) (sRet (mN bTup (mCons (m1 (bFld "n") (mV 0)) (mCons (m1 (bFld "d") (mV 0)) mNil)))) (sK .nx)) (sSeq (sIf (m1 bNot (m1 (bFld "is_out") (mV 1))) (sRet (mN bTup (mCons (m1 (bFld "n") (mV 1)) (mCons (m1 (bFld "d") (mV 1)) mNil)))) (sK .nx)) (sRet (mN bTup (mCons (m2 bAdd (m2 bMul (m1 (bFld "n") (mV 0)) (m1 (bFld "d") (mV 1))) (m2 bMul (m1 (bFld "n") (mV 1)) (m1 (bFld "d") (mV 0)))) (mCons (m2 bMul (m2 bMul (mC (.int 2)) (m1 (bFld "d") (mV 0))) (m1 (bFld "d") (mV 1))) mNil))))))
def F_share_between : List D → Res D := runP 0 B_share_between
theorem ok_share_between (t : TxF K mg "share_between" s_share_between ["start", "stop"]) : CalP P w K mg base 1 "share_between" 2 (.sh) F_share_between := by
  obtain ⟨f, fd, Fu, bd, hm⟩ := t
  refine ⟨f, fd, _, ok_p (n := 2) (nl := 0) (F := ⟨fun i => .sh, fun i => false, .sh⟩) (b := B_share_between) Fu sc_share_between (sh_ok _ _ (by decide)) rfl rfl (.inl rfl) ?_, Fu.kp, bd, hm⟩
  intro cdv A outer s H E hr hg
  exact (ss_cons (s_if (t_not (t_val (e_fld (e_v 0))))
    (ss_one (s_ret (e_tup (as_cons (e_fld (e_v 0)) (as_cons (e_fld (e_v 0)) as_nil)))))
    ss_nil)
    (ss_cons (s_if (t_not (t_val (e_fld (e_v 1))))
    (ss_one (s_ret (e_tup (as_cons (e_fld (e_v 1)) (as_cons (e_fld (e_v 1)) as_nil)))))
    ss_nil)
    (ss_one (s_ret (e_tup (as_cons (e_2 o_add (e_2 o_mul (e_fld (e_v 0)) (e_fld (e_v 1))) (e_2 o_mul (e_fld (e_v 1)) (e_fld (e_v 0)))) (as_cons (e_2 o_mul (e_2 o_mul e_int (e_fld (e_v 0))) (e_fld (e_v 1))) as_nil)))))))
abbrev s_greatest_in : Stmt := topS 15
theorem sc_greatest_in : FnScope ["grain", "corner", "p", "q", "found", "times", "number", "rim"] ["grain", "corner", "p", "q"] (defScope s_greatest_in) := ⟨rfl, rfl, rfl, by decide +kernel, rfl, by decide +kernel, by decide +kernel⟩
def B_greatest_in : MS := (sSeq (sAsg (pN 4) (mC (.int 0))) (sSeq (sFor (pT 2 (psC (pN 5) (psC (pN 6) psN))) (mIt (mN bTup (mCons (mN bTup (mCons (mV 2) (mCons (m2 bIx (mV 1) (mC (.int 0))) mNil))) (mCons (mN bTup (mCons (mV 3) (mCons (m2 bIx (mV 1) (mC (.int 1))) mNil))) mNil)))) (sAsg (pN 4) (m2 bAddI (mV 4) (mN bMax1 (mCons (mComp [7] (pN 7) (mIt (mCallP F_rims_of (mCons (mV 0) (mCons (mV 6) mNil)))) mYes (m2 bMul (mV 5) (mV 7))) mNil))))) (sRet (mV 4))))
def F_greatest_in : List D → Res D := runP 4 B_greatest_in
theorem ok_greatest_in (t : TxF K mg "greatest_in" s_greatest_in ["grain", "corner", "p", "q"]) (h_rims_of : CalP P w K mg base 1 "rims_of" 2 (.sh) F_rims_of) (hm_max : mg "max" = none) : CalP P w K mg base 2 "greatest_in" 4 (.sh) F_greatest_in := by
  obtain ⟨f, fd, Fu, bd, hm⟩ := t
  refine ⟨f, fd, _, ok_p (n := 4) (nl := 4) (F := ⟨fun i => .sh, fun i => false, .sh⟩) (b := B_greatest_in) Fu sc_greatest_in (sh_ok _ _ (by decide)) rfl rfl (.inl rfl) ?_, Fu.kp, bd, hm⟩
  intro cdv A outer s H E hr hg
  exact (ss_cons (s_set 4 sc_greatest_in.nd e_int)
    (ss_cons (s_for (i_any (e_tup (as_cons (e_tup (as_cons (e_v 2) (as_cons (e_ix x_ix (e_v 1) e_int) as_nil))) (as_cons (e_tup (as_cons (e_v 3) (as_cons (e_ix x_ix (e_v 1) e_int) as_nil))) as_nil)))) (g_t (gs_cons (g_n 5 sc_greatest_in.nd) (gs_cons (g_n 6 sc_greatest_in.nd) gs_nil)))
    (ss_one (s_aug 4 sc_greatest_in.nd pip_add (e_callB (c_max1 rfl) (a_cons (e_sh (e_lcO (own' := [("rim", 7)]) (vs := [7]) sc_greatest_in.nd (blkOk_by (by kernel_rfl)) (i_any (e_c h_rims_of hr hg (as_cons (e_v 0) (as_cons (e_v 6) as_nil)) (len_cons (len_cons len_nil)))) (fun _ _ _ _ _ => (g_n 7 sc_greatest_in.nd)) (fun _ _ _ _ _ => ts_nil) (fun _ _ _ _ _ => (e_2 o_mul (e_v 5) (e_v 7))))) a_nil) (hm := hm_max)))))
    (ss_one (s_ret (e_v 4)))))
abbrev s_least_on : Stmt := topS 16
theorem sc_least_on : FnScope ["line", "p", "q", "x", "y"] ["line", "p", "q"] (defScope s_least_on) := ⟨rfl, rfl, rfl, by decide +kernel, rfl, by decide +kernel, by decide +kernel⟩
def B_least_on : MS := (sRet (mN bMin1 (mCons (mComp [3, 4] (pT 2 (psC (pN 3) (psC (pN 4) psN))) (mIt (mV 0)) mYes (m2 bMul (mC (.int 2)) (m2 bAdd (m2 bMul (mV 1) (mV 3)) (m2 bMul (mV 2) (mV 4))))) mNil)))
def F_least_on : List D → Res D := runP 2 B_least_on
theorem ok_least_on (t : TxF K mg "least_on" s_least_on ["line", "p", "q"]) (hm_min : mg "min" = none) : CalP P w K mg base 1 "least_on" 3 (.sh) F_least_on := by
  obtain ⟨f, fd, Fu, bd, hm⟩ := t
  refine ⟨f, fd, _, ok_p (n := 3) (nl := 2) (F := ⟨fun i => .sh, fun i => false, .sh⟩) (b := B_least_on) Fu sc_least_on (sh_ok _ _ (by decide)) rfl rfl (.inl rfl) ?_, Fu.kp, bd, hm⟩
  intro cdv A outer s H E hr hg
  exact (ss_one (s_ret (e_callB (c_min1 rfl) (a_cons (e_sh (e_lcO (own' := [("x", 3), ("y", 4)]) (vs := [3, 4]) sc_least_on.nd (blkOk_by (by kernel_rfl)) (i_any (e_v 0)) (fun _ _ _ _ _ => (g_t (gs_cons (g_n 3 sc_least_on.nd) (gs_cons (g_n 4 sc_least_on.nd) gs_nil)))) (fun _ _ _ _ _ => ts_nil) (fun _ _ _ _ _ => (e_2 o_mul e_int (e_2 o_add (e_2 o_mul (e_v 1) (e_v 3)) (e_2 o_mul (e_v 2) (e_v 4))))))) a_nil) (hm := hm_min))))
abbrev s_is_past : Stmt := topS 17
theorem sc_is_past : FnScope ["grain", "line", "corner", "p", "q", "least", "greatest"] ["grain", "line", "corner", "p", "q"] (defScope s_is_past) := ⟨rfl, rfl, rfl, by decide +kernel, rfl, by decide +kernel, by decide +kernel⟩
def B_is_past : MS := (sSeq (sAsg (pN 5) (mCallP F_least_on (mCons (mV 1) (mCons (mV 3) (mCons (mV 4) mNil))))) (sSeq (sAsg (pN 6) (mCallP F_greatest_in (mCons (mV 0) (mCons (mV 2) (mCons (mV 3) (mCons (mV 4) mNil)))))) (sRet (mOr (m2 bLt (mV 6) (mV 5)) (mAnd (m2 bEq (mV 6) (mV 5)) (mOr (m2 bGt (mV 3) (mC (.int 0))) (m2 bGt (mV 4) (mC (.int 0)))))))))
def F_is_past : List D → Res D := runP 2 B_is_past
theorem ok_is_past (t : TxF K mg "is_past" s_is_past ["grain", "line", "corner", "p", "q"]) (h_least_on : CalP P w K mg base 1 "least_on" 3 (.sh) F_least_on) (h_greatest_in : CalP P w K mg base 2 "greatest_in" 4 (.sh) F_greatest_in) : CalP P w K mg base 3 "is_past" 5 (.sh) F_is_past := by
  obtain ⟨f, fd, Fu, bd, hm⟩ := t
  refine ⟨f, fd, _, ok_p (n := 5) (nl := 2) (F := ⟨fun i => .sh, fun i => false, .sh⟩) (b := B_is_past) Fu sc_is_past (sh_ok _ _ (by decide)) rfl rfl (.inl rfl) ?_, Fu.kp, bd, hm⟩
  intro cdv A outer s H E hr hg
  exact (ss_cons (s_set 5 sc_is_past.nd (e_c h_least_on hr hg (as_cons (e_v 1) (as_cons (e_v 3) (as_cons (e_v 4) as_nil))) (len_cons (len_cons (len_cons len_nil)))))
    (ss_cons (s_set 6 sc_is_past.nd (e_c h_greatest_in hr hg (as_cons (e_v 0) (as_cons (e_v 2) (as_cons (e_v 3) (as_cons (e_v 4) as_nil)))) (len_cons (len_cons (len_cons (len_cons len_nil))))))
    (ss_one (s_ret (e_or (e_cmp o_lt (e_v 6) (e_v 5)) (e_one (e_and (e_cmp (o_eq hr.units) (e_v 6) (e_v 5)) (e_one (e_or (e_cmp o_gt (e_v 3) e_int) (e_one (e_cmp o_gt (e_v 4) e_int)))))))))))
abbrev s_way_past : Stmt := topS 18
theorem sc_way_past : FnScope ["grain", "line", "corner", "across", "p", "q"] ["grain", "line", "corner"] (defScope s_way_past) := ⟨rfl, rfl, rfl, by decide +kernel, rfl, by decide +kernel, by decide +kernel⟩
def B_way_past : MS := (sSeq (sAsg (pN 3) (mN bTup (mCons (m2 bSub (m2 bIx (m2 bIx (mV 1) (mC (.int 0))) (mC (.int 1))) (m2 bIx (m2 bIx (mV 1) (mC (.int 1))) (mC (.int 1)))) (mCons (m2 bSub (m2 bIx (m2 bIx (mV 1) (mC (.int 1))) (mC (.int 0))) (m2 bIx (m2 bIx (mV 1) (mC (.int 0))) (mC (.int 0)))) mNil)))) (sSeq (sFor (pT 2 (psC (pN 4) (psC (pN 5) psN))) (mIt (mN bTup (mCons (mN bTup (mCons (mC (.int 1)) (mCons (mC (.int 0)) mNil))) (mCons (mN bTup (mCons (mC (.int 0)) (mCons (mC (.int 1)) mNil))) (mCons (mN bTup (mCons (m1 bNeg (mC (.int 1))) (mCons (mC (.int 0)) mNil))) (mCons (mN bTup (mCons (mC (.int 0)) (mCons (m1 bNeg (mC (.int 1))) mNil))) (mCons (mV 3) mNil))))))) (sIf (mCallP F_is_past (mCons (mV 0) (mCons (mV 1) (mCons (mV 2) (mCons (mV 4) (mCons (mV 5) mNil)))))) (sRet (mN bTup (mCons (mV 4) (mCons (mV 5) mNil)))) (sK .nx))) (sRet (mN bTup (mCons (m2 bSub (mC (.int 0)) (m2 bIx (mV 3) (mC (.int 0)))) (mCons (m2 bSub (mC (.int 0)) (m2 bIx (mV 3) (mC (.int 1)))) mNil))))))
def F_way_past : List D → Res D := runP 3 B_way_past
theorem ok_way_past (t : TxF K mg "way_past" s_way_past ["grain", "line", "corner"]) (h_is_past : CalP P w K mg base 3 "is_past" 5 (.sh) F_is_past) : CalP P w K mg base 4 "way_past" 3 (.sh) F_way_past := by
  obtain ⟨f, fd, Fu, bd, hm⟩ := t
  refine ⟨f, fd, _, ok_p (n := 3) (nl := 3) (F := ⟨fun i => .sh, fun i => false, .sh⟩) (b := B_way_past) Fu sc_way_past (sh_ok _ _ (by decide)) rfl rfl (.inl rfl) ?_, Fu.kp, bd, hm⟩
  intro cdv A outer s H E hr hg
  exact (ss_cons (s_set 3 sc_way_past.nd (e_tup (as_cons (e_2 o_sub (e_ix x_ix (e_ix x_ix (e_v 1) e_int) e_int) (e_ix x_ix (e_ix x_ix (e_v 1) e_int) e_int)) (as_cons (e_2 o_sub (e_ix x_ix (e_ix x_ix (e_v 1) e_int) e_int) (e_ix x_ix (e_ix x_ix (e_v 1) e_int) e_int)) as_nil))))
    (ss_cons (s_for (i_any (e_tup (as_cons (e_tup (as_cons e_int (as_cons e_int as_nil))) (as_cons (e_tup (as_cons e_int (as_cons e_int as_nil))) (as_cons (e_tup (as_cons (e_1 u_neg e_int) (as_cons e_int as_nil))) (as_cons (e_tup (as_cons e_int (as_cons (e_1 u_neg e_int) as_nil))) (as_cons (e_v 3) as_nil))))))) (g_t (gs_cons (g_n 4 sc_way_past.nd) (gs_cons (g_n 5 sc_way_past.nd) gs_nil)))
    (ss_one (s_if (t_val (e_c h_is_past hr hg (as_cons (e_v 0) (as_cons (e_v 1) (as_cons (e_v 2) (as_cons (e_v 4) (as_cons (e_v 5) as_nil))))) (len_cons (len_cons (len_cons (len_cons (len_cons len_nil)))))))
    (ss_one (s_ret (e_tup (as_cons (e_v 4) (as_cons (e_v 5) as_nil)))))
    ss_nil)))
    (ss_one (s_ret (e_tup (as_cons (e_2 o_sub e_int (e_ix x_ix (e_v 3) e_int)) (as_cons (e_2 o_sub e_int (e_ix x_ix (e_v 3) e_int)) as_nil)))))))
abbrev s_meets_paper : Stmt := topS 19
theorem sc_meets_paper : FnScope ["grain", "line", "corner", "there", "p", "q"] ["grain", "line", "corner"] (defScope s_meets_paper) := ⟨rfl, rfl, rfl, by decide +kernel, rfl, by decide +kernel, by decide +kernel⟩
def B_meets_paper : MS := (sSeq (sAsg (pN 3) (mCallP F_met_between (mCons (mV 0) (mCons (mV 1) (mCons (mV 2) mNil))))) (sSeq (sIf (m2 bNotN (mV 3) (mC .non)) (sRet (m2 bAdd (mN bTup (mCons (mC (.str "meets")) mNil)) (mCallP F_share_between (mCons (m2 bIx (mV 3) (mC (.int 0))) (mCons (m2 bIx (mV 3) (mC (.int 1))) mNil))))) (sK .nx)) (sSeq (sAsg (pT 2 (psC (pN 4) (psC (pN 5) psN))) (mCallP F_way_past (mCons (mV 0) (mCons (mV 1) (mCons (mV 2) mNil))))) (sRet (mN bTup (mCons (mC (.str "misses")) (mCons (mV 4) (mCons (mV 5) (mCons (mCallP F_least_on (mCons (mV 1) (mCons (mV 4) (mCons (mV 5) mNil)))) mNil)))))))))
def F_meets_paper : List D → Res D := runP 3 B_meets_paper
theorem ok_meets_paper (t : TxF K mg "meets_paper" s_meets_paper ["grain", "line", "corner"]) (h_met_between : CalP P w K mg base 4 "met_between" 3 (.sh) F_met_between) (h_way_past : CalP P w K mg base 4 "way_past" 3 (.sh) F_way_past) (h_least_on : CalP P w K mg base 1 "least_on" 3 (.sh) F_least_on) (h_share_between : CalP P w K mg base 1 "share_between" 2 (.sh) F_share_between) : CalP P w K mg base 5 "meets_paper" 3 (.sh) F_meets_paper := by
  obtain ⟨f, fd, Fu, bd, hm⟩ := t
  refine ⟨f, fd, _, ok_p (n := 3) (nl := 3) (F := ⟨fun i => .sh, fun i => false, .sh⟩) (b := B_meets_paper) Fu sc_meets_paper (sh_ok _ _ (by decide)) rfl rfl (.inl rfl) ?_, Fu.kp, bd, hm⟩
  intro cdv A outer s H E hr hg
  exact (ss_cons (s_set 3 sc_meets_paper.nd (e_c h_met_between hr hg (as_cons (e_v 0) (as_cons (e_v 1) (as_cons (e_v 2) as_nil))) (len_cons (len_cons (len_cons len_nil)))))
    (ss_cons (s_if (t_cmp o_isnt (e_v 3) e_non)
    (ss_one (s_ret (e_2 o_add (e_tup (as_cons e_str as_nil)) (e_c h_share_between hr hg (as_cons (e_ix x_ix (e_v 3) e_int) (as_cons (e_ix x_ix (e_v 3) e_int) as_nil)) (len_cons (len_cons len_nil))))))
    ss_nil)
    (ss_cons (s_asg (e_c h_way_past hr hg (as_cons (e_v 0) (as_cons (e_v 1) (as_cons (e_v 2) as_nil))) (len_cons (len_cons (len_cons len_nil)))) (g_t (gs_cons (g_n 4 sc_meets_paper.nd) (gs_cons (g_n 5 sc_meets_paper.nd) gs_nil))))
    (ss_one (s_ret (e_tup (as_cons e_str (as_cons (e_v 4) (as_cons (e_v 5) (as_cons (e_c h_least_on hr hg (as_cons (e_v 1) (as_cons (e_v 4) (as_cons (e_v 5) as_nil))) (len_cons (len_cons (len_cons len_nil)))) as_nil))))))))))
abbrev s__law_deck : Stmt := topS 21
theorem sc__law_deck : FnScope ["_law_script", "_law_cell"] ["_law_script"] (defScope s__law_deck) := ⟨rfl, rfl, rfl, by decide +kernel, rfl, by decide +kernel, by decide +kernel⟩
def B__law_deck : MS := (sRet (mN bLst (mCons (m1 bRev (mL listOfD (mCons (mSl (mV 0) none (some (mC (.int 63)))) mNil))) (mCons (m2 bAdd (mN bSum (mCons (mComp [1] (pN 1) (mIt (mSl (mV 0) none (some (mC (.int 63))))) mYes (m2 bMod (mV 1) (mC (.int 1000003)))) mNil)) (m2 bMul (mC (.int 7919)) (mN bLen (mCons (mSl (mV 0) none (some (mC (.int 63)))) mNil)))) (mCons (mC (.int 0)) mNil)))))
def F__law_deck : List D → Res D := runP 1 B__law_deck
theorem ok__law_deck (t : TxF K mg "_law_deck" s__law_deck ["_law_script"]) (hm_len : mg "len" = none) (hm_list : mg "list" = none) (hm_sum : mg "sum" = none) : CalP P w K mg base 1 "_law_deck" 1 (.ol (.ol .sh .sh) .sh) F__law_deck := by
  obtain ⟨f, fd, Fu, bd, hm⟩ := t
  refine ⟨f, fd, _, ok_p (n := 1) (nl := 1) (F := ⟨fun i => .sh, fun i => false, .ol (.ol .sh .sh) .sh⟩) (b := B__law_deck) Fu sc__law_deck (sh_ok _ _ (by decide)) rfl rfl (.inr (fun ds ρ => (NoNx.ret : NoNx B__law_deck) _ ρ)) ?_, Fu.kp, bd, hm⟩
  intro cdv A outer s H E hr hg
  exact (ss_one (s_ret (e_lstH (e_revO (e_sh (e_callTyO c_list (a_cons (e_sl (e_v 0) po_n (po_s e_int)) a_nil) (hm := hm_list)))) (as_cons (e_2 o_add (e_callB (c_sum rfl) (a_cons (e_sh (e_lcO (own' := [("_law_cell", 1)]) (vs := [1]) sc__law_deck.nd (blkOk_by (by kernel_rfl)) (i_any (e_sl (e_v 0) po_n (po_s e_int))) (fun _ _ _ _ _ => (g_n 1 sc__law_deck.nd)) (fun _ _ _ _ _ => ts_nil) (fun _ _ _ _ _ => (e_2 o_mod (e_v 1) e_int)))) a_nil) (hm := hm_sum)) (e_2 o_mul e_int (e_callB c_len (a_cons (e_sl (e_v 0) po_n (po_s e_int)) a_nil) (hm := hm_len)))) (as_cons e_int as_nil)))))
abbrev s__law_draw : Stmt := topS 22
theorem sc__law_draw : FnScope ["_law_deck_here", "_law_most", "_law_cell", "_law_number"] ["_law_deck_here", "_law_most"] (defScope s__law_draw) := ⟨rfl, rfl, rfl, by decide +kernel, rfl, by decide +kernel, by decide +kernel⟩
def B__law_draw : MS := (sSeq (sSto 0 1 (m2 bAdd (mIxS 0 1) (mC (.int 1)))) (sSeq (sAsg (pN 2) (mIxS 0 0)) (sSeq (sIf (m2 bNe (mIx0 0) (mN bLst mNil)) (sSeq (sAsg (pN 2) (mPop0 0)) (sIf (m2 bGe (mV 2) (m2 bPow (mC (.int 10)) (mC (.int 18)))) (sSeq (sExp (mApp0 0 (m2 bDiv (mV 2) (mV 1)))) (sRet (m2 bMod (mV 2) (mV 1)))) (sK .nx))) (sK .nx)) (sSeq (sAsg (pN 3) (m2 bMod (m2 bMul (m2 bAdd (m2 bAdd (m2 bMod (mV 2) (mC (.int 2147483629))) (m2 bMul (mC (.int 65537)) (mIxS 0 1))) (mC (.int 3))) (mC (.int 48271))) (mC (.int 2147483647)))) (sSeq (sAsg (pN 3) (m2 bMod (m2 bAdd (m2 bAdd (m2 bMul (mV 3) (mV 3)) (m2 bMul (mC (.int 69621)) (mIxS 0 1))) (mC (.int 17))) (mC (.int 2147483587)))) (sRet (m2 bMod (m2 bDiv (m2 bMod (m2 bAdd (m2 bMul (mV 3) (mV 3)) (mC (.int 39373))) (mC (.int 2147483563))) (mC (.int 64))) (mV 1))))))))
def F__law_draw : Fn := runF [.ol (.ol .sh .sh) .sh, .sh] 2 B__law_draw
theorem ok__law_draw (t : TxF K mg "_law_draw" s__law_draw ["_law_deck_here", "_law_most"]) : CalF P w K mg base 1 "_law_draw" [.ol (.ol .sh .sh) .sh, .sh] (.sh) F__law_draw := by
  obtain ⟨f, fd, Fu, bd, hm⟩ := t
  refine ⟨f, fd, _, ok_d (ts := [.ol (.ol .sh .sh) .sh, .sh]) (nl := 2) (F := ⟨fun i => if i = 0 then .ol (.ol .sh .sh) .sh else .sh, fun i => i == 0, .sh⟩) (b := B__law_draw) Fu sc__law_draw (τs_ok _ _ (by decide)) (fx_ok _ _ (by decide)) rfl rfl (.inl rfl) ?_, Fu.kp, bd, hm⟩
  intro cdv A outer s H E hr hg
  exact (ss_cons (s_sto 0 1 (e_2 o_add (e_ixS 0 1) e_int))
    (ss_cons (s_set 2 sc__law_draw.nd (e_ixS 0 0))
    (ss_cons (s_if (t_cmp (o_ne hr.units) (e_ix0 0) (e_sh (e_lstO as_nil)))
    (ss_cons (s_set 2 sc__law_draw.nd (e_pop0 0))
    (ss_one (s_if (t_cmp o_ge (e_v 2) (e_2 o_pow e_int e_int))
    (ss_cons (s_exp (e_pk (e_app0 0 (as_cons (e_2 o_div (e_v 2) (e_v 1)) as_nil))))
    (ss_one (s_ret (e_2 o_mod (e_v 2) (e_v 1)))))
    ss_nil)))
    ss_nil)
    (ss_cons (s_set 3 sc__law_draw.nd (e_2 o_mod (e_2 o_mul (e_2 o_add (e_2 o_add (e_2 o_mod (e_v 2) e_int) (e_2 o_mul e_int (e_ixS 0 1))) e_int) e_int) e_int))
    (ss_cons (s_set 3 sc__law_draw.nd (e_2 o_mod (e_2 o_add (e_2 o_add (e_2 o_mul (e_v 3) (e_v 3)) (e_2 o_mul e_int (e_ixS 0 1))) e_int) e_int))
    (ss_one (s_ret (e_2 o_mod (e_2 o_div (e_2 o_mod (e_2 o_add (e_2 o_mul (e_v 3) (e_v 3)) e_int) e_int) e_int) (e_v 1)))))))))
abbrev s__law_grain : Stmt := topS 23
theorem sc__law_grain : FnScope ["_law_deck_here"] ["_law_deck_here"] (defScope s__law_grain) := ⟨rfl, rfl, rfl, by decide +kernel, rfl, by decide +kernel, by decide +kernel⟩
def B__law_grain : MS := (sRet (m2 bIx (mN bLst (mCons (mC (.int 1)) (mCons (mC (.int 2)) (mCons (mC (.int 3)) (mCons (mC (.int 4)) (mCons (mC (.int 2)) (mCons (mC (.int 6)) (mCons (mC (.int 10)) (mCons (mC (.int 1000)) mNil))))))))) (mCall F__law_draw (.io 0 :: (.e (mC (.int 8)) :: [])))))
def F__law_grain : Fn := runF [.ol (.ol .sh .sh) .sh] 0 B__law_grain
theorem ok__law_grain (t : TxF K mg "_law_grain" s__law_grain ["_law_deck_here"]) (h__law_draw : CalF P w K mg base 1 "_law_draw" [.ol (.ol .sh .sh) .sh, .sh] (.sh) F__law_draw) : CalF P w K mg base 2 "_law_grain" [.ol (.ol .sh .sh) .sh] (.sh) F__law_grain := by
  obtain ⟨f, fd, Fu, bd, hm⟩ := t
  refine ⟨f, fd, _, ok_d (ts := [.ol (.ol .sh .sh) .sh]) (nl := 0) (F := ⟨fun i => if i = 0 then .ol (.ol .sh .sh) .sh else .sh, fun i => i == 0, .sh⟩) (b := B__law_grain) Fu sc__law_grain (τs_ok _ _ (by decide)) (fx_ok _ _ (by decide)) rfl rfl (.inl rfl) ?_, Fu.kp, bd, hm⟩
  intro cdv A outer s H E hr hg
  exact (ss_one (s_ret (e_ix x_ix (e_sh (e_lstO (as_cons e_int (as_cons e_int (as_cons e_int (as_cons e_int (as_cons e_int (as_cons e_int (as_cons e_int (as_cons e_int as_nil)))))))))) (e_cF h__law_draw hr hg (ag_io 0 (ag_e e_int ag_nil))))))
abbrev s__law_point : Stmt := topS 24
theorem sc__law_point : FnScope ["_law_deck_here", "_law_grain_here", "_law_way", "_law_x", "_law_y"] ["_law_deck_here", "_law_grain_here", "_law_way"] (defScope s__law_point) := ⟨rfl, rfl, rfl, by decide +kernel, rfl, by decide +kernel, by decide +kernel⟩
def B__law_point : MS := (sSeq (sPar 3 4 (mCons (mCall F__law_draw (.io 0 :: (.e (m2 bAdd (m2 bMul (mC (.int 4)) (mV 1)) (mC (.int 1))) :: []))) (mCons (mCall F__law_draw (.io 0 :: (.e (m2 bAdd (m2 bMul (mC (.int 4)) (mV 1)) (mC (.int 1))) :: []))) mNil))) (sSeq (sIf (m2 bEq (mV 2) (mC (.int 1))) (sRet (mN bTup (mCons (m2 bDiv (m2 bAdd (m2 bMul (m2 bDiv (m2 bMul (mC (.int 2)) (mV 3)) (mV 1)) (mV 1)) (mC (.int 1))) (mC (.int 2))) (mCons (m2 bDiv (m2 bAdd (m2 bMul (m2 bDiv (m2 bMul (mC (.int 2)) (mV 4)) (mV 1)) (mV 1)) (mC (.int 1))) (mC (.int 2))) mNil)))) (sK .nx)) (sSeq (sIf (m2 bEq (mV 2) (mC (.int 2))) (sRet (mN bTup (mCons (m2 bMul (m2 bDiv (mV 3) (mV 1)) (mV 1)) (mCons (m2 bMul (m2 bDiv (mV 4) (mV 1)) (mV 1)) mNil)))) (sK .nx)) (sSeq (sIf (m2 bEq (mV 2) (mC (.int 3))) (sRet (mN bTup (mCons (m2 bAdd (m2 bMul (m2 bDiv (mV 3) (mV 1)) (mV 1)) (m2 bDiv (mV 1) (mC (.int 2)))) (mCons (mV 4) mNil)))) (sK .nx)) (sRet (mN bTup (mCons (mV 3) (mCons (mV 4) mNil))))))))
def F__law_point : Fn := runF [.ol (.ol .sh .sh) .sh, .sh, .sh] 2 B__law_point
theorem ok__law_point (t : TxF K mg "_law_point" s__law_point ["_law_deck_here", "_law_grain_here", "_law_way"]) (h__law_draw : CalF P w K mg base 1 "_law_draw" [.ol (.ol .sh .sh) .sh, .sh] (.sh) F__law_draw) : CalF P w K mg base 2 "_law_point" [.ol (.ol .sh .sh) .sh, .sh, .sh] (.sh) F__law_point := by
  obtain ⟨f, fd, Fu, bd, hm⟩ := t
  refine ⟨f, fd, _, ok_d (ts := [.ol (.ol .sh .sh) .sh, .sh, .sh]) (nl := 2) (F := ⟨fun i => if i = 0 then .ol (.ol .sh .sh) .sh else .sh, fun i => i == 0, .sh⟩) (b := B__law_point) Fu sc__law_point (τs_ok _ _ (by decide)) (fx_ok _ _ (by decide)) rfl rfl (.inl rfl) ?_, Fu.kp, bd, hm⟩
  intro cdv A outer s H E hr hg
  exact (ss_cons (s_par 3 4 sc__law_point.nd (as_cons (e_cF h__law_draw hr hg (ag_io 0 (ag_e (e_2 o_add (e_2 o_mul e_int (e_v 1)) e_int) ag_nil))) (as_cons (e_cF h__law_draw hr hg (ag_io 0 (ag_e (e_2 o_add (e_2 o_mul e_int (e_v 1)) e_int) ag_nil))) as_nil)))
    (ss_cons (s_if (t_cmp (o_eq hr.units) (e_v 2) e_int)
    (ss_one (s_ret (e_tup (as_cons (e_2 o_div (e_2 o_add (e_2 o_mul (e_2 o_div (e_2 o_mul e_int (e_v 3)) (e_v 1)) (e_v 1)) e_int) e_int) (as_cons (e_2 o_div (e_2 o_add (e_2 o_mul (e_2 o_div (e_2 o_mul e_int (e_v 4)) (e_v 1)) (e_v 1)) e_int) e_int) as_nil)))))
    ss_nil)
    (ss_cons (s_if (t_cmp (o_eq hr.units) (e_v 2) e_int)
    (ss_one (s_ret (e_tup (as_cons (e_2 o_mul (e_2 o_div (e_v 3) (e_v 1)) (e_v 1)) (as_cons (e_2 o_mul (e_2 o_div (e_v 4) (e_v 1)) (e_v 1)) as_nil)))))
    ss_nil)
    (ss_cons (s_if (t_cmp (o_eq hr.units) (e_v 2) e_int)
    (ss_one (s_ret (e_tup (as_cons (e_2 o_add (e_2 o_mul (e_2 o_div (e_v 3) (e_v 1)) (e_v 1)) (e_2 o_div (e_v 1) e_int)) (as_cons (e_v 4) as_nil)))))
    ss_nil)
    (ss_one (s_ret (e_tup (as_cons (e_v 3) (as_cons (e_v 4) as_nil)))))))))
abbrev s__law_unlike : Stmt := topS 25
theorem sc__law_unlike : FnScope ["_law_one", "_law_other"] ["_law_one", "_law_other"] (defScope s__law_unlike) := ⟨rfl, rfl, rfl, by decide +kernel, rfl, by decide +kernel, by decide +kernel⟩
def B__law_unlike : MS := (sRet (mN bTup (mCons (mV 0) (mCons (m2 bIx (mN bLst (mCons (mV 1) (mCons (mN bTup (mCons (m2 bAdd (m2 bIx (mV 0) (mC (.int 0))) (mC (.int 1))) (mCons (m2 bIx (mV 0) (mC (.int 1))) mNil))) mNil))) (mN bInt (mCons (m2 bEq (mV 0) (mV 1)) mNil))) mNil))))
def F__law_unlike : List D → Res D := runP 0 B__law_unlike
theorem ok__law_unlike (t : TxF K mg "_law_unlike" s__law_unlike ["_law_one", "_law_other"]) (hm_int : mg "int" = none) : CalP P w K mg base 1 "_law_unlike" 2 (.sh) F__law_unlike := by
  obtain ⟨f, fd, Fu, bd, hm⟩ := t
  refine ⟨f, fd, _, ok_p (n := 2) (nl := 0) (F := ⟨fun i => .sh, fun i => false, .sh⟩) (b := B__law_unlike) Fu sc__law_unlike (sh_ok _ _ (by decide)) rfl rfl (.inl rfl) ?_, Fu.kp, bd, hm⟩
  intro cdv A outer s H E hr hg
  exact (ss_one (s_ret (e_tup (as_cons (e_v 0) (as_cons (e_ix x_ix (e_sh (e_lstO (as_cons (e_v 1) (as_cons (e_tup (as_cons (e_2 o_add (e_ix x_ix (e_v 0) e_int) e_int) (as_cons (e_ix x_ix (e_v 0) e_int) as_nil))) as_nil)))) (e_callTy c_int (a_cons (e_cmp (o_eq hr.units) (e_v 0) (e_v 1)) a_nil) (hm := hm_int))) as_nil)))))
abbrev s__law_line : Stmt := topS 26
theorem sc__law_line : FnScope ["_law_deck_here", "_law_grain_here", "_law_lines_here", "_law_way", "_law_one", "_law_other", "_law_x", "_law_y", "_law_u", "_law_v", "_law_number"] ["_law_deck_here", "_law_grain_here", "_law_lines_here"] (defScope s__law_line) := ⟨rfl, rfl, rfl, by decide +kernel, rfl, by decide +kernel, by decide +kernel⟩
def B__law_line : MS := (sSeq (sAsg (pN 3) (mCall F__law_draw (.io 0 :: (.e (mC (.int 9)) :: [])))) (sSeq (sAsg (pN 4) (mCall F__law_point (.io 0 :: (.e (mV 1) :: (.e (m2 bMod (mV 3) (mC (.int 4))) :: []))))) (sSeq (sAsg (pN 5) (mCall F__law_point (.io 0 :: (.e (mV 1) :: (.e (mCall F__law_draw (.io 0 :: (.e (mC (.int 4)) :: []))) :: []))))) (sSeq (sIf (mOr (m2 bEq (mV 2) (mN bLst mNil)) (m2 bLt (mV 3) (mC (.int 5)))) (sRet (mCallP F__law_unlike (mCons (mV 4) (mCons (mV 5) mNil)))) (sK .nx)) (sSeq (sAsg (pT 2 (psC (pT 2 (psC (pN 6) (psC (pN 7) psN))) (psC (pT 2 (psC (pN 8) (psC (pN 9) psN))) psN))) (m2 bIx (mV 2) (mCall F__law_draw (.io 0 :: (.e (mN bLen (mCons (mV 2) mNil)) :: []))))) (sSeq (sIf (m2 bGt (mN bMax1 (mCons (mComp [10] (pN 10) (mIt (mN bTup (mCons (mV 6) (mCons (mV 7) (mCons (mV 8) (mCons (mV 9) mNil)))))) mYes (mN bAbs (mCons (mV 10) mNil))) mNil)) (m2 bMul (mC (.int 12)) (mV 1))) (sRet (mCallP F__law_unlike (mCons (mV 4) (mCons (mV 5) mNil)))) (sK .nx)) (sSeq (sIf (m2 bEq (mV 3) (mC (.int 5))) (sRet (mCallP F__law_unlike (mCons (mN bTup (mCons (mV 8) (mCons (mV 9) mNil))) (mCons (mV 5) mNil)))) (sK .nx)) (sSeq (sIf (m2 bEq (mV 3) (mC (.int 6))) (sRet (mCallP F__law_unlike (mCons (mV 4) (mCons (mN bTup (mCons (m2 bSub (m2 bAdd (mV 6) (mV 8)) (m2 bIx (mV 4) (mC (.int 0)))) (mCons (m2 bSub (m2 bAdd (mV 7) (mV 9)) (m2 bIx (mV 4) (mC (.int 1)))) mNil))) mNil)))) (sK .nx)) (sSeq (sIf (m2 bEq (mV 3) (mC (.int 7))) (sRet (mN bTup (mCons (mN bTup (mCons (mV 8) (mCons (mV 9) mNil))) (mCons (mN bTup (mCons (m2 bSub (m2 bMul (mC (.int 2)) (mV 8)) (mV 6)) (mCons (m2 bSub (m2 bMul (mC (.int 2)) (mV 9)) (mV 7)) mNil))) mNil)))) (sK .nx)) (sRet (m2 bIx (mN bLst (mCons (mN bTup (mCons (mN bTup (mCons (mV 6) (mCons (mV 7) mNil))) (mCons (mN bTup (mCons (mV 8) (mCons (mV 9) mNil))) mNil))) (mCons (mN bTup (mCons (mN bTup (mCons (mV 8) (mCons (mV 9) mNil))) (mCons (mN bTup (mCons (mV 6) (mCons (mV 7) mNil))) mNil))) (mCons (mN bTup (mCons (mN bTup (mCons (mV 6) (mCons (mV 7) mNil))) (mCons (mN bTup (mCons (m2 bSub (m2 bMul (mC (.int 2)) (mV 8)) (mV 6)) (mCons (m2 bSub (m2 bMul (mC (.int 2)) (mV 9)) (mV 7)) mNil))) mNil))) mNil)))) (mCall F__law_draw (.io 0 :: (.e (mC (.int 3)) :: []))))))))))))))
def F__law_line : Fn := runF [.ol (.ol .sh .sh) .sh, .sh, .sh] 8 B__law_line
theorem ok__law_line (t : TxF K mg "_law_line" s__law_line ["_law_deck_here", "_law_grain_here", "_law_lines_here"]) (h__law_draw : CalF P w K mg base 1 "_law_draw" [.ol (.ol .sh .sh) .sh, .sh] (.sh) F__law_draw) (h__law_point : CalF P w K mg base 2 "_law_point" [.ol (.ol .sh .sh) .sh, .sh, .sh] (.sh) F__law_point) (h__law_unlike : CalP P w K mg base 1 "_law_unlike" 2 (.sh) F__law_unlike) (hm_abs : mg "abs" = none) (hm_len : mg "len" = none) (hm_max : mg "max" = none) : CalF P w K mg base 3 "_law_line" [.ol (.ol .sh .sh) .sh, .sh, .sh] (.sh) F__law_line := by
  obtain ⟨f, fd, Fu, bd, hm⟩ := t
  refine ⟨f, fd, _, ok_d (ts := [.ol (.ol .sh .sh) .sh, .sh, .sh]) (nl := 8) (F := ⟨fun i => if i = 0 then .ol (.ol .sh .sh) .sh else .sh, fun i => i == 0, .sh⟩) (b := B__law_line) Fu sc__law_line (τs_ok _ _ (by decide)) (fx_ok _ _ (by decide)) rfl rfl (.inl rfl) ?_, Fu.kp, bd, hm⟩
  intro cdv A outer s H E hr hg
  exact (ss_cons (s_set 3 sc__law_line.nd (e_cF h__law_draw hr hg (ag_io 0 (ag_e e_int ag_nil))))
    (ss_cons (s_set 4 sc__law_line.nd (e_cF h__law_point hr hg (ag_io 0 (ag_e (e_v 1) (ag_e (e_2 o_mod (e_v 3) e_int) ag_nil)))))
    (ss_cons (s_set 5 sc__law_line.nd (e_cF h__law_point hr hg (ag_io 0 (ag_e (e_v 1) (ag_e (e_cF h__law_draw hr hg (ag_io 0 (ag_e e_int ag_nil))) ag_nil)))))
    (ss_cons (s_if (w_or (t_cmp (o_eq hr.units) (e_v 2) (e_sh (e_lstO as_nil))) (w_or1 (t_cmp o_lt (e_v 3) e_int))).pt
    (ss_one (s_ret (e_c h__law_unlike hr hg (as_cons (e_v 4) (as_cons (e_v 5) as_nil)) (len_cons (len_cons len_nil)))))
    ss_nil)
    (ss_cons (s_asg (e_ix x_ix (e_v 2) (e_cF h__law_draw hr hg (ag_io 0 (ag_e (e_callB c_len (a_cons (e_v 2) a_nil) (hm := hm_len)) ag_nil)))) (g_t (gs_cons (g_t (gs_cons (g_n 6 sc__law_line.nd) (gs_cons (g_n 7 sc__law_line.nd) gs_nil))) (gs_cons (g_t (gs_cons (g_n 8 sc__law_line.nd) (gs_cons (g_n 9 sc__law_line.nd) gs_nil))) gs_nil))))
    (ss_cons (s_if (t_cmp o_gt (e_callB (c_max1 rfl) (a_cons (e_sh (e_lcO (own' := [("_law_number", 10)]) (vs := [10]) sc__law_line.nd (blkOk_by (by kernel_rfl)) (i_any (e_tup (as_cons (e_v 6) (as_cons (e_v 7) (as_cons (e_v 8) (as_cons (e_v 9) as_nil)))))) (fun _ _ _ _ _ => (g_n 10 sc__law_line.nd)) (fun _ _ _ _ _ => ts_nil) (fun _ _ _ _ _ => (e_callB c_abs (a_cons (e_v 10) a_nil) (hm := hm_abs))))) a_nil) (hm := hm_max)) (e_2 o_mul e_int (e_v 1)))
    (ss_one (s_ret (e_c h__law_unlike hr hg (as_cons (e_v 4) (as_cons (e_v 5) as_nil)) (len_cons (len_cons len_nil)))))
    ss_nil)
    (ss_cons (s_if (t_cmp (o_eq hr.units) (e_v 3) e_int)
    (ss_one (s_ret (e_c h__law_unlike hr hg (as_cons (e_tup (as_cons (e_v 8) (as_cons (e_v 9) as_nil))) (as_cons (e_v 5) as_nil)) (len_cons (len_cons len_nil)))))
    ss_nil)
    (ss_cons (s_if (t_cmp (o_eq hr.units) (e_v 3) e_int)
    (ss_one (s_ret (e_c h__law_unlike hr hg (as_cons (e_v 4) (as_cons (e_tup (as_cons (e_2 o_sub (e_2 o_add (e_v 6) (e_v 8)) (e_ix x_ix (e_v 4) e_int)) (as_cons (e_2 o_sub (e_2 o_add (e_v 7) (e_v 9)) (e_ix x_ix (e_v 4) e_int)) as_nil))) as_nil)) (len_cons (len_cons len_nil)))))
    ss_nil)
    (ss_cons (s_if (t_cmp (o_eq hr.units) (e_v 3) e_int)
    (ss_one (s_ret (e_tup (as_cons (e_tup (as_cons (e_v 8) (as_cons (e_v 9) as_nil))) (as_cons (e_tup (as_cons (e_2 o_sub (e_2 o_mul e_int (e_v 8)) (e_v 6)) (as_cons (e_2 o_sub (e_2 o_mul e_int (e_v 9)) (e_v 7)) as_nil))) as_nil)))))
    ss_nil)
    (ss_one (s_ret (e_ix x_ix (e_sh (e_lstO (as_cons (e_tup (as_cons (e_tup (as_cons (e_v 6) (as_cons (e_v 7) as_nil))) (as_cons (e_tup (as_cons (e_v 8) (as_cons (e_v 9) as_nil))) as_nil))) (as_cons (e_tup (as_cons (e_tup (as_cons (e_v 8) (as_cons (e_v 9) as_nil))) (as_cons (e_tup (as_cons (e_v 6) (as_cons (e_v 7) as_nil))) as_nil))) (as_cons (e_tup (as_cons (e_tup (as_cons (e_v 6) (as_cons (e_v 7) as_nil))) (as_cons (e_tup (as_cons (e_2 o_sub (e_2 o_mul e_int (e_v 8)) (e_v 6)) (as_cons (e_2 o_sub (e_2 o_mul e_int (e_v 9)) (e_v 7)) as_nil))) as_nil))) as_nil))))) (e_cF h__law_draw hr hg (ag_io 0 (ag_e e_int ag_nil)))))))))))))))
abbrev s__law_lines : Stmt := topS 27
theorem sc__law_lines : FnScope ["_law_deck_here", "_law_grain_here", "_law_many", "_law_lines_here", "_law_k"] ["_law_deck_here", "_law_grain_here", "_law_many"] (defScope s__law_lines) := ⟨rfl, rfl, rfl, by decide +kernel, rfl, by decide +kernel, by decide +kernel⟩
def ty__law_lines : Nat → OT := fun i => if i = 0 then .ol (.ol .sh .sh) .sh else if i = 3 then .ol .sh .sh else .sh
noncomputable def B__law_lines : MS := (sSeq (sAsg (pN 3) (mN bLst mNil)) (sSeq (sFor (pN 4) (mItN range1 (mCons (mV 2) mNil)) (sExp (mApp 3 (mBor ty__law_lines 3 (mCall F__law_line (.io 0 :: (.e (mV 1) :: (.e (mV 3) :: [])))))))) (sRet (mN bTuple (mCons (mV 3) mNil)))))
noncomputable def F__law_lines : Fn := runF [.ol (.ol .sh .sh) .sh, .sh, .sh] 2 B__law_lines
theorem ok__law_lines (t : TxF K mg "_law_lines" s__law_lines ["_law_deck_here", "_law_grain_here", "_law_many"]) (h__law_line : CalF P w K mg base 3 "_law_line" [.ol (.ol .sh .sh) .sh, .sh, .sh] (.sh) F__law_line) (hm_range : mg "range" = none) (hm_tuple : mg "tuple" = none) : CalF P w K mg base 4 "_law_lines" [.ol (.ol .sh .sh) .sh, .sh, .sh] (.sh) F__law_lines := by
  obtain ⟨f, fd, Fu, bd, hm⟩ := t
  refine ⟨f, fd, _, ok_d (ts := [.ol (.ol .sh .sh) .sh, .sh, .sh]) (nl := 2) (F := ⟨ty__law_lines, fun i => i == 0, .sh⟩) (b := B__law_lines) Fu sc__law_lines (τs_ok _ _ (by decide)) (fx_ok _ _ (by decide)) rfl rfl (.inl rfl) ?_, Fu.kp, bd, hm⟩
  intro cdv A outer s H E hr hg
  exact (ss_cons (s_setO 3 sc__law_lines.nd (e_lstO as_nil))
    (ss_cons (s_for (i_range1 (a_cons (e_v 2) a_nil) (hm := hm_range)) (g_n 4 sc__law_lines.nd)
    (ss_one (s_exp (e_pk (e_app 3 (as_cons (e_bor 3 (e_cF h__law_line hr hg (ag_io 0 (ag_e (e_v 1) (ag_e (e_v 3) ag_nil))))) as_nil))))))
    (ss_one (s_ret (e_callTy c_tuple (a_cons (e_vp 3) a_nil) (hm := hm_tuple))))))
abbrev s__law_moved : Stmt := topS 28
theorem sc__law_moved : FnScope ["_law_lines_here", "_law_dx", "_law_dy", "_law_x", "_law_y", "_law_u", "_law_v"] ["_law_lines_here", "_law_dx", "_law_dy"] (defScope s__law_moved) := ⟨rfl, rfl, rfl, by decide +kernel, rfl, by decide +kernel, by decide +kernel⟩
def B__law_moved : MS := (sRet (mN bTuple (mCons (mComp [3, 4, 5, 6] (pT 2 (psC (pT 2 (psC (pN 3) (psC (pN 4) psN))) (psC (pT 2 (psC (pN 5) (psC (pN 6) psN))) psN))) (mIt (mV 0)) mYes (mN bTup (mCons (mN bTup (mCons (m2 bAdd (mV 3) (mV 1)) (mCons (m2 bAdd (mV 4) (mV 2)) mNil))) (mCons (mN bTup (mCons (m2 bAdd (mV 5) (mV 1)) (mCons (m2 bAdd (mV 6) (mV 2)) mNil))) mNil)))) mNil)))
def F__law_moved : List D → Res D := runP 4 B__law_moved
theorem ok__law_moved (t : TxF K mg "_law_moved" s__law_moved ["_law_lines_here", "_law_dx", "_law_dy"]) (hm_tuple : mg "tuple" = none) : CalP P w K mg base 1 "_law_moved" 3 (.sh) F__law_moved := by
  obtain ⟨f, fd, Fu, bd, hm⟩ := t
  refine ⟨f, fd, _, ok_p (n := 3) (nl := 4) (F := ⟨fun i => .sh, fun i => false, .sh⟩) (b := B__law_moved) Fu sc__law_moved (sh_ok _ _ (by decide)) rfl rfl (.inl rfl) ?_, Fu.kp, bd, hm⟩
  intro cdv A outer s H E hr hg
  exact (ss_one (s_ret (e_callTy c_tuple (a_cons (e_sh (e_lcO (own' := [("_law_x", 3), ("_law_y", 4), ("_law_u", 5), ("_law_v", 6)]) (vs := [3, 4, 5, 6]) sc__law_moved.nd (blkOk_by (by kernel_rfl)) (i_any (e_v 0)) (fun _ _ _ _ _ => (g_t (gs_cons (g_t (gs_cons (g_n 3 sc__law_moved.nd) (gs_cons (g_n 4 sc__law_moved.nd) gs_nil))) (gs_cons (g_t (gs_cons (g_n 5 sc__law_moved.nd) (gs_cons (g_n 6 sc__law_moved.nd) gs_nil))) gs_nil)))) (fun _ _ _ _ _ => ts_nil) (fun _ _ _ _ _ => (e_tup (as_cons (e_tup (as_cons (e_2 o_add (e_v 3) (e_v 1)) (as_cons (e_2 o_add (e_v 4) (e_v 2)) as_nil))) (as_cons (e_tup (as_cons (e_2 o_add (e_v 5) (e_v 1)) (as_cons (e_2 o_add (e_v 6) (e_v 2)) as_nil))) as_nil)))))) a_nil) (hm := hm_tuple))))
abbrev s__law_nearest : Stmt := topS 29
theorem sc__law_nearest : FnScope ["_law_grain_here", "_law_spot", "_law_n", "_law_m", "_law_d"] ["_law_grain_here", "_law_spot"] (defScope s__law_nearest) := ⟨rfl, rfl, rfl, by decide +kernel, rfl, by decide +kernel, by decide +kernel⟩
def B__law_nearest : MS := (sSeq (sAsg (pT 3 (psC (pN 2) (psC (pN 3) (psC (pN 4) psN)))) (mV 1)) (sRet (mN bTup (mCons (m2 bDiv (m2 bAdd (m2 bMul (mC (.int 2)) (mV 2)) (m2 bMul (mV 0) (mV 4))) (m2 bMul (m2 bMul (mC (.int 2)) (mV 0)) (mV 4))) (mCons (m2 bDiv (m2 bAdd (m2 bMul (mC (.int 2)) (mV 3)) (m2 bMul (mV 0) (mV 4))) (m2 bMul (m2 bMul (mC (.int 2)) (mV 0)) (mV 4))) mNil)))))
def F__law_nearest : List D → Res D := runP 3 B__law_nearest
theorem ok__law_nearest (t : TxF K mg "_law_nearest" s__law_nearest ["_law_grain_here", "_law_spot"]) : CalP P w K mg base 1 "_law_nearest" 2 (.sh) F__law_nearest := by
  obtain ⟨f, fd, Fu, bd, hm⟩ := t
  refine ⟨f, fd, _, ok_p (n := 2) (nl := 3) (F := ⟨fun i => .sh, fun i => false, .sh⟩) (b := B__law_nearest) Fu sc__law_nearest (sh_ok _ _ (by decide)) rfl rfl (.inl rfl) ?_, Fu.kp, bd, hm⟩
  intro cdv A outer s H E hr hg
  exact (ss_cons (s_asg (e_v 1) (g_t (gs_cons (g_n 2 sc__law_nearest.nd) (gs_cons (g_n 3 sc__law_nearest.nd) (gs_cons (g_n 4 sc__law_nearest.nd) gs_nil)))))
    (ss_one (s_ret (e_tup (as_cons (e_2 o_div (e_2 o_add (e_2 o_mul e_int (e_v 2)) (e_2 o_mul (e_v 0) (e_v 4))) (e_2 o_mul (e_2 o_mul e_int (e_v 0)) (e_v 4))) (as_cons (e_2 o_div (e_2 o_add (e_2 o_mul e_int (e_v 3)) (e_2 o_mul (e_v 0) (e_v 4))) (e_2 o_mul (e_2 o_mul e_int (e_v 0)) (e_v 4))) as_nil))))))
abbrev s__law_far : Stmt := topS 30
theorem sc__law_far : FnScope ["_law_deck_here", "_law_any_one"] ["_law_deck_here"] (defScope s__law_far) := ⟨rfl, rfl, rfl, by decide +kernel, rfl, by decide +kernel, by decide +kernel⟩
def B__law_far : MS := (sSeq (sAsg (pN 1) (m2 bSub (mCall F__law_draw (.io 0 :: (.e (m2 bAdd (m2 bMul (mC (.int 2)) (m2 bPow (mC (.int 10)) (mC (.int 6)))) (mC (.int 1))) :: []))) (m2 bPow (mC (.int 10)) (mC (.int 6))))) (sRet (m2 bIx (mN bLst (mCons (m2 bPow (mC (.int 10)) (mC (.int 6))) (mCons (m1 bNeg (m2 bPow (mC (.int 10)) (mC (.int 6)))) (mCons (mV 1) (mCons (mV 1) mNil))))) (mCall F__law_draw (.io 0 :: (.e (mC (.int 4)) :: []))))))
def F__law_far : Fn := runF [.ol (.ol .sh .sh) .sh] 1 B__law_far
theorem ok__law_far (t : TxF K mg "_law_far" s__law_far ["_law_deck_here"]) (h__law_draw : CalF P w K mg base 1 "_law_draw" [.ol (.ol .sh .sh) .sh, .sh] (.sh) F__law_draw) : CalF P w K mg base 2 "_law_far" [.ol (.ol .sh .sh) .sh] (.sh) F__law_far := by
  obtain ⟨f, fd, Fu, bd, hm⟩ := t
  refine ⟨f, fd, _, ok_d (ts := [.ol (.ol .sh .sh) .sh]) (nl := 1) (F := ⟨fun i => if i = 0 then .ol (.ol .sh .sh) .sh else .sh, fun i => i == 0, .sh⟩) (b := B__law_far) Fu sc__law_far (τs_ok _ _ (by decide)) (fx_ok _ _ (by decide)) rfl rfl (.inl rfl) ?_, Fu.kp, bd, hm⟩
  intro cdv A outer s H E hr hg
  exact (ss_cons (s_set 1 sc__law_far.nd (e_2 o_sub (e_cF h__law_draw hr hg (ag_io 0 (ag_e (e_2 o_add (e_2 o_mul e_int (e_2 o_pow e_int e_int)) e_int) ag_nil))) (e_2 o_pow e_int e_int)))
    (ss_one (s_ret (e_ix x_ix (e_sh (e_lstO (as_cons (e_2 o_pow e_int e_int) (as_cons (e_1 u_neg (e_2 o_pow e_int e_int)) (as_cons (e_v 1) (as_cons (e_v 1) as_nil)))))) (e_cF h__law_draw hr hg (ag_io 0 (ag_e e_int ag_nil)))))))
abbrev s__law_some_line : Stmt := topS 31
theorem sc__law_some_line : FnScope ["_law_deck_here", "_law_grain_here", "_law_far_here", "_law_by", "_law_lines_here", "_law_one", "_law_other", "_law_k"] ["_law_deck_here", "_law_grain_here"] (defScope s__law_some_line) := ⟨rfl, rfl, rfl, by decide +kernel, rfl, by decide +kernel, by decide +kernel⟩
noncomputable def B__law_some_line : MS := (sSeq (sAsg (pN 2) (m2 bEq (mCall F__law_draw (.io 0 :: (.e (mC (.int 8)) :: []))) (mC (.int 5)))) (sSeq (sAsg (pN 3) (mComp [7] (pN 7) (mItN range1 (mCons (mC (.int 2)) mNil)) mYes (m2 bSub (mCall F__law_draw (.io 0 :: (.e (mC (.int 9)) :: []))) (mC (.int 4))))) (sSeq (sAsg (pN 4) (mCall F__law_lines (.io 0 :: (.e (mV 1) :: (.e (m2 bAdd (mC (.int 1)) (mCall F__law_draw (.io 0 :: (.e (mC (.int 3)) :: [])))) :: []))))) (sSeq (sIf (mV 2) (sSeq (sAsg (pT 2 (psC (pN 5) (psC (pN 6) psN))) (mComp [7] (pN 7) (mItN range1 (mCons (mC (.int 2)) mNil)) mYes (mN bTup (mCons (mCall F__law_far (.io 0 :: [])) (mCons (mCall F__law_far (.io 0 :: [])) mNil))))) (sRet (mN bTup (mCons (mV 5) (mCons (m2 bIx (mN bLst (mCons (mV 6) (mCons (mN bTup (mCons (m2 bAdd (m2 bIx (mV 5) (mC (.int 0))) (m2 bIx (mN bLst (mCons (m1 bNeg (mC (.int 1))) (mCons (mC (.int 1)) mNil))) (mN bInt (mCons (m2 bLt (m2 bIx (mV 5) (mC (.int 0))) (mC (.int 0))) mNil)))) (mCons (m2 bIx (mV 5) (mC (.int 1))) mNil))) mNil))) (mN bInt (mCons (m2 bEq (mV 5) (mV 6)) mNil))) mNil))))) (sK .nx)) (sRet (m2 bIx (mCallP F__law_moved (mCons (mSl (mV 4) (some (m1 bNeg (mC (.int 1)))) none) (mCons (m2 bIx (mV 3) (mC (.int 0))) (mCons (m2 bIx (mV 3) (mC (.int 1))) mNil)))) (mC (.int 0))))))))
noncomputable def F__law_some_line : Fn := runF [.ol (.ol .sh .sh) .sh, .sh] 6 B__law_some_line
theorem ok__law_some_line (t : TxF K mg "_law_some_line" s__law_some_line ["_law_deck_here", "_law_grain_here"]) (h__law_lines : CalF P w K mg base 4 "_law_lines" [.ol (.ol .sh .sh) .sh, .sh, .sh] (.sh) F__law_lines) (h__law_draw : CalF P w K mg base 1 "_law_draw" [.ol (.ol .sh .sh) .sh, .sh] (.sh) F__law_draw) (h__law_moved : CalP P w K mg base 1 "_law_moved" 3 (.sh) F__law_moved) (h__law_far : CalF P w K mg base 2 "_law_far" [.ol (.ol .sh .sh) .sh] (.sh) F__law_far) (hm_int : mg "int" = none) (hm_range : mg "range" = none) : CalF P w K mg base 5 "_law_some_line" [.ol (.ol .sh .sh) .sh, .sh] (.sh) F__law_some_line := by
  obtain ⟨f, fd, Fu, bd, hm⟩ := t
  refine ⟨f, fd, _, ok_d (ts := [.ol (.ol .sh .sh) .sh, .sh]) (nl := 6) (F := ⟨fun i => if i = 0 then .ol (.ol .sh .sh) .sh else .sh, fun i => i == 0, .sh⟩) (b := B__law_some_line) Fu sc__law_some_line (τs_ok _ _ (by decide)) (fx_ok _ _ (by decide)) rfl rfl (.inl rfl) ?_, Fu.kp, bd, hm⟩
  intro cdv A outer s H E hr hg
  exact (ss_cons (s_set 2 sc__law_some_line.nd (e_cmp (o_eq hr.units) (e_cF h__law_draw hr hg (ag_io 0 (ag_e e_int ag_nil))) e_int))
    (ss_cons (s_lc 3 (own' := [("_law_k", 7)]) (vs := [7]) sc__law_some_line.nd (blkOk_by (by kernel_rfl)) (i_range1 (a_cons e_int a_nil) (hm := hm_range)) (fun _ _ _ _ _ => (g_n 7 sc__law_some_line.nd)) (fun _ _ _ _ _ => ts_nil) (fun _ _ _ _ _ => (e_2 o_sub (e_cF h__law_draw hr hg (ag_io 0 (ag_e e_int ag_nil))) e_int)) (sw_true rfl rfl rfl (by decide +kernel)))
    (ss_cons (s_set 4 sc__law_some_line.nd (e_cF h__law_lines hr hg (ag_io 0 (ag_e (e_v 1) (ag_e (e_2 o_add e_int (e_cF h__law_draw hr hg (ag_io 0 (ag_e e_int ag_nil)))) ag_nil)))))
    (ss_cons (s_if (t_val (e_v 2))
    (ss_cons (s_asg (e_sh (e_lcO (own' := [("_law_k", 7)]) (vs := [7]) sc__law_some_line.nd (blkOk_by (by kernel_rfl)) (i_range1 (a_cons e_int a_nil) (hm := hm_range)) (fun _ _ _ _ _ => (g_n 7 sc__law_some_line.nd)) (fun _ _ _ _ _ => ts_nil) (fun _ _ _ _ _ => (e_tup (as_cons (e_cF h__law_far hr hg (ag_io 0 ag_nil)) (as_cons (e_cF h__law_far hr hg (ag_io 0 ag_nil)) as_nil)))))) (g_t (gs_cons (g_n 5 sc__law_some_line.nd) (gs_cons (g_n 6 sc__law_some_line.nd) gs_nil))))
    (ss_one (s_ret (e_tup (as_cons (e_v 5) (as_cons (e_ix x_ix (e_sh (e_lstO (as_cons (e_v 6) (as_cons (e_tup (as_cons (e_2 o_add (e_ix x_ix (e_v 5) e_int) (e_ix x_ix (e_sh (e_lstO (as_cons (e_1 u_neg e_int) (as_cons e_int as_nil)))) (e_callTy c_int (a_cons (e_cmp o_lt (e_ix x_ix (e_v 5) e_int) e_int) a_nil) (hm := hm_int)))) (as_cons (e_ix x_ix (e_v 5) e_int) as_nil))) as_nil)))) (e_callTy c_int (a_cons (e_cmp (o_eq hr.units) (e_v 5) (e_v 6)) a_nil) (hm := hm_int))) as_nil))))))
    ss_nil)
    (ss_one (s_ret (e_ix x_ix (e_c h__law_moved hr hg (as_cons (e_sl (e_v 4) (po_s (e_1 u_neg e_int)) po_n) (as_cons (e_ix x_ix (e_v 3) e_int) (as_cons (e_ix x_ix (e_v 3) e_int) as_nil))) (len_cons (len_cons (len_cons len_nil)))) e_int)))))))
abbrev s__law_near : Stmt := topS 32
theorem sc__law_near : FnScope ["_law_deck_here", "_law_grain_here", "_law_line_here", "_law_x", "_law_y", "_law_u", "_law_v", "_law_k", "_law_i", "_law_j"] ["_law_deck_here", "_law_grain_here", "_law_line_here"] (defScope s__law_near) := ⟨rfl, rfl, rfl, by decide +kernel, rfl, by decide +kernel, by decide +kernel⟩
def B__law_near : MS := (sSeq (sAsg (pT 2 (psC (pT 2 (psC (pN 3) (psC (pN 4) psN))) (psC (pT 2 (psC (pN 5) (psC (pN 6) psN))) psN))) (mV 2)) (sSeq (sAsg (pN 7) (mCall F__law_draw (.io 0 :: (.e (mC (.int 17)) :: [])))) (sSeq (sAsg (pT 2 (psC (pN 8) (psC (pN 9) psN))) (mCallP F__law_nearest (mCons (mV 1) (mCons (mN bTup (mCons (m2 bAdd (m2 bMul (mV 3) (m2 bSub (mC (.int 16)) (mV 7))) (m2 bMul (mV 5) (mV 7))) (mCons (m2 bAdd (m2 bMul (mV 4) (m2 bSub (mC (.int 16)) (mV 7))) (m2 bMul (mV 6) (mV 7))) (mCons (mC (.int 16)) mNil)))) mNil)))) (sSeq (sPar 8 9 (mCons (m2 bSub (m2 bAdd (mV 8) (mCall F__law_draw (.io 0 :: (.e (mC (.int 3)) :: [])))) (mC (.int 1))) (mCons (m2 bSub (m2 bAdd (mV 9) (mCall F__law_draw (.io 0 :: (.e (mC (.int 3)) :: [])))) (mC (.int 1))) mNil))) (sRet (mN bTup (mCons (mN bMax2 (mCons (m1 bNeg (m2 bPow (mC (.int 10)) (mC (.int 6)))) (mCons (mN bMin2 (mCons (m2 bPow (mC (.int 10)) (mC (.int 6))) (mCons (mV 8) mNil))) mNil))) (mCons (mN bMax2 (mCons (m1 bNeg (m2 bPow (mC (.int 10)) (mC (.int 6)))) (mCons (mN bMin2 (mCons (m2 bPow (mC (.int 10)) (mC (.int 6))) (mCons (mV 9) mNil))) mNil))) mNil))))))))
def F__law_near : Fn := runF [.ol (.ol .sh .sh) .sh, .sh, .sh] 7 B__law_near
theorem ok__law_near (t : TxF K mg "_law_near" s__law_near ["_law_deck_here", "_law_grain_here", "_law_line_here"]) (h__law_draw : CalF P w K mg base 1 "_law_draw" [.ol (.ol .sh .sh) .sh, .sh] (.sh) F__law_draw) (h__law_nearest : CalP P w K mg base 1 "_law_nearest" 2 (.sh) F__law_nearest) (hm_max : mg "max" = none) (hm_min : mg "min" = none) : CalF P w K mg base 2 "_law_near" [.ol (.ol .sh .sh) .sh, .sh, .sh] (.sh) F__law_near := by
  obtain ⟨f, fd, Fu, bd, hm⟩ := t
  refine ⟨f, fd, _, ok_d (ts := [.ol (.ol .sh .sh) .sh, .sh, .sh]) (nl := 7) (F := ⟨fun i => if i = 0 then .ol (.ol .sh .sh) .sh else .sh, fun i => i == 0, .sh⟩) (b := B__law_near) Fu sc__law_near (τs_ok _ _ (by decide)) (fx_ok _ _ (by decide)) rfl rfl (.inl rfl) ?_, Fu.kp, bd, hm⟩
  intro cdv A outer s H E hr hg
  exact (ss_cons (s_asg (e_v 2) (g_t (gs_cons (g_t (gs_cons (g_n 3 sc__law_near.nd) (gs_cons (g_n 4 sc__law_near.nd) gs_nil))) (gs_cons (g_t (gs_cons (g_n 5 sc__law_near.nd) (gs_cons (g_n 6 sc__law_near.nd) gs_nil))) gs_nil))))
    (ss_cons (s_set 7 sc__law_near.nd (e_cF h__law_draw hr hg (ag_io 0 (ag_e e_int ag_nil))))
    (ss_cons (s_asg (e_c h__law_nearest hr hg (as_cons (e_v 1) (as_cons (e_tup (as_cons (e_2 o_add (e_2 o_mul (e_v 3) (e_2 o_sub e_int (e_v 7))) (e_2 o_mul (e_v 5) (e_v 7))) (as_cons (e_2 o_add (e_2 o_mul (e_v 4) (e_2 o_sub e_int (e_v 7))) (e_2 o_mul (e_v 6) (e_v 7))) (as_cons e_int as_nil)))) as_nil)) (len_cons (len_cons len_nil))) (g_t (gs_cons (g_n 8 sc__law_near.nd) (gs_cons (g_n 9 sc__law_near.nd) gs_nil))))
    (ss_cons (s_par 8 9 sc__law_near.nd (as_cons (e_2 o_sub (e_2 o_add (e_v 8) (e_cF h__law_draw hr hg (ag_io 0 (ag_e e_int ag_nil)))) e_int) (as_cons (e_2 o_sub (e_2 o_add (e_v 9) (e_cF h__law_draw hr hg (ag_io 0 (ag_e e_int ag_nil)))) e_int) as_nil)))
    (ss_one (s_ret (e_tup (as_cons (e_callB (c_max2 rfl) (a_cons (e_1 u_neg (e_2 o_pow e_int e_int)) (a_cons (e_callB (c_min2 rfl) (a_cons (e_2 o_pow e_int e_int) (a_cons (e_v 8) a_nil)) (hm := hm_min)) a_nil)) (hm := hm_max)) (as_cons (e_callB (c_max2 rfl) (a_cons (e_1 u_neg (e_2 o_pow e_int e_int)) (a_cons (e_callB (c_min2 rfl) (a_cons (e_2 o_pow e_int e_int) (a_cons (e_v 9) a_nil)) (hm := hm_min)) a_nil)) (hm := hm_max)) as_nil)))))))))
abbrev s__law_is_whole : Stmt := topS 33
theorem sc__law_is_whole : FnScope ["_law_thing"] ["_law_thing"] (defScope s__law_is_whole) := ⟨rfl, rfl, rfl, by decide +kernel, rfl, by decide +kernel, by decide +kernel⟩
def B__law_is_whole : MS := (sRet (mAnd (m1 (bIsi "int") (mV 0)) (m1 bNot (m1 (bIsi "bool") (mV 0)))))
def F__law_is_whole : List D → Res D := runP 0 B__law_is_whole
theorem ok__law_is_whole (t : TxF K mg "_law_is_whole" s__law_is_whole ["_law_thing"]) (hm_bool : mg "bool" = none) (hm_int : mg "int" = none) (hm_isinstance : mg "isinstance" = none) : CalP P w K mg base 1 "_law_is_whole" 1 (.sh) F__law_is_whole := by
  obtain ⟨f, fd, Fu, bd, hm⟩ := t
  refine ⟨f, fd, _, ok_p (n := 1) (nl := 0) (F := ⟨fun i => .sh, fun i => false, .sh⟩) (b := B__law_is_whole) Fu sc__law_is_whole (sh_ok _ _ (by decide)) rfl rfl (.inl rfl) ?_, Fu.kp, bd, hm⟩
  intro cdv A outer s H E hr hg
  exact (ss_one (s_ret (e_and (e_isi_int (e_v 0) hm_isinstance hm_int) (e_one (e_not (e_isi_bool (e_v 0) hm_isinstance hm_bool))))))
abbrev s__law_is_paper : Stmt := topS 34
theorem sc__law_is_paper : FnScope ["_law_grain_here", "_law_line_here", "_law_corner", "_law_thing", "_law_sides", "_law_k", "_law_m", "_law_at", "_law_inside", "_law_word", "_law_p", "_law_q", "_law_r", "_law_most", "_law_one", "_law_a", "_law_b", "_law_side", "_law_x", "_law_y"] ["_law_grain_here", "_law_line_here", "_law_corner", "_law_thing"] (defScope s__law_is_paper) := ⟨rfl, rfl, rfl, by decide +kernel, rfl, by decide +kernel, by decide +kernel⟩
def B__law_is_paper : MS := (sSeq (sIf (mOr (m1 bNot (m1 (bIsi "tuple") (mV 3))) (mOr (m2 bEq (mV 3) (mN bTup mNil)) (m1 bNot (m1 (bIsi "str") (m2 bIx (mV 3) (mC (.int 0))))))) (sRet (mC (.bl false))) (sK .nx)) (sSeq (sIf (m2 bNe (mComp [14] (pN 14) (mIt (mSl (mV 3) (some (mC (.int 1))) none)) (m1 bNot (mCallP F__law_is_whole (mCons (mV 14) mNil))) (mV 14)) (mN bLst mNil)) (sRet (mC (.bl false))) (sK .nx)) (sSeq (sAsg (pN 4) (mComp [5] (pN 5) (mIt (mV 2)) mYes (mN bTup (mCons (m2 bMul (m2 bSub (m2 bMul (mC (.int 2)) (mV 5)) (mC (.int 1))) (mV 0)) (mCons (m2 bMul (m2 bAdd (m2 bMul (mC (.int 2)) (mV 5)) (mC (.int 1))) (mV 0)) mNil))))) (sSeq (sIf (mAnd (m2 bEq (m2 bIx (mV 3) (mC (.int 0))) (mC (.str "meets"))) (m2 bEq (mN bLen (mCons (mV 3) mNil)) (mC (.int 3)))) (sSeq (sAsg (pT 2 (psC (pN 5) (psC (pN 6) psN))) (mSl (mV 3) (some (mC (.int 1))) none)) (sSeq (sAsg (pN 7) (mComp [15, 16] (pT 2 (psC (pN 15) (psC (pN 16) psN))) (mItN zip2 (mCons (m2 bIx (mV 1) (mC (.int 0))) (mCons (m2 bIx (mV 1) (mC (.int 1))) mNil))) mYes (m2 bAdd (m2 bMul (m2 bMul (mC (.int 2)) (mV 15)) (mV 6)) (m2 bMul (m2 bMul (mC (.int 2)) (m2 bSub (mV 16) (mV 15))) (mV 5))))) (sSeq (sAsg (pN 8) (mComp [14, 17] (pT 2 (psC (pN 14) (psC (pN 17) psN))) (mItN zip2 (mCons (mV 7) (mCons (mV 4) mNil))) mYes (mChain bLe bLt (m2 bMul (m2 bIx (mV 17) (mC (.int 0))) (mV 6)) (mV 14) (m2 bMul (m2 bIx (mV 17) (mC (.int 1))) (mV 6))))) (sRet (mAnd (m2 bGt (mV 6) (mC (.int 0))) (mAnd (mChain bLe bLe (mC (.int 0)) (mV 5) (mV 6)) (m2 bEq (mV 8) (mN bLst (mCons (mC (.bl true)) (mCons (mC (.bl true)) mNil)))))))))) (sK .nx)) (sSeq (sIf (mOr (m2 bNe (m2 bIx (mV 3) (mC (.int 0))) (mC (.str "misses"))) (mOr (m2 bNe (mN bLen (mCons (mV 3) mNil)) (mC (.int 4))) (mAnd (m2 bEq (m2 bIx (mV 3) (mC (.int 1))) (mC (.int 0))) (m2 bEq (m2 bIx (mV 3) (mC (.int 2))) (mC (.int 0)))))) (sRet (mC (.bl false))) (sK .nx)) (sSeq (sAsg (pT 4 (psC (pN 9) (psC (pN 10) (psC (pN 11) (psC (pN 12) psN))))) (mV 3)) (sSeq (sIf (m2 bNe (mComp [18, 19] (pT 2 (psC (pN 18) (psC (pN 19) psN))) (mIt (mV 1)) (m2 bLt (m2 bAdd (m2 bMul (m2 bMul (mC (.int 2)) (mV 10)) (mV 18)) (m2 bMul (m2 bMul (mC (.int 2)) (mV 11)) (mV 19))) (mV 12)) (mC (.int 1))) (mN bLst mNil)) (sRet (mC (.bl false))) (sK .nx)) (sSeq (sAsg (pN 13) (m2 bAdd (m2 bMul (mV 10) (m2 bIx (m2 bIx (mV 4) (mC (.int 0))) (mN bInt (mCons (m2 bGt (mV 10) (mC (.int 0))) mNil)))) (m2 bMul (mV 11) (m2 bIx (m2 bIx (mV 4) (mC (.int 1))) (mN bInt (mCons (m2 bGt (mV 11) (mC (.int 0))) mNil)))))) (sRet (mOr (m2 bLt (mV 13) (mV 12)) (mAnd (m2 bEq (mV 13) (mV 12)) (mOr (m2 bGt (mV 10) (mC (.int 0))) (m2 bGt (mV 11) (mC (.int 0)))))))))))))))
def F__law_is_paper : List D → Res D := runP 16 B__law_is_paper
theorem ok__law_is_paper (t : TxF K mg "_law_is_paper" s__law_is_paper ["_law_grain_here", "_law_line_here", "_law_corner", "_law_thing"]) (h__law_is_whole : CalP P w K mg base 1 "_law_is_whole" 1 (.sh) F__law_is_whole) (hm_int : mg "int" = none) (hm_isinstance : mg "isinstance" = none) (hm_len : mg "len" = none) (hm_str : mg "str" = none) (hm_tuple : mg "tuple" = none) (hm_zip : mg "zip" = none) : CalP P w K mg base 2 "_law_is_paper" 4 (.sh) F__law_is_paper := by
  obtain ⟨f, fd, Fu, bd, hm⟩ := t
  refine ⟨f, fd, _, ok_p (n := 4) (nl := 16) (F := ⟨fun i => .sh, fun i => false, .sh⟩) (b := B__law_is_paper) Fu sc__law_is_paper (sh_ok _ _ (by decide)) rfl rfl (.inl rfl) ?_, Fu.kp, bd, hm⟩
  intro cdv A outer s H E hr hg
  exact (ss_cons (s_if (w_or (t_not (t_val (e_isi_tuple (e_v 3) hm_isinstance hm_tuple))) (w_or (t_cmp (o_eq hr.units) (e_v 3) (e_tup as_nil)) (w_or1 (t_not (t_val (e_isi_str (e_ix x_ix (e_v 3) e_int) hm_isinstance hm_str)))))).pt
    (ss_one (s_ret e_bl))
    ss_nil)
    (ss_cons (s_if (t_cmp (o_ne hr.units) (e_sh (e_lcO (own' := [("_law_one", 14)]) (vs := [14]) sc__law_is_paper.nd (blkOk_by (by kernel_rfl)) (i_any (e_sl (e_v 3) (po_s e_int) po_n)) (fun _ _ _ _ _ => (g_n 14 sc__law_is_paper.nd)) (fun _ _ _ _ _ => (ts_one (t_not (t_val (e_c h__law_is_whole hr hg (as_cons (e_v 14) as_nil) (len_cons len_nil)))))) (fun _ _ _ _ _ => (e_v 14)))) (e_sh (e_lstO as_nil)))
    (ss_one (s_ret e_bl))
    ss_nil)
    (ss_cons (s_lc 4 (own' := [("_law_k", 5)]) (vs := [5]) sc__law_is_paper.nd (blkOk_by (by kernel_rfl)) (i_any (e_v 2)) (fun _ _ _ _ _ => (g_n 5 sc__law_is_paper.nd)) (fun _ _ _ _ _ => ts_nil) (fun _ _ _ _ _ => (e_tup (as_cons (e_2 o_mul (e_2 o_sub (e_2 o_mul e_int (e_v 5)) e_int) (e_v 0)) (as_cons (e_2 o_mul (e_2 o_add (e_2 o_mul e_int (e_v 5)) e_int) (e_v 0)) as_nil)))) (sw_true rfl rfl rfl (by decide +kernel)))
    (ss_cons (s_if (w_and (t_cmp (o_eq hr.units) (e_ix x_ix (e_v 3) e_int) e_str) (w_and1 (t_cmp (o_eq hr.units) (e_callB c_len (a_cons (e_v 3) a_nil) (hm := hm_len)) e_int))).pt
    (ss_cons (s_asg (e_sl (e_v 3) (po_s e_int) po_n) (g_t (gs_cons (g_n 5 sc__law_is_paper.nd) (gs_cons (g_n 6 sc__law_is_paper.nd) gs_nil))))
    (ss_cons (s_lc 7 (own' := [("_law_a", 15), ("_law_b", 16)]) (vs := [15, 16]) sc__law_is_paper.nd (blkOk_by (by kernel_rfl)) (i_zip2 (as_cons (e_ix x_ix (e_v 1) e_int) (as_cons (e_ix x_ix (e_v 1) e_int) as_nil)) (hm := hm_zip)) (fun _ _ _ _ _ => (g_t (gs_cons (g_n 15 sc__law_is_paper.nd) (gs_cons (g_n 16 sc__law_is_paper.nd) gs_nil)))) (fun _ _ _ _ _ => ts_nil) (fun _ _ _ _ _ => (e_2 o_add (e_2 o_mul (e_2 o_mul e_int (e_v 15)) (e_v 6)) (e_2 o_mul (e_2 o_mul e_int (e_2 o_sub (e_v 16) (e_v 15))) (e_v 5)))) (sw_true rfl rfl rfl (by decide +kernel)))
    (ss_cons (s_lc 8 (own' := [("_law_one", 14), ("_law_side", 17)]) (vs := [14, 17]) sc__law_is_paper.nd (blkOk_by (by kernel_rfl)) (i_zip2 (as_cons (e_v 7) (as_cons (e_v 4) as_nil)) (hm := hm_zip)) (fun _ _ _ _ _ => (g_t (gs_cons (g_n 14 sc__law_is_paper.nd) (gs_cons (g_n 17 sc__law_is_paper.nd) gs_nil)))) (fun _ _ _ _ _ => ts_nil) (fun _ _ _ _ _ => (e_chain o_le o_lt (e_2 o_mul (e_ix x_ix (e_v 17) e_int) (e_v 6)) (e_v 14) (e_2 o_mul (e_ix x_ix (e_v 17) e_int) (e_v 6)))) (sw_true rfl rfl rfl (by decide +kernel)))
    (ss_one (s_ret (e_and (e_cmp o_gt (e_v 6) e_int) (e_and (e_chain o_le o_le e_int (e_v 5) (e_v 6)) (e_one (e_cmp (o_eq hr.units) (e_v 8) (e_sh (e_lstO (as_cons e_bl (as_cons e_bl as_nil)))))))))))))
    ss_nil)
    (ss_cons (s_if (w_or (t_cmp (o_ne hr.units) (e_ix x_ix (e_v 3) e_int) e_str) (w_or (t_cmp (o_ne hr.units) (e_callB c_len (a_cons (e_v 3) a_nil) (hm := hm_len)) e_int) (w_or1 (w_and (t_cmp (o_eq hr.units) (e_ix x_ix (e_v 3) e_int) e_int) (w_and1 (t_cmp (o_eq hr.units) (e_ix x_ix (e_v 3) e_int) e_int))).pt))).pt
    (ss_one (s_ret e_bl))
    ss_nil)
    (ss_cons (s_asg (e_v 3) (g_t (gs_cons (g_n 9 sc__law_is_paper.nd) (gs_cons (g_n 10 sc__law_is_paper.nd) (gs_cons (g_n 11 sc__law_is_paper.nd) (gs_cons (g_n 12 sc__law_is_paper.nd) gs_nil))))))
    (ss_cons (s_if (t_cmp (o_ne hr.units) (e_sh (e_lcO (own' := [("_law_x", 18), ("_law_y", 19)]) (vs := [18, 19]) sc__law_is_paper.nd (blkOk_by (by kernel_rfl)) (i_any (e_v 1)) (fun _ _ _ _ _ => (g_t (gs_cons (g_n 18 sc__law_is_paper.nd) (gs_cons (g_n 19 sc__law_is_paper.nd) gs_nil)))) (fun _ _ _ _ _ => (ts_one (t_cmp o_lt (e_2 o_add (e_2 o_mul (e_2 o_mul e_int (e_v 10)) (e_v 18)) (e_2 o_mul (e_2 o_mul e_int (e_v 11)) (e_v 19))) (e_v 12)))) (fun _ _ _ _ _ => e_int))) (e_sh (e_lstO as_nil)))
    (ss_one (s_ret e_bl))
    ss_nil)
    (ss_cons (s_set 13 sc__law_is_paper.nd (e_2 o_add (e_2 o_mul (e_v 10) (e_ix x_ix (e_ix x_ix (e_v 4) e_int) (e_callTy c_int (a_cons (e_cmp o_gt (e_v 10) e_int) a_nil) (hm := hm_int)))) (e_2 o_mul (e_v 11) (e_ix x_ix (e_ix x_ix (e_v 4) e_int) (e_callTy c_int (a_cons (e_cmp o_gt (e_v 11) e_int) a_nil) (hm := hm_int))))))
    (ss_one (s_ret (e_or (e_cmp o_lt (e_v 13) (e_v 12)) (e_one (e_and (e_cmp (o_eq hr.units) (e_v 13) (e_v 12)) (e_one (e_or (e_cmp o_gt (e_v 10) e_int) (e_one (e_cmp o_gt (e_v 11) e_int)))))))))))))))))
abbrev s__law_spots : Stmt := topS 35
theorem sc__law_spots : FnScope ["_law_thing", "_law_found", "_law_k", "_law_spot"] ["_law_thing"] (defScope s__law_spots) := ⟨rfl, rfl, rfl, by decide +kernel, rfl, by decide +kernel, by decide +kernel⟩
def B__law_spots (R__law_spots : List D → Res D) : MS := (sSeq (sAsg (pN 1) (mN bLst (mCons (mN bTup mNil) mNil))) (sSeq (sIf (m1 (bIsi "tuple") (mV 0)) (sFor (pN 2) (mItN range1 (mCons (mN bLen (mCons (mV 0) mNil)) mNil)) (sExp (mExt 1 (mComp [3] (pN 3) (mIt (mCallP R__law_spots (mCons (m2 bIx (mV 0) (mV 2)) mNil))) mYes (m2 bAdd (mN bTup (mCons (mV 2) mNil)) (mV 3)))))) (sK .nx)) (sFz 1 (sRet (mV 1)))))
def R__law_spots : Nat → List D → Res D
  | 0 => fun _ => .bad
  | n + 1 => runP 3 (B__law_spots (R__law_spots n))
def F__law_spots : List D → Res D := R__law_spots 12
theorem ok__law_spots (t : TxF K mg "_law_spots" s__law_spots ["_law_thing"]) (hm_isinstance : mg "isinstance" = none) (hm_len : mg "len" = none) (hm_range : mg "range" = none) (hm_tuple : mg "tuple" = none) : CalP P w K mg base 13 "_law_spots" 1 (.sh) F__law_spots := by
  suffices hall : ∀ n, CalP P w K mg base (1 + n) "_law_spots" 1 (.sh) (R__law_spots n) from hall 12
  intro n
  induction n with
  | zero => exact cal_bad t
  | succ n h__law_spots =>
  obtain ⟨f, fd, Fu, bd, hm⟩ := t
  refine ⟨f, fd, _, ok_p (n := 1) (nl := 3) (F := ⟨fun i => if i = 1 then .ol .sh .sh else .sh, fun i => false, .sh⟩) (b := B__law_spots (R__law_spots n)) (k := 1 + n) Fu sc__law_spots (sh_ok _ _ (by decide)) rfl rfl (.inl rfl) ?_, Fu.kp, bd, hm⟩
  intro cdv A outer s H E hr hg
  exact (ss_cons (s_setO 1 sc__law_spots.nd (e_lstO (as_cons (e_tup as_nil) as_nil)))
    (ss_cons (s_if (t_val (e_isi_tuple (e_v 0) hm_isinstance hm_tuple))
    (ss_one (s_for (i_range1 (a_cons (e_callB c_len (a_cons (e_v 0) a_nil) (hm := hm_len)) a_nil) (hm := hm_range)) (g_n 2 sc__law_spots.nd)
    (ss_one (s_exp (e_pk (e_ext 1 (as_cons (e_sh (e_lcO (own' := [("_law_spot", 3)]) (vs := [3]) sc__law_spots.nd (blkOk_by (by kernel_rfl)) (i_any (e_c (hj := by omega) h__law_spots hr hg (as_cons (e_ix x_ix (e_v 0) (e_v 2)) as_nil) (len_cons len_nil))) (fun _ _ _ _ _ => (g_n 3 sc__law_spots.nd)) (fun _ _ _ _ _ => ts_nil) (fun _ _ _ _ _ => (e_2 o_add (e_tup (as_cons (e_v 2) as_nil)) (e_v 3))))) as_nil)))))))
    ss_nil)
    (ss_fz 1 rfl (ss_one (s_ret (e_v 1))))))
abbrev s__law_with : Stmt := topS 36
theorem sc__law_with : FnScope ["_law_thing", "_law_spot", "_law_part", "_law_k"] ["_law_thing", "_law_spot", "_law_part"] (defScope s__law_with) := ⟨rfl, rfl, rfl, by decide +kernel, rfl, by decide +kernel, by decide +kernel⟩
def B__law_with (R__law_with : List D → Res D) : MS := (sSeq (sIf (m2 bEq (mV 1) (mN bTup mNil)) (sRet (mV 2)) (sK .nx)) (sSeq (sAsg (pN 3) (m2 bIx (mV 1) (mC (.int 0)))) (sRet (m2 bAdd (m2 bAdd (mSl (mV 0) none (some (mV 3))) (mN bTup (mCons (mCallP R__law_with (mCons (m2 bIx (mV 0) (mV 3)) (mCons (mSl (mV 1) (some (mC (.int 1))) none) (mCons (mV 2) mNil)))) mNil))) (mSl (mV 0) (some (m2 bAdd (mV 3) (mC (.int 1)))) none)))))
def R__law_with : Nat → List D → Res D
  | 0 => fun _ => .bad
  | n + 1 => runP 1 (B__law_with (R__law_with n))
def F__law_with : List D → Res D := R__law_with 12
theorem ok__law_with (t : TxF K mg "_law_with" s__law_with ["_law_thing", "_law_spot", "_law_part"]) : CalP P w K mg base 13 "_law_with" 3 (.sh) F__law_with := by
  suffices hall : ∀ n, CalP P w K mg base (1 + n) "_law_with" 3 (.sh) (R__law_with n) from hall 12
  intro n
  induction n with
  | zero => exact cal_bad t
  | succ n h__law_with =>
  obtain ⟨f, fd, Fu, bd, hm⟩ := t
  refine ⟨f, fd, _, ok_p (n := 3) (nl := 1) (F := ⟨fun i => .sh, fun i => false, .sh⟩) (b := B__law_with (R__law_with n)) (k := 1 + n) Fu sc__law_with (sh_ok _ _ (by decide)) rfl rfl (.inl rfl) ?_, Fu.kp, bd, hm⟩
  intro cdv A outer s H E hr hg
  exact (ss_cons (s_if (t_cmp (o_eq hr.units) (e_v 1) (e_tup as_nil))
    (ss_one (s_ret (e_v 2)))
    ss_nil)
    (ss_cons (s_set 3 sc__law_with.nd (e_ix x_ix (e_v 1) e_int))
    (ss_one (s_ret (e_2 o_add (e_2 o_add (e_sl (e_v 0) po_n (po_s (e_v 3))) (e_tup (as_cons (e_c (hj := by omega) h__law_with hr hg (as_cons (e_ix x_ix (e_v 0) (e_v 3)) (as_cons (e_sl (e_v 1) (po_s e_int) po_n) (as_cons (e_v 2) as_nil))) (len_cons (len_cons (len_cons len_nil)))) as_nil))) (e_sl (e_v 0) (po_s (e_2 o_add (e_v 3) e_int)) po_n))))))
abbrev s__law_bent : Stmt := topS 37
theorem sc__law_bent : FnScope ["_law_thing", "_law_spoil", "_law_way", "_law_place", "_law_what", "_law_spots_here", "_law_spot", "_law_part", "_law_k", "_law_some", "_law_at", "_law_odd"] ["_law_thing", "_law_spoil"] (defScope s__law_bent) := ⟨rfl, rfl, rfl, by decide +kernel, rfl, by decide +kernel, by decide +kernel⟩
def B__law_bent : MS := (sSeq (sAsg (pT 3 (psC (pN 2) (psC (pN 3) (psC (pN 4) psN)))) (mV 1)) (sSeq (sAsg (pN 5) (mCallP F__law_spots (mCons (mV 0) mNil))) (sSeq (sAsg (pN 6) (m2 bIx (mV 5) (m2 bMod (mV 3) (mN bLen (mCons (mV 5) mNil))))) (sSeq (sAsg (pN 7) (mV 0)) (sSeq (sFor (pN 8) (mIt (mV 6)) (sAsg (pN 7) (m2 bIx (mV 7) (mV 8)))) (sSeq (sIf (mAnd (m2 bLt (mV 2) (mC (.int 4))) (m1 (bIsi "int") (mV 7))) (sSeq (sAsg (pN 9) (mN bLst (mCons (m2 bAddB (mV 7) (mC (.int 1))) (mCons (m2 bSubB (mV 7) (mC (.int 1))) (mCons (m2 bSubB (mC (.int 0)) (mV 7)) (mCons (m2 bEq (mV 7) (mC (.int 1))) (mCons (mN bStrB (mCons (mV 7) mNil)) (mCons (m2 bMulB (mC (.int 2)) (mV 7)) (mCons (m2 bAddB (mV 7) (m2 bPow (mC (.int 10)) (mC (.int 30)))) (mCons (mC .non) mNil)))))))))) (sRet (mCallP F__law_with (mCons (mV 0) (mCons (mV 6) (mCons (m2 bIx (mV 9) (m2 bMod (mV 4) (mC (.int 8)))) mNil)))))) (sK .nx)) (sSeq (sIf (mAnd (m2 bLt (mV 2) (mC (.int 6))) (m1 (bIsi "tuple") (mV 7))) (sSeq (sAsg (pN 10) (m2 bMod (mV 4) (m2 bAddB (mN bLen (mCons (mV 7) mNil)) (mC (.int 1))))) (sSeq (sAsg (pN 9) (mN bLst (mCons (m2 bAddB (mSl (mV 7) none (some (mV 10))) (mSl (mV 7) (some (m2 bAddB (mV 10) (mC (.int 1)))) none)) (mCons (m2 bAddB (m2 bAddB (mSl (mV 7) none (some (mV 10))) (mSl (mV 7) (some (mV 10)) (some (m2 bAddB (mV 10) (mC (.int 1)))))) (mSl (mV 7) (some (mV 10)) none)) (mCons (m1 bRevT (mV 7)) (mCons (mL listOfD (mCons (mV 7) mNil)) mNil)))))) (sSeq (sExp (mApp 9 (m2 bAddB (m2 bAddB (mSl (mV 7) none (some (mV 10))) (m1 bRevT (mSl (mV 7) (some (mV 10)) (some (m2 bAddB (mV 10) (mC (.int 2))))))) (mSl (mV 7) (some (m2 bAddB (mV 10) (mC (.int 2)))) none)))) (sRet (mCallP F__law_with (mCons (mV 0) (mCons (mV 6) (mCons (m2 bIx (mV 9) (m2 bMod (m2 bDiv (mV 4) (mC (.int 100))) (mC (.int 5)))) mNil)))))))) (sK .nx)) (sSeq (sAsg (pN 11) (mN bLst (mCons (mC .non) (mCons (mC (.bl true)) (mCons (mC (.bl false)) (mCons (mC (.int 0)) (mCons (mC (.int 1)) (mCons (m1 bNeg (mC (.int 1))) (mCons (mC (.str "")) (mCons (mC (.str "meets")) (mCons (mC (.str "misses")) (mCons (mN bTup mNil) (mCons (mN bLst mNil) (mCons (mC (.dct [] [])) (mCons (mN bLst (mCons (mV 7) mNil)) (mCons (mN bTup (mCons (mV 7) mNil)) (mCons (m2 bPow (mC (.int 10)) (mC (.int 39))) (mCons (mN bTup (mCons (mC (.int 0)) (mCons (mC (.int 1)) mNil))) mNil)))))))))))))))))) (sRet (mCallP F__law_with (mCons (mV 0) (mCons (mV 6) (mCons (m2 bIx (mV 11) (m2 bMod (mV 4) (mC (.int 16)))) mNil)))))))))))))
def F__law_bent : List D → Res D := runP 10 B__law_bent
theorem ok__law_bent (t : TxF K mg "_law_bent" s__law_bent ["_law_thing", "_law_spoil"]) (h__law_spots : CalP P w K mg base 13 "_law_spots" 1 (.sh) F__law_spots) (h__law_with : CalP P w K mg base 13 "_law_with" 3 (.sh) F__law_with) (hm_int : mg "int" = none) (hm_isinstance : mg "isinstance" = none) (hm_len : mg "len" = none) (hm_list : mg "list" = none) (hm_str : mg "str" = none) (hm_tuple : mg "tuple" = none) : CalP P w K mg base 14 "_law_bent" 2 (.sh) F__law_bent := by
  obtain ⟨f, fd, Fu, bd, hm⟩ := t
  refine ⟨f, fd, _, ok_p (n := 2) (nl := 10) (F := ⟨fun i => if i = 9 then .ol .sh .sh else .sh, fun i => false, .sh⟩) (b := B__law_bent) Fu sc__law_bent (sh_ok _ _ (by decide)) rfl rfl (.inl rfl) ?_, Fu.kp, bd, hm⟩
  intro cdv A outer s H E hr hg
  exact (ss_cons (s_asg (e_v 1) (g_t (gs_cons (g_n 2 sc__law_bent.nd) (gs_cons (g_n 3 sc__law_bent.nd) (gs_cons (g_n 4 sc__law_bent.nd) gs_nil)))))
    (ss_cons (s_set 5 sc__law_bent.nd (e_c h__law_spots hr hg (as_cons (e_v 0) as_nil) (len_cons len_nil)))
    (ss_cons (s_set 6 sc__law_bent.nd (e_ix x_ix (e_v 5) (e_2 o_mod (e_v 3) (e_callB c_len (a_cons (e_v 5) a_nil) (hm := hm_len)))))
    (ss_cons (s_set 7 sc__law_bent.nd (e_v 0))
    (ss_cons (s_for (i_any (e_v 6)) (g_n 8 sc__law_bent.nd)
    (ss_one (s_set 7 sc__law_bent.nd (e_ix x_ix (e_v 7) (e_v 8)))))
    (ss_cons (s_if (w_and (t_cmp o_lt (e_v 2) e_int) (w_and1 (t_val (e_isi_int (e_v 7) hm_isinstance hm_int)))).pt
    (ss_cons (s_setO 9 sc__law_bent.nd (e_lstO (as_cons (e_2 o_addB (e_v 7) e_int) (as_cons (e_2 o_subB (e_v 7) e_int) (as_cons (e_2 o_subB e_int (e_v 7)) (as_cons (e_cmp (o_eq hr.units) (e_v 7) e_int) (as_cons (e_callTy c_strB (a_cons (e_v 7) a_nil) (hm := hm_str)) (as_cons (e_2 o_mulB e_int (e_v 7)) (as_cons (e_2 o_addB (e_v 7) (e_2 o_pow e_int e_int)) (as_cons e_non as_nil))))))))))
    (ss_one (s_ret (e_c h__law_with hr hg (as_cons (e_v 0) (as_cons (e_v 6) (as_cons (e_ix x_ix (e_vp 9) (e_2 o_mod (e_v 4) e_int)) as_nil))) (len_cons (len_cons (len_cons len_nil)))))))
    ss_nil)
    (ss_cons (s_if (w_and (t_cmp o_lt (e_v 2) e_int) (w_and1 (t_val (e_isi_tuple (e_v 7) hm_isinstance hm_tuple)))).pt
    (ss_cons (s_set 10 sc__law_bent.nd (e_2 o_mod (e_v 4) (e_2 o_addB (e_callB c_len (a_cons (e_v 7) a_nil) (hm := hm_len)) e_int)))
    (ss_cons (s_setO 9 sc__law_bent.nd (e_lstO (as_cons (e_2 o_addB (e_sl (e_v 7) po_n (po_s (e_v 10))) (e_sl (e_v 7) (po_s (e_2 o_addB (e_v 10) e_int)) po_n)) (as_cons (e_2 o_addB (e_2 o_addB (e_sl (e_v 7) po_n (po_s (e_v 10))) (e_sl (e_v 7) (po_s (e_v 10)) (po_s (e_2 o_addB (e_v 10) e_int)))) (e_sl (e_v 7) (po_s (e_v 10)) po_n)) (as_cons (e_revT (e_v 7)) (as_cons (e_sh (e_callTyO c_list (a_cons (e_v 7) a_nil) (hm := hm_list))) as_nil))))))
    (ss_cons (s_exp (e_pk (e_app 9 (as_cons (e_2 o_addB (e_2 o_addB (e_sl (e_v 7) po_n (po_s (e_v 10))) (e_revT (e_sl (e_v 7) (po_s (e_v 10)) (po_s (e_2 o_addB (e_v 10) e_int))))) (e_sl (e_v 7) (po_s (e_2 o_addB (e_v 10) e_int)) po_n)) as_nil))))
    (ss_one (s_ret (e_c h__law_with hr hg (as_cons (e_v 0) (as_cons (e_v 6) (as_cons (e_ix x_ix (e_vp 9) (e_2 o_mod (e_2 o_div (e_v 4) e_int) e_int)) as_nil))) (len_cons (len_cons (len_cons len_nil)))))))))
    ss_nil)
    (ss_cons (s_set 11 sc__law_bent.nd (e_sh (e_lstO (as_cons e_non (as_cons e_bl (as_cons e_bl (as_cons e_int (as_cons e_int (as_cons (e_1 u_neg e_int) (as_cons e_str (as_cons e_str (as_cons e_str (as_cons (e_tup as_nil) (as_cons (e_sh (e_lstO as_nil)) (as_cons e_dict0 (as_cons (e_sh (e_lstO (as_cons (e_v 7) as_nil))) (as_cons (e_tup (as_cons (e_v 7) as_nil)) (as_cons (e_2 o_pow e_int e_int) (as_cons (e_tup (as_cons e_int (as_cons e_int as_nil))) as_nil)))))))))))))))))))
    (ss_one (s_ret (e_c h__law_with hr hg (as_cons (e_v 0) (as_cons (e_v 6) (as_cons (e_ix x_ix (e_v 11) (e_2 o_mod (e_v 4) e_int)) as_nil))) (len_cons (len_cons (len_cons len_nil))))))))))))))
abbrev s__law_spoils : Stmt := topS 38
theorem sc__law_spoils : FnScope ["_law_deck_here", "_law_many", "_law_found", "_law_k"] ["_law_deck_here", "_law_many"] (defScope s__law_spoils) := ⟨rfl, rfl, rfl, by decide +kernel, rfl, by decide +kernel, by decide +kernel⟩
def B__law_spoils : MS := (sSeq (sAsg (pN 2) (mN bLst mNil)) (sSeq (sFor (pN 3) (mItN range1 (mCons (mV 1) mNil)) (sExp (mApp 2 (mN bTup (mCons (mCall F__law_draw (.io 0 :: (.e (mC (.int 8)) :: []))) (mCons (mCall F__law_draw (.io 0 :: (.e (mC (.int 100003)) :: []))) (mCons (mCall F__law_draw (.io 0 :: (.e (mC (.int 99991)) :: []))) (mCons (mCall F__law_draw (.io 0 :: (.e (mC (.int 3)) :: []))) mNil)))))))) (sFz 2 (sRet (mV 2)))))
def F__law_spoils : Fn := runF [.ol (.ol .sh .sh) .sh, .sh] 2 B__law_spoils
theorem ok__law_spoils (t : TxF K mg "_law_spoils" s__law_spoils ["_law_deck_here", "_law_many"]) (h__law_draw : CalF P w K mg base 1 "_law_draw" [.ol (.ol .sh .sh) .sh, .sh] (.sh) F__law_draw) (hm_range : mg "range" = none) : CalF P w K mg base 2 "_law_spoils" [.ol (.ol .sh .sh) .sh, .sh] (.sh) F__law_spoils := by
  obtain ⟨f, fd, Fu, bd, hm⟩ := t
  refine ⟨f, fd, _, ok_d (ts := [.ol (.ol .sh .sh) .sh, .sh]) (nl := 2) (F := ⟨fun i => if i = 0 then .ol (.ol .sh .sh) .sh else if i = 2 then .ol .sh .sh else .sh, fun i => i == 0, .sh⟩) (b := B__law_spoils) Fu sc__law_spoils (τs_ok _ _ (by decide)) (fx_ok _ _ (by decide)) rfl rfl (.inl rfl) ?_, Fu.kp, bd, hm⟩
  intro cdv A outer s H E hr hg
  exact (ss_cons (s_setO 2 sc__law_spoils.nd (e_lstO as_nil))
    (ss_cons (s_for (i_range1 (a_cons (e_v 1) a_nil) (hm := hm_range)) (g_n 3 sc__law_spoils.nd)
    (ss_one (s_exp (e_pk (e_app 2 (as_cons (e_tup (as_cons (e_cF h__law_draw hr hg (ag_io 0 (ag_e e_int ag_nil))) (as_cons (e_cF h__law_draw hr hg (ag_io 0 (ag_e e_int ag_nil))) (as_cons (e_cF h__law_draw hr hg (ag_io 0 (ag_e e_int ag_nil))) (as_cons (e_cF h__law_draw hr hg (ag_io 0 (ag_e e_int ag_nil))) as_nil))))) as_nil))))))
    (ss_fz 2 rfl (ss_one (s_ret (e_v 2))))))
abbrev s__law_told : Stmt := topS 39
theorem sc__law_told : FnScope ["_law_grain_here", "_law_line_here", "_law_corner", "_law_thing", "_law_kept", "_law_found", "_law_due"] ["_law_grain_here", "_law_line_here", "_law_corner", "_law_thing"] (defScope s__law_told) := ⟨rfl, rfl, rfl, by decide +kernel, rfl, by decide +kernel, by decide +kernel⟩
def B__law_told : MS := (sSeq (sAsg (pN 4) (mN bReprE (mCons (mV 3) mNil))) (sSeq (sAsg (pN 5) (mCallP F_meets_holds (mCons (mV 0) (mCons (mV 1) (mCons (mV 2) (mCons (mV 3) mNil)))))) (sSeq (sAsg (pN 6) (mCallP F__law_is_paper (mCons (mV 0) (mCons (mV 1) (mCons (mV 2) (mCons (mV 3) mNil)))))) (sRet (mAnd (m1 (bIsi "bool") (mV 5)) (mAnd (m2 bEq (mV 5) (mV 6)) (m2 bEq (mN bReprE (mCons (mV 3) mNil)) (mV 4))))))))
def F__law_told : List D → Res D := runP 3 B__law_told
theorem ok__law_told (t : TxF K mg "_law_told" s__law_told ["_law_grain_here", "_law_line_here", "_law_corner", "_law_thing"]) (h_meets_holds : CalP P w K mg base 3 "meets_holds" 4 (.sh) F_meets_holds) (h__law_is_paper : CalP P w K mg base 2 "_law_is_paper" 4 (.sh) F__law_is_paper) (hm_bool : mg "bool" = none) (hm_isinstance : mg "isinstance" = none) (hm_repr : mg "repr" = none) : CalP P w K mg base 4 "_law_told" 4 (.sh) F__law_told := by
  obtain ⟨f, fd, Fu, bd, hm⟩ := t
  refine ⟨f, fd, _, ok_p (n := 4) (nl := 3) (F := ⟨fun i => .sh, fun i => false, .sh⟩) (b := B__law_told) Fu sc__law_told (sh_ok _ _ (by decide)) rfl rfl (.inl rfl) ?_, Fu.kp, bd, hm⟩
  intro cdv A outer s H E hr hg
  exact (ss_cons (s_set 4 sc__law_told.nd (e_callB (c_reprE hr.units hg) (a_cons (e_v 3) a_nil) (hm := hm_repr)))
    (ss_cons (s_set 5 sc__law_told.nd (e_c h_meets_holds hr hg (as_cons (e_v 0) (as_cons (e_v 1) (as_cons (e_v 2) (as_cons (e_v 3) as_nil)))) (len_cons (len_cons (len_cons (len_cons len_nil))))))
    (ss_cons (s_set 6 sc__law_told.nd (e_c h__law_is_paper hr hg (as_cons (e_v 0) (as_cons (e_v 1) (as_cons (e_v 2) (as_cons (e_v 3) as_nil)))) (len_cons (len_cons (len_cons (len_cons len_nil))))))
    (ss_one (s_ret (e_and (e_isi_bool (e_v 5) hm_isinstance hm_bool) (e_and (e_cmp (o_eq hr.units) (e_v 5) (e_v 6)) (e_one (e_cmp (o_eq hr.units) (e_callB (c_reprE hr.units hg) (a_cons (e_v 3) a_nil) (hm := hm_repr)) (e_v 4))))))))))
abbrev s_law : Stmt := topS 40
theorem sc_law : FnScope ["_law_script", "_law_deck_here", "_law_turn", "_law_spoils_here", "_law_grain_here", "_law_line_here", "_law_across", "_law_r", "_law_once", "_law_corner", "_law_paper", "_law_way", "_law_place", "_law_what", "_law_more", "_law_thing", "_law_odd"] ["_law_script"] (defScope s_law) := ⟨rfl, rfl, rfl, by decide +kernel, rfl, by decide +kernel, by decide +kernel⟩
noncomputable def B_law : MS := (sSeq (sAsg (pN 1) (mCallP F__law_deck (mCons (mV 0) mNil))) (sSeq (sFor (pN 2) (mItN range1 (mCons (mC (.int 3)) mNil)) (sSeq (sAsg (pN 3) (mCall F__law_spoils (.io 1 :: (.e (mC (.int 16)) :: [])))) (sSeq (sAsg (pN 4) (mCall F__law_grain (.io 1 :: []))) (sSeq (sAsg (pN 5) (mCall F__law_some_line (.io 1 :: (.e (mV 4) :: [])))) (sSeq (sAsg (pN 6) (mN bTup (mCons (m2 bSub (m2 bIx (m2 bIx (mV 5) (mC (.int 0))) (mC (.int 1))) (m2 bIx (m2 bIx (mV 5) (mC (.int 1))) (mC (.int 1)))) (mCons (m2 bSub (m2 bIx (m2 bIx (mV 5) (mC (.int 1))) (mC (.int 0))) (m2 bIx (m2 bIx (mV 5) (mC (.int 0))) (mC (.int 0)))) mNil)))) (sSeq (sAsg (pN 7) (m2 bAdd (m2 bMul (m2 bMul (mC (.int 2)) (m2 bIx (mV 6) (mC (.int 0)))) (m2 bIx (m2 bIx (mV 5) (mC (.int 0))) (mC (.int 0)))) (m2 bMul (m2 bMul (mC (.int 2)) (m2 bIx (mV 6) (mC (.int 1)))) (m2 bIx (m2 bIx (mV 5) (mC (.int 0))) (mC (.int 1)))))) (sFor (pN 8) (mItN range1 (mCons (mC (.int 2)) mNil)) (sSeq (sAsg (pN 9) (mCall F__law_near (.io 1 :: (.e (mV 4) :: (.e (mV 5) :: []))))) (sSeq (sAsg (pN 10) (m2 bIx (mN bLst (mCons (mCallP F_meets_paper (mCons (mV 4) (mCons (mV 5) (mCons (mV 9) mNil)))) (mCons (m2 bAdd (m2 bAdd (mN bTup (mCons (mC (.str "misses")) mNil)) (mV 6)) (mN bTup (mCons (mV 7) mNil))) mNil))) (mN bInt (mCons (m2 bEq (mCall F__law_draw (.io 1 :: (.e (mC (.int 4)) :: []))) (mC (.int 1))) mNil)))) (sSeq (sIf (m1 bNot (mCallP F__law_told (mCons (mV 4) (mCons (mV 5) (mCons (mV 9) (mCons (mV 10) mNil)))))) (sRet (mC (.bl false))) (sK .nx)) (sSeq (sFor (pT 4 (psC (pN 11) (psC (pN 12) (psC (pN 13) (psC (pN 14) psN))))) (mIt (mSl (mV 3) (some (m2 bMul (mC (.int 8)) (mV 8))) (some (m2 bAdd (m2 bMul (mC (.int 8)) (mV 8)) (mC (.int 8)))))) (sSeq (sAsg (pN 15) (mCallP F__law_bent (mCons (mV 10) (mCons (mN bTup (mCons (mV 11) (mCons (mV 12) (mCons (mV 13) mNil)))) mNil)))) (sSeq (sIf (m2 bEq (mV 14) (mC (.int 0))) (sAsg (pN 15) (mCallP F__law_bent (mCons (mV 15) (mCons (mN bTup (mCons (m2 bMod (mV 13) (mC (.int 8))) (mCons (m2 bDiv (mV 13) (mC (.int 8))) (mCons (mV 12) mNil)))) mNil)))) (sK .nx)) (sIf (m1 bNot (mCallP F__law_told (mCons (mV 4) (mCons (mV 5) (mCons (mV 9) (mCons (mV 15) mNil)))))) (sRet (mC (.bl false))) (sK .nx))))) (sSeq (sAsg (pN 16) (mN bLst (mCons (mC .non) (mCons (mC (.int 0)) (mCons (mC (.bl true)) (mCons (mC (.str "meets")) (mCons (mN bTup mNil) (mCons (mN bLst mNil) (mCons (mC (.dct [] [])) (mCons (mN bTup (mCons (mC (.str "meets")) mNil)) (mCons (mN bTup (mCons (mC (.str "misses")) (mCons (mC (.int 0)) (mCons (mC (.int 0)) (mCons (mC (.int 0)) mNil))))) (mCons (mN bTup (mCons (mC (.str "meets")) (mCons (mC (.int 0)) (mCons (mC (.int 0)) mNil)))) mNil)))))))))))) (sFor (pN 15) (mIt (m2 bAdd (mV 16) (mN bLst (mCons (mN bTup (mCons (mC (.str "meets")) (mCons (mC (.int 1)) (mCons (mC (.int 0)) mNil)))) (mCons (mL listOfD (mCons (mV 10) mNil)) (mCons (mN bTup (mCons (mV 10) mNil)) (mCons (m2 bAdd (mV 10) (mN bTup (mCons (mC (.int 0)) mNil))) (mCons (mV 10) mNil)))))))) (sIf (m1 bNot (mCallP F__law_told (mCons (mV 4) (mCons (mV 5) (mCons (mV 9) (mCons (mV 15) mNil)))))) (sRet (mC (.bl false))) (sK .nx))))))))))))))) (sRet (mC (.bl true)))))
noncomputable def F_law : List D → Res D := runP 16 B_law
theorem ok_law {f : Addr} {fd : FuncData} (Fu : Fun K "law" "law" s_law f fd) (h__law_deck : CalP P w K mg base 1 "_law_deck" 1 (.ol (.ol .sh .sh) .sh) F__law_deck) (h__law_spoils : CalF P w K mg base 2 "_law_spoils" [.ol (.ol .sh .sh) .sh, .sh] (.sh) F__law_spoils) (h__law_grain : CalF P w K mg base 2 "_law_grain" [.ol (.ol .sh .sh) .sh] (.sh) F__law_grain) (h__law_some_line : CalF P w K mg base 5 "_law_some_line" [.ol (.ol .sh .sh) .sh, .sh] (.sh) F__law_some_line) (h__law_near : CalF P w K mg base 2 "_law_near" [.ol (.ol .sh .sh) .sh, .sh, .sh] (.sh) F__law_near) (h__law_told : CalP P w K mg base 4 "_law_told" 4 (.sh) F__law_told) (h__law_bent : CalP P w K mg base 14 "_law_bent" 2 (.sh) F__law_bent) (h_meets_paper : CalP P w K mg base 5 "meets_paper" 3 (.sh) F_meets_paper) (h__law_draw : CalF P w K mg base 1 "_law_draw" [.ol (.ol .sh .sh) .sh, .sh] (.sh) F__law_draw) (hm_int : mg "int" = none) (hm_list : mg "list" = none) (hm_range : mg "range" = none) : FnG P w K mg base 15 f fd ["_law_script"] (spP K 1 .sh F_law) := by
  refine ok_p (n := 1) (nl := 16) (F := ⟨fun i => if i = 1 then .ol (.ol .sh .sh) .sh else .sh, fun i => false, .sh⟩) (b := B_law) Fu sc_law (sh_ok _ _ (by decide)) rfl rfl (.inl rfl) ?_
  intro cdv A outer s H E hr hg
  exact (ss_cons (s_setO 1 sc_law.nd (e_c h__law_deck hr hg (as_cons (e_v 0) as_nil) (len_cons len_nil)))
    (ss_cons (s_for (i_range1 (a_cons e_int a_nil) (hm := hm_range)) (g_n 2 sc_law.nd)
    (ss_cons (s_set 3 sc_law.nd (e_cF h__law_spoils hr hg (ag_io 1 (ag_e e_int ag_nil))))
    (ss_cons (s_set 4 sc_law.nd (e_cF h__law_grain hr hg (ag_io 1 ag_nil)))
    (ss_cons (s_set 5 sc_law.nd (e_cF h__law_some_line hr hg (ag_io 1 (ag_e (e_v 4) ag_nil))))
    (ss_cons (s_set 6 sc_law.nd (e_tup (as_cons (e_2 o_sub (e_ix x_ix (e_ix x_ix (e_v 5) e_int) e_int) (e_ix x_ix (e_ix x_ix (e_v 5) e_int) e_int)) (as_cons (e_2 o_sub (e_ix x_ix (e_ix x_ix (e_v 5) e_int) e_int) (e_ix x_ix (e_ix x_ix (e_v 5) e_int) e_int)) as_nil))))
    (ss_cons (s_set 7 sc_law.nd (e_2 o_add (e_2 o_mul (e_2 o_mul e_int (e_ix x_ix (e_v 6) e_int)) (e_ix x_ix (e_ix x_ix (e_v 5) e_int) e_int)) (e_2 o_mul (e_2 o_mul e_int (e_ix x_ix (e_v 6) e_int)) (e_ix x_ix (e_ix x_ix (e_v 5) e_int) e_int))))
    (ss_one (s_for (i_range1 (a_cons e_int a_nil) (hm := hm_range)) (g_n 8 sc_law.nd)
    (ss_cons (s_set 9 sc_law.nd (e_cF h__law_near hr hg (ag_io 1 (ag_e (e_v 4) (ag_e (e_v 5) ag_nil)))))
    (ss_cons (s_set 10 sc_law.nd (e_ix x_ix (e_sh (e_lstO (as_cons (e_c h_meets_paper hr hg (as_cons (e_v 4) (as_cons (e_v 5) (as_cons (e_v 9) as_nil))) (len_cons (len_cons (len_cons len_nil)))) (as_cons (e_2 o_add (e_2 o_add (e_tup (as_cons e_str as_nil)) (e_v 6)) (e_tup (as_cons (e_v 7) as_nil))) as_nil)))) (e_callTy c_int (a_cons (e_cmp (o_eq hr.units) (e_cF h__law_draw hr hg (ag_io 1 (ag_e e_int ag_nil))) e_int) a_nil) (hm := hm_int))))
    (ss_cons (s_if (t_not (t_val (e_c h__law_told hr hg (as_cons (e_v 4) (as_cons (e_v 5) (as_cons (e_v 9) (as_cons (e_v 10) as_nil)))) (len_cons (len_cons (len_cons (len_cons len_nil)))))))
    (ss_one (s_ret e_bl))
    ss_nil)
    (ss_cons (s_for (i_any (e_sl (e_v 3) (po_s (e_2 o_mul e_int (e_v 8))) (po_s (e_2 o_add (e_2 o_mul e_int (e_v 8)) e_int)))) (g_t (gs_cons (g_n 11 sc_law.nd) (gs_cons (g_n 12 sc_law.nd) (gs_cons (g_n 13 sc_law.nd) (gs_cons (g_n 14 sc_law.nd) gs_nil)))))
    (ss_cons (s_set 15 sc_law.nd (e_c h__law_bent hr hg (as_cons (e_v 10) (as_cons (e_tup (as_cons (e_v 11) (as_cons (e_v 12) (as_cons (e_v 13) as_nil)))) as_nil)) (len_cons (len_cons len_nil))))
    (ss_cons (s_if (t_cmp (o_eq hr.units) (e_v 14) e_int)
    (ss_one (s_set 15 sc_law.nd (e_c h__law_bent hr hg (as_cons (e_v 15) (as_cons (e_tup (as_cons (e_2 o_mod (e_v 13) e_int) (as_cons (e_2 o_div (e_v 13) e_int) (as_cons (e_v 12) as_nil)))) as_nil)) (len_cons (len_cons len_nil)))))
    ss_nil)
    (ss_one (s_if (t_not (t_val (e_c h__law_told hr hg (as_cons (e_v 4) (as_cons (e_v 5) (as_cons (e_v 9) (as_cons (e_v 15) as_nil)))) (len_cons (len_cons (len_cons (len_cons len_nil)))))))
    (ss_one (s_ret e_bl))
    ss_nil)))))
    (ss_cons (s_set 16 sc_law.nd (e_sh (e_lstO (as_cons e_non (as_cons e_int (as_cons e_bl (as_cons e_str (as_cons (e_tup as_nil) (as_cons (e_sh (e_lstO as_nil)) (as_cons e_dict0 (as_cons (e_tup (as_cons e_str as_nil)) (as_cons (e_tup (as_cons e_str (as_cons e_int (as_cons e_int (as_cons e_int as_nil))))) (as_cons (e_tup (as_cons e_str (as_cons e_int (as_cons e_int as_nil)))) as_nil)))))))))))))
    (ss_one (s_for (i_any (e_2 o_add (e_v 16) (e_sh (e_lstO (as_cons (e_tup (as_cons e_str (as_cons e_int (as_cons e_int as_nil)))) (as_cons (e_sh (e_callTyO c_list (a_cons (e_v 10) a_nil) (hm := hm_list))) (as_cons (e_tup (as_cons (e_v 10) as_nil)) (as_cons (e_2 o_add (e_v 10) (e_tup (as_cons e_int as_nil))) (as_cons (e_v 10) as_nil))))))))) (g_n 15 sc_law.nd)
    (ss_one (s_if (t_not (t_val (e_c h__law_told hr hg (as_cons (e_v 4) (as_cons (e_v 5) (as_cons (e_v 9) (as_cons (e_v 15) as_nil)))) (len_cons (len_cons (len_cons (len_cons len_nil)))))))
    (ss_one (s_ret e_bl))
    ss_nil)))))))))))))))))
    (ss_one (s_ret e_bl))))
end
set_option maxHeartbeats 0 in
theorem all_mk {P : Program} {w : World} {K : PySem.W.Frag} {h : Heap} {mg : Str → Option Value} {fa : Addr} (X : K.In h) (G : h.Ns mainGlobals mg) (hfa : mg "law" = some (.ref fa))
    {C_Bound : Addr} (aC_Bound : PySem.W.nsIn K mainGlobals "Bound" = some (some (.ref C_Bound))) (pg_Bound : PySem.W.plainGet K C_Bound Str.empty = true) (hd_Bound : PySem.W.hasDictIn K C_Bound = true) (po_Bound : PySem.W.plainOver K C_Bound = true) (sa_Bound : PySem.W.findIn K (.ref C_Bound) "__setattr__" = some (some (.builtin "object.__setattr__"))) (mk_Bound : PySem.W.makesIn K C_Bound = true) (kc_Bound : PySem.W.keepIn K (.ref C_Bound) = true) (n_Bound_n : PySem.W.findIn K (.ref C_Bound) "n" = some none) (n_Bound_d : PySem.W.findIn K (.ref C_Bound) "d" = some none) (n_Bound_is_out : PySem.W.findIn K (.ref C_Bound) "is_out" = some none)
    {odI_Bound anI_Bound : Option Addr} {slI_Bound : Array (Option Value)} {ocI_Bound kVI_Bound dcI_Bound pmI_Bound cdI_Bound ctI_Bound : Value} {fI_Bound : Addr} (aI_Bound : PySem.W.findIn K (.ref C_Bound) "__init__" = some (some (.ref fI_Bound))) (iI_Bound : PySem.W.isFn K (.ref fI_Bound) = true) (lI_Bound : K.lookup fI_Bound = some ⟨ocI_Bound, odI_Bound, .func (PySem.W.fnOf "__init__" "Bound.__init__" (defArgs s_Bound_init) (defBody s_Bound_init) (defScope s_Bound_init) .none kVI_Bound dcI_Bound pmI_Bound anI_Bound cdI_Bound ctI_Bound), slI_Bound⟩) (cI_Bound : PySem.W.codeIn K cdI_Bound "Bound.__init__" = true) (kI_Bound : PySem.W.keepIn K (.ref fI_Bound) = true)
    {od0 an0 : Option Addr} {sl0 : Array (Option Value)} {oc0 kV0 dc0 pm0 cd0 ct0 : Value} {f0 : Addr} (a0 : PySem.W.nsIn K mainGlobals "is_whole" = some (some (.ref f0))) (l0 : K.lookup f0 = some ⟨oc0, od0, .func (PySem.W.fnOf "is_whole" "is_whole" (defArgs s_is_whole) (defBody s_is_whole) (defScope s_is_whole) .none kV0 dc0 pm0 an0 cd0 ct0), sl0⟩) (c0 : PySem.W.codeIn K cd0 "is_whole" = true) (k0 : PySem.W.keepIn K (.ref f0) = true)
    {od1 an1 : Option Addr} {sl1 : Array (Option Value)} {oc1 kV1 dc1 pm1 cd1 ct1 : Value} {f1 : Addr} (a1 : PySem.W.nsIn K mainGlobals "is_share" = some (some (.ref f1))) (l1 : K.lookup f1 = some ⟨oc1, od1, .func (PySem.W.fnOf "is_share" "is_share" (defArgs s_is_share) (defBody s_is_share) (defScope s_is_share) .none kV1 dc1 pm1 an1 cd1 ct1), sl1⟩) (c1 : PySem.W.codeIn K cd1 "is_share" = true) (k1 : PySem.W.keepIn K (.ref f1) = true)
    {od2 an2 : Option Addr} {sl2 : Array (Option Value)} {oc2 kV2 dc2 pm2 cd2 ct2 : Value} {f2 : Addr} (a2 : PySem.W.nsIn K mainGlobals "is_met_at" = some (some (.ref f2))) (l2 : K.lookup f2 = some ⟨oc2, od2, .func (PySem.W.fnOf "is_met_at" "is_met_at" (defArgs s_is_met_at) (defBody s_is_met_at) (defScope s_is_met_at) .none kV2 dc2 pm2 an2 cd2 ct2), sl2⟩) (c2 : PySem.W.codeIn K cd2 "is_met_at" = true) (k2 : PySem.W.keepIn K (.ref f2) = true)
    {od3 an3 : Option Addr} {sl3 : Array (Option Value)} {oc3 kV3 dc3 pm3 cd3 ct3 : Value} {f3 : Addr} (a3 : PySem.W.nsIn K mainGlobals "is_missed_by" = some (some (.ref f3))) (l3 : K.lookup f3 = some ⟨oc3, od3, .func (PySem.W.fnOf "is_missed_by" "is_missed_by" (defArgs s_is_missed_by) (defBody s_is_missed_by) (defScope s_is_missed_by) .none kV3 dc3 pm3 an3 cd3 ct3), sl3⟩) (c3 : PySem.W.codeIn K cd3 "is_missed_by" = true) (k3 : PySem.W.keepIn K (.ref f3) = true)
    {od4 an4 : Option Addr} {sl4 : Array (Option Value)} {oc4 kV4 dc4 pm4 cd4 ct4 : Value} {f4 : Addr} (a4 : PySem.W.nsIn K mainGlobals "meets_holds" = some (some (.ref f4))) (l4 : K.lookup f4 = some ⟨oc4, od4, .func (PySem.W.fnOf "meets_holds" "meets_holds" (defArgs s_meets_holds) (defBody s_meets_holds) (defScope s_meets_holds) .none kV4 dc4 pm4 an4 cd4 ct4), sl4⟩) (c4 : PySem.W.codeIn K cd4 "meets_holds" = true) (k4 : PySem.W.keepIn K (.ref f4) = true)
    {od5 an5 : Option Addr} {sl5 : Array (Option Value)} {oc5 kV5 dc5 pm5 cd5 ct5 : Value} {f5 : Addr} (a5 : PySem.W.findIn K (.ref C_Bound) "is_ahead_of" = some (some (.ref f5))) (i5 : PySem.W.isFn K (.ref f5) = true) (l5 : K.lookup f5 = some ⟨oc5, od5, .func (PySem.W.fnOf "is_ahead_of" "Bound.is_ahead_of" (defArgs s_Bound_is_ahead_of) (defBody s_Bound_is_ahead_of) (defScope s_Bound_is_ahead_of) .none kV5 dc5 pm5 an5 cd5 ct5), sl5⟩) (c5 : PySem.W.codeIn K cd5 "Bound.is_ahead_of" = true) (k5 : PySem.W.keepIn K (.ref f5) = true)
    {od6 an6 : Option Addr} {sl6 : Array (Option Value)} {oc6 kV6 dc6 pm6 cd6 ct6 : Value} {f6 : Addr} (a6 : PySem.W.findIn K (.ref C_Bound) "is_at" = some (some (.ref f6))) (i6 : PySem.W.isFn K (.ref f6) = true) (l6 : K.lookup f6 = some ⟨oc6, od6, .func (PySem.W.fnOf "is_at" "Bound.is_at" (defArgs s_Bound_is_at) (defBody s_Bound_is_at) (defScope s_Bound_is_at) .none kV6 dc6 pm6 an6 cd6 ct6), sl6⟩) (c6 : PySem.W.codeIn K cd6 "Bound.is_at" = true) (k6 : PySem.W.keepIn K (.ref f6) = true)
    {od7 an7 : Option Addr} {sl7 : Array (Option Value)} {oc7 kV7 dc7 pm7 cd7 ct7 : Value} {f7 : Addr} (a7 : PySem.W.nsIn K mainGlobals "later" = some (some (.ref f7))) (l7 : K.lookup f7 = some ⟨oc7, od7, .func (PySem.W.fnOf "later" "later" (defArgs s_later) (defBody s_later) (defScope s_later) .none kV7 dc7 pm7 an7 cd7 ct7), sl7⟩) (c7 : PySem.W.codeIn K cd7 "later" = true) (k7 : PySem.W.keepIn K (.ref f7) = true)
    {od8 an8 : Option Addr} {sl8 : Array (Option Value)} {oc8 kV8 dc8 pm8 cd8 ct8 : Value} {f8 : Addr} (a8 : PySem.W.nsIn K mainGlobals "sooner" = some (some (.ref f8))) (l8 : K.lookup f8 = some ⟨oc8, od8, .func (PySem.W.fnOf "sooner" "sooner" (defArgs s_sooner) (defBody s_sooner) (defScope s_sooner) .none kV8 dc8 pm8 an8 cd8 ct8), sl8⟩) (c8 : PySem.W.codeIn K cd8 "sooner" = true) (k8 : PySem.W.keepIn K (.ref f8) = true)
    {od9 an9 : Option Addr} {sl9 : Array (Option Value)} {oc9 kV9 dc9 pm9 cd9 ct9 : Value} {f9 : Addr} (a9 : PySem.W.nsIn K mainGlobals "rims_of" = some (some (.ref f9))) (l9 : K.lookup f9 = some ⟨oc9, od9, .func (PySem.W.fnOf "rims_of" "rims_of" (defArgs s_rims_of) (defBody s_rims_of) (defScope s_rims_of) .none kV9 dc9 pm9 an9 cd9 ct9), sl9⟩) (c9 : PySem.W.codeIn K cd9 "rims_of" = true) (k9 : PySem.W.keepIn K (.ref f9) = true)
    {od10 an10 : Option Addr} {sl10 : Array (Option Value)} {oc10 kV10 dc10 pm10 cd10 ct10 : Value} {f10 : Addr} (a10 : PySem.W.nsIn K mainGlobals "bounds_between" = some (some (.ref f10))) (l10 : K.lookup f10 = some ⟨oc10, od10, .func (PySem.W.fnOf "bounds_between" "bounds_between" (defArgs s_bounds_between) (defBody s_bounds_between) (defScope s_bounds_between) .none kV10 dc10 pm10 an10 cd10 ct10), sl10⟩) (c10 : PySem.W.codeIn K cd10 "bounds_between" = true) (k10 : PySem.W.keepIn K (.ref f10) = true)
    {od11 an11 : Option Addr} {sl11 : Array (Option Value)} {oc11 kV11 dc11 pm11 cd11 ct11 : Value} {f11 : Addr} (a11 : PySem.W.nsIn K mainGlobals "met_between" = some (some (.ref f11))) (l11 : K.lookup f11 = some ⟨oc11, od11, .func (PySem.W.fnOf "met_between" "met_between" (defArgs s_met_between) (defBody s_met_between) (defScope s_met_between) .none kV11 dc11 pm11 an11 cd11 ct11), sl11⟩) (c11 : PySem.W.codeIn K cd11 "met_between" = true) (k11 : PySem.W.keepIn K (.ref f11) = true)
    {od12 an12 : Option Addr} {sl12 : Array (Option Value)} {oc12 kV12 dc12 pm12 cd12 ct12 : Value} {f12 : Addr} (a12 : PySem.W.nsIn K mainGlobals "share_between" = some (some (.ref f12))) (l12 : K.lookup f12 = some ⟨oc12, od12, .func (PySem.W.fnOf "share_between" "share_between" (defArgs s_share_between) (defBody s_share_between) (defScope s_share_between) .none kV12 dc12 pm12 an12 cd12 ct12), sl12⟩) (c12 : PySem.W.codeIn K cd12 "share_between" = true) (k12 : PySem.W.keepIn K (.ref f12) = true)
    {od13 an13 : Option Addr} {sl13 : Array (Option Value)} {oc13 kV13 dc13 pm13 cd13 ct13 : Value} {f13 : Addr} (a13 : PySem.W.nsIn K mainGlobals "greatest_in" = some (some (.ref f13))) (l13 : K.lookup f13 = some ⟨oc13, od13, .func (PySem.W.fnOf "greatest_in" "greatest_in" (defArgs s_greatest_in) (defBody s_greatest_in) (defScope s_greatest_in) .none kV13 dc13 pm13 an13 cd13 ct13), sl13⟩) (c13 : PySem.W.codeIn K cd13 "greatest_in" = true) (k13 : PySem.W.keepIn K (.ref f13) = true)
    {od14 an14 : Option Addr} {sl14 : Array (Option Value)} {oc14 kV14 dc14 pm14 cd14 ct14 : Value} {f14 : Addr} (a14 : PySem.W.nsIn K mainGlobals "least_on" = some (some (.ref f14))) (l14 : K.lookup f14 = some ⟨oc14, od14, .func (PySem.W.fnOf "least_on" "least_on" (defArgs s_least_on) (defBody s_least_on) (defScope s_least_on) .none kV14 dc14 pm14 an14 cd14 ct14), sl14⟩) (c14 : PySem.W.codeIn K cd14 "least_on" = true) (k14 : PySem.W.keepIn K (.ref f14) = true)
    {od15 an15 : Option Addr} {sl15 : Array (Option Value)} {oc15 kV15 dc15 pm15 cd15 ct15 : Value} {f15 : Addr} (a15 : PySem.W.nsIn K mainGlobals "is_past" = some (some (.ref f15))) (l15 : K.lookup f15 = some ⟨oc15, od15, .func (PySem.W.fnOf "is_past" "is_past" (defArgs s_is_past) (defBody s_is_past) (defScope s_is_past) .none kV15 dc15 pm15 an15 cd15 ct15), sl15⟩) (c15 : PySem.W.codeIn K cd15 "is_past" = true) (k15 : PySem.W.keepIn K (.ref f15) = true)
    {od16 an16 : Option Addr} {sl16 : Array (Option Value)} {oc16 kV16 dc16 pm16 cd16 ct16 : Value} {f16 : Addr} (a16 : PySem.W.nsIn K mainGlobals "way_past" = some (some (.ref f16))) (l16 : K.lookup f16 = some ⟨oc16, od16, .func (PySem.W.fnOf "way_past" "way_past" (defArgs s_way_past) (defBody s_way_past) (defScope s_way_past) .none kV16 dc16 pm16 an16 cd16 ct16), sl16⟩) (c16 : PySem.W.codeIn K cd16 "way_past" = true) (k16 : PySem.W.keepIn K (.ref f16) = true)
    {od17 an17 : Option Addr} {sl17 : Array (Option Value)} {oc17 kV17 dc17 pm17 cd17 ct17 : Value} {f17 : Addr} (a17 : PySem.W.nsIn K mainGlobals "meets_paper" = some (some (.ref f17))) (l17 : K.lookup f17 = some ⟨oc17, od17, .func (PySem.W.fnOf "meets_paper" "meets_paper" (defArgs s_meets_paper) (defBody s_meets_paper) (defScope s_meets_paper) .none kV17 dc17 pm17 an17 cd17 ct17), sl17⟩) (c17 : PySem.W.codeIn K cd17 "meets_paper" = true) (k17 : PySem.W.keepIn K (.ref f17) = true)
    {od18 an18 : Option Addr} {sl18 : Array (Option Value)} {oc18 kV18 dc18 pm18 cd18 ct18 : Value} {f18 : Addr} (a18 : PySem.W.nsIn K mainGlobals "_law_deck" = some (some (.ref f18))) (l18 : K.lookup f18 = some ⟨oc18, od18, .func (PySem.W.fnOf "_law_deck" "_law_deck" (defArgs s__law_deck) (defBody s__law_deck) (defScope s__law_deck) .none kV18 dc18 pm18 an18 cd18 ct18), sl18⟩) (c18 : PySem.W.codeIn K cd18 "_law_deck" = true) (k18 : PySem.W.keepIn K (.ref f18) = true)
    {od19 an19 : Option Addr} {sl19 : Array (Option Value)} {oc19 kV19 dc19 pm19 cd19 ct19 : Value} {f19 : Addr} (a19 : PySem.W.nsIn K mainGlobals "_law_draw" = some (some (.ref f19))) (l19 : K.lookup f19 = some ⟨oc19, od19, .func (PySem.W.fnOf "_law_draw" "_law_draw" (defArgs s__law_draw) (defBody s__law_draw) (defScope s__law_draw) .none kV19 dc19 pm19 an19 cd19 ct19), sl19⟩) (c19 : PySem.W.codeIn K cd19 "_law_draw" = true) (k19 : PySem.W.keepIn K (.ref f19) = true)
    {od20 an20 : Option Addr} {sl20 : Array (Option Value)} {oc20 kV20 dc20 pm20 cd20 ct20 : Value} {f20 : Addr} (a20 : PySem.W.nsIn K mainGlobals "_law_grain" = some (some (.ref f20))) (l20 : K.lookup f20 = some ⟨oc20, od20, .func (PySem.W.fnOf "_law_grain" "_law_grain" (defArgs s__law_grain) (defBody s__law_grain) (defScope s__law_grain) .none kV20 dc20 pm20 an20 cd20 ct20), sl20⟩) (c20 : PySem.W.codeIn K cd20 "_law_grain" = true) (k20 : PySem.W.keepIn K (.ref f20) = true)
    {od21 an21 : Option Addr} {sl21 : Array (Option Value)} {oc21 kV21 dc21 pm21 cd21 ct21 : Value} {f21 : Addr} (a21 : PySem.W.nsIn K mainGlobals "_law_point" = some (some (.ref f21))) (l21 : K.lookup f21 = some ⟨oc21, od21, .func (PySem.W.fnOf "_law_point" "_law_point" (defArgs s__law_point) (defBody s__law_point) (defScope s__law_point) .none kV21 dc21 pm21 an21 cd21 ct21), sl21⟩) (c21 : PySem.W.codeIn K cd21 "_law_point" = true) (k21 : PySem.W.keepIn K (.ref f21) = true)
    {od22 an22 : Option Addr} {sl22 : Array (Option Value)} {oc22 kV22 dc22 pm22 cd22 ct22 : Value} {f22 : Addr} (a22 : PySem.W.nsIn K mainGlobals "_law_unlike" = some (some (.ref f22))) (l22 : K.lookup f22 = some ⟨oc22, od22, .func (PySem.W.fnOf "_law_unlike" "_law_unlike" (defArgs s__law_unlike) (defBody s__law_unlike) (defScope s__law_unlike) .none kV22 dc22 pm22 an22 cd22 ct22), sl22⟩) (c22 : PySem.W.codeIn K cd22 "_law_unlike" = true) (k22 : PySem.W.keepIn K (.ref f22) = true)
    {od23 an23 : Option Addr} {sl23 : Array (Option Value)} {oc23 kV23 dc23 pm23 cd23 ct23 : Value} {f23 : Addr} (a23 : PySem.W.nsIn K mainGlobals "_law_line" = some (some (.ref f23))) (l23 : K.lookup f23 = some ⟨oc23, od23, .func (PySem.W.fnOf "_law_line" "_law_line" (defArgs s__law_line) (defBody s__law_line) (defScope s__law_line) .none kV23 dc23 pm23 an23 cd23 ct23), sl23⟩) (c23 : PySem.W.codeIn K cd23 "_law_line" = true) (k23 : PySem.W.keepIn K (.ref f23) = true)
    {od24 an24 : Option Addr} {sl24 : Array (Option Value)} {oc24 kV24 dc24 pm24 cd24 ct24 : Value} {f24 : Addr} (a24 : PySem.W.nsIn K mainGlobals "_law_lines" = some (some (.ref f24))) (l24 : K.lookup f24 = some ⟨oc24, od24, .func (PySem.W.fnOf "_law_lines" "_law_lines" (defArgs s__law_lines) (defBody s__law_lines) (defScope s__law_lines) .none kV24 dc24 pm24 an24 cd24 ct24), sl24⟩) (c24 : PySem.W.codeIn K cd24 "_law_lines" = true) (k24 : PySem.W.keepIn K (.ref f24) = true)
    {od25 an25 : Option Addr} {sl25 : Array (Option Value)} {oc25 kV25 dc25 pm25 cd25 ct25 : Value} {f25 : Addr} (a25 : PySem.W.nsIn K mainGlobals "_law_moved" = some (some (.ref f25))) (l25 : K.lookup f25 = some ⟨oc25, od25, .func (PySem.W.fnOf "_law_moved" "_law_moved" (defArgs s__law_moved) (defBody s__law_moved) (defScope s__law_moved) .none kV25 dc25 pm25 an25 cd25 ct25), sl25⟩) (c25 : PySem.W.codeIn K cd25 "_law_moved" = true) (k25 : PySem.W.keepIn K (.ref f25) = true)
    {od26 an26 : Option Addr} {sl26 : Array (Option Value)} {oc26 kV26 dc26 pm26 cd26 ct26 : Value} {f26 : Addr} (a26 : PySem.W.nsIn K mainGlobals "_law_nearest" = some (some (.ref f26))) (l26 : K.lookup f26 = some ⟨oc26, od26, .func (PySem.W.fnOf "_law_nearest" "_law_nearest" (defArgs s__law_nearest) (defBody s__law_nearest) (defScope s__law_nearest) .none kV26 dc26 pm26 an26 cd26 ct26), sl26⟩) (c26 : PySem.W.codeIn K cd26 "_law_nearest" = true) (k26 : PySem.W.keepIn K (.ref f26) = true)
    {od27 an27 : Option Addr} {sl27 : Array (Option Value)} {oc27 kV27 dc27 pm27 cd27 ct27 : Value} {f27 : Addr} (a27 : PySem.W.nsIn K mainGlobals "_law_far" = some (some (.ref f27))) (l27 : K.lookup f27 = some ⟨oc27, od27, .func (PySem.W.fnOf "_law_far" "_law_far" (defArgs s__law_far) (defBody s__law_far) (defScope s__law_far) .none kV27 dc27 pm27 an27 cd27 ct27), sl27⟩) (c27 : PySem.W.codeIn K cd27 "_law_far" = true) (k27 : PySem.W.keepIn K (.ref f27) = true)
    {od28 an28 : Option Addr} {sl28 : Array (Option Value)} {oc28 kV28 dc28 pm28 cd28 ct28 : Value} {f28 : Addr} (a28 : PySem.W.nsIn K mainGlobals "_law_some_line" = some (some (.ref f28))) (l28 : K.lookup f28 = some ⟨oc28, od28, .func (PySem.W.fnOf "_law_some_line" "_law_some_line" (defArgs s__law_some_line) (defBody s__law_some_line) (defScope s__law_some_line) .none kV28 dc28 pm28 an28 cd28 ct28), sl28⟩) (c28 : PySem.W.codeIn K cd28 "_law_some_line" = true) (k28 : PySem.W.keepIn K (.ref f28) = true)
    {od29 an29 : Option Addr} {sl29 : Array (Option Value)} {oc29 kV29 dc29 pm29 cd29 ct29 : Value} {f29 : Addr} (a29 : PySem.W.nsIn K mainGlobals "_law_near" = some (some (.ref f29))) (l29 : K.lookup f29 = some ⟨oc29, od29, .func (PySem.W.fnOf "_law_near" "_law_near" (defArgs s__law_near) (defBody s__law_near) (defScope s__law_near) .none kV29 dc29 pm29 an29 cd29 ct29), sl29⟩) (c29 : PySem.W.codeIn K cd29 "_law_near" = true) (k29 : PySem.W.keepIn K (.ref f29) = true)
    {od30 an30 : Option Addr} {sl30 : Array (Option Value)} {oc30 kV30 dc30 pm30 cd30 ct30 : Value} {f30 : Addr} (a30 : PySem.W.nsIn K mainGlobals "_law_is_whole" = some (some (.ref f30))) (l30 : K.lookup f30 = some ⟨oc30, od30, .func (PySem.W.fnOf "_law_is_whole" "_law_is_whole" (defArgs s__law_is_whole) (defBody s__law_is_whole) (defScope s__law_is_whole) .none kV30 dc30 pm30 an30 cd30 ct30), sl30⟩) (c30 : PySem.W.codeIn K cd30 "_law_is_whole" = true) (k30 : PySem.W.keepIn K (.ref f30) = true)
    {od31 an31 : Option Addr} {sl31 : Array (Option Value)} {oc31 kV31 dc31 pm31 cd31 ct31 : Value} {f31 : Addr} (a31 : PySem.W.nsIn K mainGlobals "_law_is_paper" = some (some (.ref f31))) (l31 : K.lookup f31 = some ⟨oc31, od31, .func (PySem.W.fnOf "_law_is_paper" "_law_is_paper" (defArgs s__law_is_paper) (defBody s__law_is_paper) (defScope s__law_is_paper) .none kV31 dc31 pm31 an31 cd31 ct31), sl31⟩) (c31 : PySem.W.codeIn K cd31 "_law_is_paper" = true) (k31 : PySem.W.keepIn K (.ref f31) = true)
    {od32 an32 : Option Addr} {sl32 : Array (Option Value)} {oc32 kV32 dc32 pm32 cd32 ct32 : Value} {f32 : Addr} (a32 : PySem.W.nsIn K mainGlobals "_law_spots" = some (some (.ref f32))) (l32 : K.lookup f32 = some ⟨oc32, od32, .func (PySem.W.fnOf "_law_spots" "_law_spots" (defArgs s__law_spots) (defBody s__law_spots) (defScope s__law_spots) .none kV32 dc32 pm32 an32 cd32 ct32), sl32⟩) (c32 : PySem.W.codeIn K cd32 "_law_spots" = true) (k32 : PySem.W.keepIn K (.ref f32) = true)
    {od33 an33 : Option Addr} {sl33 : Array (Option Value)} {oc33 kV33 dc33 pm33 cd33 ct33 : Value} {f33 : Addr} (a33 : PySem.W.nsIn K mainGlobals "_law_with" = some (some (.ref f33))) (l33 : K.lookup f33 = some ⟨oc33, od33, .func (PySem.W.fnOf "_law_with" "_law_with" (defArgs s__law_with) (defBody s__law_with) (defScope s__law_with) .none kV33 dc33 pm33 an33 cd33 ct33), sl33⟩) (c33 : PySem.W.codeIn K cd33 "_law_with" = true) (k33 : PySem.W.keepIn K (.ref f33) = true)
    {od34 an34 : Option Addr} {sl34 : Array (Option Value)} {oc34 kV34 dc34 pm34 cd34 ct34 : Value} {f34 : Addr} (a34 : PySem.W.nsIn K mainGlobals "_law_bent" = some (some (.ref f34))) (l34 : K.lookup f34 = some ⟨oc34, od34, .func (PySem.W.fnOf "_law_bent" "_law_bent" (defArgs s__law_bent) (defBody s__law_bent) (defScope s__law_bent) .none kV34 dc34 pm34 an34 cd34 ct34), sl34⟩) (c34 : PySem.W.codeIn K cd34 "_law_bent" = true) (k34 : PySem.W.keepIn K (.ref f34) = true)
    {od35 an35 : Option Addr} {sl35 : Array (Option Value)} {oc35 kV35 dc35 pm35 cd35 ct35 : Value} {f35 : Addr} (a35 : PySem.W.nsIn K mainGlobals "_law_spoils" = some (some (.ref f35))) (l35 : K.lookup f35 = some ⟨oc35, od35, .func (PySem.W.fnOf "_law_spoils" "_law_spoils" (defArgs s__law_spoils) (defBody s__law_spoils) (defScope s__law_spoils) .none kV35 dc35 pm35 an35 cd35 ct35), sl35⟩) (c35 : PySem.W.codeIn K cd35 "_law_spoils" = true) (k35 : PySem.W.keepIn K (.ref f35) = true)
    {od36 an36 : Option Addr} {sl36 : Array (Option Value)} {oc36 kV36 dc36 pm36 cd36 ct36 : Value} {f36 : Addr} (a36 : PySem.W.nsIn K mainGlobals "_law_told" = some (some (.ref f36))) (l36 : K.lookup f36 = some ⟨oc36, od36, .func (PySem.W.fnOf "_law_told" "_law_told" (defArgs s__law_told) (defBody s__law_told) (defScope s__law_told) .none kV36 dc36 pm36 an36 cd36 ct36), sl36⟩) (c36 : PySem.W.codeIn K cd36 "_law_told" = true) (k36 : PySem.W.keepIn K (.ref f36) = true)
    {od37 an37 : Option Addr} {sl37 : Array (Option Value)} {oc37 kV37 dc37 pm37 cd37 ct37 : Value} {f37 : Addr} (a37 : PySem.W.nsIn K mainGlobals "law" = some (some (.ref f37))) (l37 : K.lookup f37 = some ⟨oc37, od37, .func (PySem.W.fnOf "law" "law" (defArgs s_law) (defBody s_law) (defScope s_law) .none kV37 dc37 pm37 an37 cd37 ct37), sl37⟩) (c37 : PySem.W.codeIn K cd37 "law" = true) (k37 : PySem.W.keepIn K (.ref f37) = true)
    (z_abs : PySem.W.nsIn K mainGlobals "abs" = some none) (z_all : PySem.W.nsIn K mainGlobals "all" = some none) (z_bool : PySem.W.nsIn K mainGlobals "bool" = some none) (z_int : PySem.W.nsIn K mainGlobals "int" = some none) (z_isinstance : PySem.W.nsIn K mainGlobals "isinstance" = some none) (z_len : PySem.W.nsIn K mainGlobals "len" = some none) (z_list : PySem.W.nsIn K mainGlobals "list" = some none) (z_max : PySem.W.nsIn K mainGlobals "max" = some none) (z_min : PySem.W.nsIn K mainGlobals "min" = some none) (z_range : PySem.W.nsIn K mainGlobals "range" = some none) (z_repr : PySem.W.nsIn K mainGlobals "repr" = some none) (z_str : PySem.W.nsIn K mainGlobals "str" = some none) (z_sum : PySem.W.nsIn K mainGlobals "sum" = some none) (z_tuple : PySem.W.nsIn K mainGlobals "tuple" = some none) (z_zip : PySem.W.nsIn K mainGlobals "zip" = some none)  :
    ∃ fd : FuncData, (∀ (s : Shared) (v : Value), BindsTo s fd ⟨[v], []⟩ [("_law_script", v)]) ∧ ∀ base : Heap, K.In base → base.Ns mainGlobals mg → FnG P w K mg base 15 fa fd ["_law_script"] (spP K 1 .sh F_law) := by
  have e := hfa.symm.trans (PySem.W.mg_of X G a37)
  cases e
  have TC_Bound : TxC K mg "Bound" ["n", "d", "is_out"] C_Bound := ⟨aC_Bound, PySem.W.mg_of X G aC_Bound, ⟨pg_Bound, hd_Bound, po_Bound, sa_Bound⟩, by simp only [List.forall_mem_cons]; exact ⟨n_Bound_n, n_Bound_d, n_Bound_is_out, by simp⟩⟩
  have TI_Bound : TxI K mg "Bound" "Bound.__init__" ["n", "d", "is_out"] s_Bound_init ["self", "n", "d", "is_out"] := ⟨_, _, _, TC_Bound, fun_mk (st := s_Bound_init) lI_Bound cI_Bound kI_Bound, ⟨mk_Bound, aI_Bound, iI_Bound, kc_Bound⟩, (fun_mk (st := s_Bound_init) lI_Bound cI_Bound kI_Bound).binds (ps := ["self", "n", "d", "is_out"]) fun _ _ _ _ _ _ us hl => match us, hl with | [_, _, _, _], _ => rfl⟩
  have T0 : TxF K mg "is_whole" s_is_whole ["thing"] := ⟨_, _, fun_mk (st := s_is_whole) l0 c0 k0, (fun_mk (st := s_is_whole) l0 c0 k0).binds (ps := ["thing"]) fun _ _ _ _ _ _ us hl => match us, hl with | [_], _ => rfl, PySem.W.mg_of X G a0⟩
  have T1 : TxF K mg "is_share" s_is_share ["k", "m"] := ⟨_, _, fun_mk (st := s_is_share) l1 c1 k1, (fun_mk (st := s_is_share) l1 c1 k1).binds (ps := ["k", "m"]) fun _ _ _ _ _ _ us hl => match us, hl with | [_, _], _ => rfl, PySem.W.mg_of X G a1⟩
  have T2 : TxF K mg "is_met_at" s_is_met_at ["grain", "line", "corner", "k", "m"] := ⟨_, _, fun_mk (st := s_is_met_at) l2 c2 k2, (fun_mk (st := s_is_met_at) l2 c2 k2).binds (ps := ["grain", "line", "corner", "k", "m"]) fun _ _ _ _ _ _ us hl => match us, hl with | [_, _, _, _, _], _ => rfl, PySem.W.mg_of X G a2⟩
  have T3 : TxF K mg "is_missed_by" s_is_missed_by ["grain", "line", "corner", "p", "q", "r"] := ⟨_, _, fun_mk (st := s_is_missed_by) l3 c3 k3, (fun_mk (st := s_is_missed_by) l3 c3 k3).binds (ps := ["grain", "line", "corner", "p", "q", "r"]) fun _ _ _ _ _ _ us hl => match us, hl with | [_, _, _, _, _, _], _ => rfl, PySem.W.mg_of X G a3⟩
  have T4 : TxF K mg "meets_holds" s_meets_holds ["grain", "line", "corner", "thing"] := ⟨_, _, fun_mk (st := s_meets_holds) l4 c4 k4, (fun_mk (st := s_meets_holds) l4 c4 k4).binds (ps := ["grain", "line", "corner", "thing"]) fun _ _ _ _ _ _ us hl => match us, hl with | [_, _, _, _], _ => rfl, PySem.W.mg_of X G a4⟩
  have T5 : TxM K mg "Bound" "is_ahead_of" "Bound.is_ahead_of" ["n", "d", "is_out"] s_Bound_is_ahead_of ["self", "other"] := ⟨_, _, _, TC_Bound, fun_mk (st := s_Bound_is_ahead_of) l5 c5 k5, ⟨a5, i5, k5⟩, (fun_mk (st := s_Bound_is_ahead_of) l5 c5 k5).binds (ps := ["self", "other"]) fun _ _ _ _ _ _ us hl => match us, hl with | [_, _], _ => rfl⟩
  have T6 : TxM K mg "Bound" "is_at" "Bound.is_at" ["n", "d", "is_out"] s_Bound_is_at ["self", "other"] := ⟨_, _, _, TC_Bound, fun_mk (st := s_Bound_is_at) l6 c6 k6, ⟨a6, i6, k6⟩, (fun_mk (st := s_Bound_is_at) l6 c6 k6).binds (ps := ["self", "other"]) fun _ _ _ _ _ _ us hl => match us, hl with | [_, _], _ => rfl⟩
  have T7 : TxF K mg "later" s_later ["one", "other"] := ⟨_, _, fun_mk (st := s_later) l7 c7 k7, (fun_mk (st := s_later) l7 c7 k7).binds (ps := ["one", "other"]) fun _ _ _ _ _ _ us hl => match us, hl with | [_, _], _ => rfl, PySem.W.mg_of X G a7⟩
  have T8 : TxF K mg "sooner" s_sooner ["one", "other"] := ⟨_, _, fun_mk (st := s_sooner) l8 c8 k8, (fun_mk (st := s_sooner) l8 c8 k8).binds (ps := ["one", "other"]) fun _ _ _ _ _ _ us hl => match us, hl with | [_, _], _ => rfl, PySem.W.mg_of X G a8⟩
  have T9 : TxF K mg "rims_of" s_rims_of ["grain", "number"] := ⟨_, _, fun_mk (st := s_rims_of) l9 c9 k9, (fun_mk (st := s_rims_of) l9 c9 k9).binds (ps := ["grain", "number"]) fun _ _ _ _ _ _ us hl => match us, hl with | [_, _], _ => rfl, PySem.W.mg_of X G a9⟩
  have T10 : TxF K mg "bounds_between" s_bounds_between ["first", "way", "low", "high"] := ⟨_, _, fun_mk (st := s_bounds_between) l10 c10 k10, (fun_mk (st := s_bounds_between) l10 c10 k10).binds (ps := ["first", "way", "low", "high"]) fun _ _ _ _ _ _ us hl => match us, hl with | [_, _, _, _], _ => rfl, PySem.W.mg_of X G a10⟩
  have T11 : TxF K mg "met_between" s_met_between ["grain", "line", "corner"] := ⟨_, _, fun_mk (st := s_met_between) l11 c11 k11, (fun_mk (st := s_met_between) l11 c11 k11).binds (ps := ["grain", "line", "corner"]) fun _ _ _ _ _ _ us hl => match us, hl with | [_, _, _], _ => rfl, PySem.W.mg_of X G a11⟩
  have T12 : TxF K mg "share_between" s_share_between ["start", "stop"] := ⟨_, _, fun_mk (st := s_share_between) l12 c12 k12, (fun_mk (st := s_share_between) l12 c12 k12).binds (ps := ["start", "stop"]) fun _ _ _ _ _ _ us hl => match us, hl with | [_, _], _ => rfl, PySem.W.mg_of X G a12⟩
  have T13 : TxF K mg "greatest_in" s_greatest_in ["grain", "corner", "p", "q"] := ⟨_, _, fun_mk (st := s_greatest_in) l13 c13 k13, (fun_mk (st := s_greatest_in) l13 c13 k13).binds (ps := ["grain", "corner", "p", "q"]) fun _ _ _ _ _ _ us hl => match us, hl with | [_, _, _, _], _ => rfl, PySem.W.mg_of X G a13⟩
  have T14 : TxF K mg "least_on" s_least_on ["line", "p", "q"] := ⟨_, _, fun_mk (st := s_least_on) l14 c14 k14, (fun_mk (st := s_least_on) l14 c14 k14).binds (ps := ["line", "p", "q"]) fun _ _ _ _ _ _ us hl => match us, hl with | [_, _, _], _ => rfl, PySem.W.mg_of X G a14⟩
  have T15 : TxF K mg "is_past" s_is_past ["grain", "line", "corner", "p", "q"] := ⟨_, _, fun_mk (st := s_is_past) l15 c15 k15, (fun_mk (st := s_is_past) l15 c15 k15).binds (ps := ["grain", "line", "corner", "p", "q"]) fun _ _ _ _ _ _ us hl => match us, hl with | [_, _, _, _, _], _ => rfl, PySem.W.mg_of X G a15⟩
  have T16 : TxF K mg "way_past" s_way_past ["grain", "line", "corner"] := ⟨_, _, fun_mk (st := s_way_past) l16 c16 k16, (fun_mk (st := s_way_past) l16 c16 k16).binds (ps := ["grain", "line", "corner"]) fun _ _ _ _ _ _ us hl => match us, hl with | [_, _, _], _ => rfl, PySem.W.mg_of X G a16⟩
  have T17 : TxF K mg "meets_paper" s_meets_paper ["grain", "line", "corner"] := ⟨_, _, fun_mk (st := s_meets_paper) l17 c17 k17, (fun_mk (st := s_meets_paper) l17 c17 k17).binds (ps := ["grain", "line", "corner"]) fun _ _ _ _ _ _ us hl => match us, hl with | [_, _, _], _ => rfl, PySem.W.mg_of X G a17⟩
  have T18 : TxF K mg "_law_deck" s__law_deck ["_law_script"] := ⟨_, _, fun_mk (st := s__law_deck) l18 c18 k18, (fun_mk (st := s__law_deck) l18 c18 k18).binds (ps := ["_law_script"]) fun _ _ _ _ _ _ us hl => match us, hl with | [_], _ => rfl, PySem.W.mg_of X G a18⟩
  have T19 : TxF K mg "_law_draw" s__law_draw ["_law_deck_here", "_law_most"] := ⟨_, _, fun_mk (st := s__law_draw) l19 c19 k19, (fun_mk (st := s__law_draw) l19 c19 k19).binds (ps := ["_law_deck_here", "_law_most"]) fun _ _ _ _ _ _ us hl => match us, hl with | [_, _], _ => rfl, PySem.W.mg_of X G a19⟩
  have T20 : TxF K mg "_law_grain" s__law_grain ["_law_deck_here"] := ⟨_, _, fun_mk (st := s__law_grain) l20 c20 k20, (fun_mk (st := s__law_grain) l20 c20 k20).binds (ps := ["_law_deck_here"]) fun _ _ _ _ _ _ us hl => match us, hl with | [_], _ => rfl, PySem.W.mg_of X G a20⟩
  have T21 : TxF K mg "_law_point" s__law_point ["_law_deck_here", "_law_grain_here", "_law_way"] := ⟨_, _, fun_mk (st := s__law_point) l21 c21 k21, (fun_mk (st := s__law_point) l21 c21 k21).binds (ps := ["_law_deck_here", "_law_grain_here", "_law_way"]) fun _ _ _ _ _ _ us hl => match us, hl with | [_, _, _], _ => rfl, PySem.W.mg_of X G a21⟩
  have T22 : TxF K mg "_law_unlike" s__law_unlike ["_law_one", "_law_other"] := ⟨_, _, fun_mk (st := s__law_unlike) l22 c22 k22, (fun_mk (st := s__law_unlike) l22 c22 k22).binds (ps := ["_law_one", "_law_other"]) fun _ _ _ _ _ _ us hl => match us, hl with | [_, _], _ => rfl, PySem.W.mg_of X G a22⟩
  have T23 : TxF K mg "_law_line" s__law_line ["_law_deck_here", "_law_grain_here", "_law_lines_here"] := ⟨_, _, fun_mk (st := s__law_line) l23 c23 k23, (fun_mk (st := s__law_line) l23 c23 k23).binds (ps := ["_law_deck_here", "_law_grain_here", "_law_lines_here"]) fun _ _ _ _ _ _ us hl => match us, hl with | [_, _, _], _ => rfl, PySem.W.mg_of X G a23⟩
  have T24 : TxF K mg "_law_lines" s__law_lines ["_law_deck_here", "_law_grain_here", "_law_many"] := ⟨_, _, fun_mk (st := s__law_lines) l24 c24 k24, (fun_mk (st := s__law_lines) l24 c24 k24).binds (ps := ["_law_deck_here", "_law_grain_here", "_law_many"]) fun _ _ _ _ _ _ us hl => match us, hl with | [_, _, _], _ => rfl, PySem.W.mg_of X G a24⟩
  have T25 : TxF K mg "_law_moved" s__law_moved ["_law_lines_here", "_law_dx", "_law_dy"] := ⟨_, _, fun_mk (st := s__law_moved) l25 c25 k25, (fun_mk (st := s__law_moved) l25 c25 k25).binds (ps := ["_law_lines_here", "_law_dx", "_law_dy"]) fun _ _ _ _ _ _ us hl => match us, hl with | [_, _, _], _ => rfl, PySem.W.mg_of X G a25⟩
  have T26 : TxF K mg "_law_nearest" s__law_nearest ["_law_grain_here", "_law_spot"] := ⟨_, _, fun_mk (st := s__law_nearest) l26 c26 k26, (fun_mk (st := s__law_nearest) l26 c26 k26).binds (ps := ["_law_grain_here", "_law_spot"]) fun _ _ _ _ _ _ us hl => match us, hl with | [_, _], _ => rfl, PySem.W.mg_of X G a26⟩
  have T27 : TxF K mg "_law_far" s__law_far ["_law_deck_here"] := ⟨_, _, fun_mk (st := s__law_far) l27 c27 k27, (fun_mk (st := s__law_far) l27 c27 k27).binds (ps := ["_law_deck_here"]) fun _ _ _ _ _ _ us hl => match us, hl with | [_], _ => rfl, PySem.W.mg_of X G a27⟩
  have T28 : TxF K mg "_law_some_line" s__law_some_line ["_law_deck_here", "_law_grain_here"] := ⟨_, _, fun_mk (st := s__law_some_line) l28 c28 k28, (fun_mk (st := s__law_some_line) l28 c28 k28).binds (ps := ["_law_deck_here", "_law_grain_here"]) fun _ _ _ _ _ _ us hl => match us, hl with | [_, _], _ => rfl, PySem.W.mg_of X G a28⟩
  have T29 : TxF K mg "_law_near" s__law_near ["_law_deck_here", "_law_grain_here", "_law_line_here"] := ⟨_, _, fun_mk (st := s__law_near) l29 c29 k29, (fun_mk (st := s__law_near) l29 c29 k29).binds (ps := ["_law_deck_here", "_law_grain_here", "_law_line_here"]) fun _ _ _ _ _ _ us hl => match us, hl with | [_, _, _], _ => rfl, PySem.W.mg_of X G a29⟩
  have T30 : TxF K mg "_law_is_whole" s__law_is_whole ["_law_thing"] := ⟨_, _, fun_mk (st := s__law_is_whole) l30 c30 k30, (fun_mk (st := s__law_is_whole) l30 c30 k30).binds (ps := ["_law_thing"]) fun _ _ _ _ _ _ us hl => match us, hl with | [_], _ => rfl, PySem.W.mg_of X G a30⟩
  have T31 : TxF K mg "_law_is_paper" s__law_is_paper ["_law_grain_here", "_law_line_here", "_law_corner", "_law_thing"] := ⟨_, _, fun_mk (st := s__law_is_paper) l31 c31 k31, (fun_mk (st := s__law_is_paper) l31 c31 k31).binds (ps := ["_law_grain_here", "_law_line_here", "_law_corner", "_law_thing"]) fun _ _ _ _ _ _ us hl => match us, hl with | [_, _, _, _], _ => rfl, PySem.W.mg_of X G a31⟩
  have T32 : TxF K mg "_law_spots" s__law_spots ["_law_thing"] := ⟨_, _, fun_mk (st := s__law_spots) l32 c32 k32, (fun_mk (st := s__law_spots) l32 c32 k32).binds (ps := ["_law_thing"]) fun _ _ _ _ _ _ us hl => match us, hl with | [_], _ => rfl, PySem.W.mg_of X G a32⟩
  have T33 : TxF K mg "_law_with" s__law_with ["_law_thing", "_law_spot", "_law_part"] := ⟨_, _, fun_mk (st := s__law_with) l33 c33 k33, (fun_mk (st := s__law_with) l33 c33 k33).binds (ps := ["_law_thing", "_law_spot", "_law_part"]) fun _ _ _ _ _ _ us hl => match us, hl with | [_, _, _], _ => rfl, PySem.W.mg_of X G a33⟩
  have T34 : TxF K mg "_law_bent" s__law_bent ["_law_thing", "_law_spoil"] := ⟨_, _, fun_mk (st := s__law_bent) l34 c34 k34, (fun_mk (st := s__law_bent) l34 c34 k34).binds (ps := ["_law_thing", "_law_spoil"]) fun _ _ _ _ _ _ us hl => match us, hl with | [_, _], _ => rfl, PySem.W.mg_of X G a34⟩
  have T35 : TxF K mg "_law_spoils" s__law_spoils ["_law_deck_here", "_law_many"] := ⟨_, _, fun_mk (st := s__law_spoils) l35 c35 k35, (fun_mk (st := s__law_spoils) l35 c35 k35).binds (ps := ["_law_deck_here", "_law_many"]) fun _ _ _ _ _ _ us hl => match us, hl with | [_, _], _ => rfl, PySem.W.mg_of X G a35⟩
  have T36 : TxF K mg "_law_told" s__law_told ["_law_grain_here", "_law_line_here", "_law_corner", "_law_thing"] := ⟨_, _, fun_mk (st := s__law_told) l36 c36 k36, (fun_mk (st := s__law_told) l36 c36 k36).binds (ps := ["_law_grain_here", "_law_line_here", "_law_corner", "_law_thing"]) fun _ _ _ _ _ _ us hl => match us, hl with | [_, _, _, _], _ => rfl, PySem.W.mg_of X G a36⟩
  have T37 : TxF K mg "law" s_law ["_law_script"] := ⟨_, _, fun_mk (st := s_law) l37 c37 k37, (fun_mk (st := s_law) l37 c37 k37).binds (ps := ["_law_script"]) fun _ _ _ _ _ _ us hl => match us, hl with | [_], _ => rfl, PySem.W.mg_of X G a37⟩
  refine ⟨PySem.W.fnOf "law" "law" (defArgs s_law) (defBody s_law) (defScope s_law) .none kV37 dc37 pm37 an37 cd37 ct37, fun s v => .of_eq rfl, fun base _ _ => ?_⟩
  have K_Bound : MkT P w K mg base 1 "Bound" ["n", "d", "is_out"] := mkc_Bound (P := P) (w := w) (base := base) TI_Bound
  have H_is_whole : CalP P w K mg base 1 "is_whole" 1 (.sh) F_is_whole := ok_is_whole (P := P) (w := w) (base := base) T0 (PySem.W.mg_none_of X G z_bool) (PySem.W.mg_none_of X G z_int) (PySem.W.mg_none_of X G z_isinstance)
  have H_is_share : CalP P w K mg base 2 "is_share" 2 (.sh) F_is_share := ok_is_share (P := P) (w := w) (base := base) T1 H_is_whole
  have H_is_met_at : CalP P w K mg base 1 "is_met_at" 5 (.sh) F_is_met_at := ok_is_met_at (P := P) (w := w) (base := base) T2 (PySem.W.mg_none_of X G z_zip)
  have H_is_missed_by : CalP P w K mg base 1 "is_missed_by" 6 (.sh) F_is_missed_by := ok_is_missed_by (P := P) (w := w) (base := base) T3 (PySem.W.mg_none_of X G z_all) (PySem.W.mg_none_of X G z_max)
  have H_meets_holds : CalP P w K mg base 3 "meets_holds" 4 (.sh) F_meets_holds := ok_meets_holds (P := P) (w := w) (base := base) T4 H_is_missed_by H_is_share H_is_met_at H_is_whole (PySem.W.mg_none_of X G z_all) (PySem.W.mg_none_of X G z_isinstance) (PySem.W.mg_none_of X G z_len) (PySem.W.mg_none_of X G z_str) (PySem.W.mg_none_of X G z_tuple)
  have H_Bound_is_ahead_of : CalM P w K mg base 1 "Bound" "is_ahead_of" 2 (.sh) F_Bound_is_ahead_of := ok_Bound_is_ahead_of (P := P) (w := w) (base := base) T5
  have H_Bound_is_at : CalM P w K mg base 1 "Bound" "is_at" 2 (.sh) F_Bound_is_at := ok_Bound_is_at (P := P) (w := w) (base := base) T6
  have H_later : CalP P w K mg base 2 "later" 2 (.sh) F_later := ok_later (P := P) (w := w) (base := base) T7 H_Bound_is_ahead_of H_Bound_is_at
  have H_sooner : CalP P w K mg base 2 "sooner" 2 (.sh) F_sooner := ok_sooner (P := P) (w := w) (base := base) T8 H_Bound_is_ahead_of H_Bound_is_at
  have H_rims_of : CalP P w K mg base 1 "rims_of" 2 (.sh) F_rims_of := ok_rims_of (P := P) (w := w) (base := base) T9
  have H_bounds_between : CalP P w K mg base 3 "bounds_between" 4 (.sh) F_bounds_between := ok_bounds_between (P := P) (w := w) (base := base) T10 K_Bound
  have H_met_between : CalP P w K mg base 4 "met_between" 3 (.sh) F_met_between := ok_met_between (P := P) (w := w) (base := base) T11 H_rims_of H_bounds_between H_later H_sooner H_Bound_is_ahead_of H_Bound_is_at K_Bound (PySem.W.mg_none_of X G z_zip)
  have H_share_between : CalP P w K mg base 1 "share_between" 2 (.sh) F_share_between := ok_share_between (P := P) (w := w) (base := base) T12
  have H_greatest_in : CalP P w K mg base 2 "greatest_in" 4 (.sh) F_greatest_in := ok_greatest_in (P := P) (w := w) (base := base) T13 H_rims_of (PySem.W.mg_none_of X G z_max)
  have H_least_on : CalP P w K mg base 1 "least_on" 3 (.sh) F_least_on := ok_least_on (P := P) (w := w) (base := base) T14 (PySem.W.mg_none_of X G z_min)
  have H_is_past : CalP P w K mg base 3 "is_past" 5 (.sh) F_is_past := ok_is_past (P := P) (w := w) (base := base) T15 H_least_on H_greatest_in
  have H_way_past : CalP P w K mg base 4 "way_past" 3 (.sh) F_way_past := ok_way_past (P := P) (w := w) (base := base) T16 H_is_past
  have H_meets_paper : CalP P w K mg base 5 "meets_paper" 3 (.sh) F_meets_paper := ok_meets_paper (P := P) (w := w) (base := base) T17 H_met_between H_way_past H_least_on H_share_between
  have H__law_deck : CalP P w K mg base 1 "_law_deck" 1 (.ol (.ol .sh .sh) .sh) F__law_deck := ok__law_deck (P := P) (w := w) (base := base) T18 (PySem.W.mg_none_of X G z_len) (PySem.W.mg_none_of X G z_list) (PySem.W.mg_none_of X G z_sum)
  have H__law_draw : CalF P w K mg base 1 "_law_draw" [.ol (.ol .sh .sh) .sh, .sh] (.sh) F__law_draw := ok__law_draw (P := P) (w := w) (base := base) T19
  have H__law_grain : CalF P w K mg base 2 "_law_grain" [.ol (.ol .sh .sh) .sh] (.sh) F__law_grain := ok__law_grain (P := P) (w := w) (base := base) T20 H__law_draw
  have H__law_point : CalF P w K mg base 2 "_law_point" [.ol (.ol .sh .sh) .sh, .sh, .sh] (.sh) F__law_point := ok__law_point (P := P) (w := w) (base := base) T21 H__law_draw
  have H__law_unlike : CalP P w K mg base 1 "_law_unlike" 2 (.sh) F__law_unlike := ok__law_unlike (P := P) (w := w) (base := base) T22 (PySem.W.mg_none_of X G z_int)
  have H__law_line : CalF P w K mg base 3 "_law_line" [.ol (.ol .sh .sh) .sh, .sh, .sh] (.sh) F__law_line := ok__law_line (P := P) (w := w) (base := base) T23 H__law_draw H__law_point H__law_unlike (PySem.W.mg_none_of X G z_abs) (PySem.W.mg_none_of X G z_len) (PySem.W.mg_none_of X G z_max)
  have H__law_lines : CalF P w K mg base 4 "_law_lines" [.ol (.ol .sh .sh) .sh, .sh, .sh] (.sh) F__law_lines := ok__law_lines (P := P) (w := w) (base := base) T24 H__law_line (PySem.W.mg_none_of X G z_range) (PySem.W.mg_none_of X G z_tuple)
  have H__law_moved : CalP P w K mg base 1 "_law_moved" 3 (.sh) F__law_moved := ok__law_moved (P := P) (w := w) (base := base) T25 (PySem.W.mg_none_of X G z_tuple)
  have H__law_nearest : CalP P w K mg base 1 "_law_nearest" 2 (.sh) F__law_nearest := ok__law_nearest (P := P) (w := w) (base := base) T26
  have H__law_far : CalF P w K mg base 2 "_law_far" [.ol (.ol .sh .sh) .sh] (.sh) F__law_far := ok__law_far (P := P) (w := w) (base := base) T27 H__law_draw
  have H__law_some_line : CalF P w K mg base 5 "_law_some_line" [.ol (.ol .sh .sh) .sh, .sh] (.sh) F__law_some_line := ok__law_some_line (P := P) (w := w) (base := base) T28 H__law_lines H__law_draw H__law_moved H__law_far (PySem.W.mg_none_of X G z_int) (PySem.W.mg_none_of X G z_range)
  have H__law_near : CalF P w K mg base 2 "_law_near" [.ol (.ol .sh .sh) .sh, .sh, .sh] (.sh) F__law_near := ok__law_near (P := P) (w := w) (base := base) T29 H__law_draw H__law_nearest (PySem.W.mg_none_of X G z_max) (PySem.W.mg_none_of X G z_min)
  have H__law_is_whole : CalP P w K mg base 1 "_law_is_whole" 1 (.sh) F__law_is_whole := ok__law_is_whole (P := P) (w := w) (base := base) T30 (PySem.W.mg_none_of X G z_bool) (PySem.W.mg_none_of X G z_int) (PySem.W.mg_none_of X G z_isinstance)
  have H__law_is_paper : CalP P w K mg base 2 "_law_is_paper" 4 (.sh) F__law_is_paper := ok__law_is_paper (P := P) (w := w) (base := base) T31 H__law_is_whole (PySem.W.mg_none_of X G z_int) (PySem.W.mg_none_of X G z_isinstance) (PySem.W.mg_none_of X G z_len) (PySem.W.mg_none_of X G z_str) (PySem.W.mg_none_of X G z_tuple) (PySem.W.mg_none_of X G z_zip)
  have H__law_spots : CalP P w K mg base 13 "_law_spots" 1 (.sh) F__law_spots := ok__law_spots (P := P) (w := w) (base := base) T32 (PySem.W.mg_none_of X G z_isinstance) (PySem.W.mg_none_of X G z_len) (PySem.W.mg_none_of X G z_range) (PySem.W.mg_none_of X G z_tuple)
  have H__law_with : CalP P w K mg base 13 "_law_with" 3 (.sh) F__law_with := ok__law_with (P := P) (w := w) (base := base) T33
  have H__law_bent : CalP P w K mg base 14 "_law_bent" 2 (.sh) F__law_bent := ok__law_bent (P := P) (w := w) (base := base) T34 H__law_spots H__law_with (PySem.W.mg_none_of X G z_int) (PySem.W.mg_none_of X G z_isinstance) (PySem.W.mg_none_of X G z_len) (PySem.W.mg_none_of X G z_list) (PySem.W.mg_none_of X G z_str) (PySem.W.mg_none_of X G z_tuple)
  have H__law_spoils : CalF P w K mg base 2 "_law_spoils" [.ol (.ol .sh .sh) .sh, .sh] (.sh) F__law_spoils := ok__law_spoils (P := P) (w := w) (base := base) T35 H__law_draw (PySem.W.mg_none_of X G z_range)
  have H__law_told : CalP P w K mg base 4 "_law_told" 4 (.sh) F__law_told := ok__law_told (P := P) (w := w) (base := base) T36 H_meets_holds H__law_is_paper (PySem.W.mg_none_of X G z_bool) (PySem.W.mg_none_of X G z_isinstance) (PySem.W.mg_none_of X G z_repr)
  exact ok_law (fun_mk (st := s_law) l37 c37 k37) H__law_deck H__law_spoils H__law_grain H__law_some_line H__law_near H__law_told H__law_bent H_meets_paper H__law_draw (PySem.W.mg_none_of X G z_int) (PySem.W.mg_none_of X G z_list) (PySem.W.mg_none_of X G z_range)
end LW

namespace LW
open PySem PySem.Spec L2 CL
theorem draw_is : F__law_draw = drawF := rfl
theorem grain_is : F__law_grain = runF [DKt] 0 grainB := rfl
theorem some_is : F__law_some_line = CLX.F__law_some_line := rfl
theorem near_is : F__law_near = CLX.F__law_near := rfl
theorem holds_is : F_meets_holds = CLX.F_meets_holds := rfl
theorem paper_is : F__law_is_paper = CLX.F__law_is_paper := rfl
theorem told_is : F_meets_paper = CLX.F_meets_paper := rfl
theorem spots_eq : ∀ n, R__law_spots n = spots2R n
  | 0 => rfl
  | n + 1 => by simp only [R__law_spots, spots2R, spots_eq n]; rfl
theorem with_eq : ∀ n, R__law_with n = putR n
  | 0 => rfl
  | n + 1 => by simp only [R__law_with, putR, with_eq n]; rfl
theorem bent_is : F__law_bent = bent2F := by
  unfold F__law_bent B__law_bent F__law_spots F__law_with
  rw [spots_eq, with_eq]
  rfl
theorem spoils_is : F__law_spoils = spoils2F := rfl
local macro_rules | `(tactic| walk_at "o") => `(tactic| ((try simp only [backA, List.set_cons_zero, List.set_cons_succ, wipeD, List.map_cons, List.map_nil, List.cons_append, List.nil_append, List.replicate_succ, List.replicate_zero]); first | done | rfl))
local macro_rules | `(tactic| walk_at "b") => `(tactic| first
  | with_reducible exact Nb.lit
  | ((with_reducible apply Nb.mul) <;> walk_at "b")
  | ((with_reducible apply Nb.add) <;> walk_at "b")
  | ((with_reducible apply Nb.sub) <;> walk_at "b")
  | ((with_reducible apply Nb.neg) <;> walk_at "b")
  | ((with_reducible apply Nb.fdiv) <;> walk_at "b")
  | ((with_reducible apply Nb.fmod); (· walk_at "z"); (· walk_at "b"))
  | ((with_reducible apply Nb.max) <;> walk_at "b")
  | ((with_reducible apply Nb.min) <;> walk_at "b")
  | ((with_reducible apply Nb.ite) <;> walk_at "b")
  | with_reducible assumption
  | with_reducible exact Nb.le (by assumption)
  | with_reducible exact Nb.nle (by assumption)
  | with_reducible exact Nb.lt (by assumption)
  | ((with_reducible apply Nb.rng (by assumption) (by assumption)) <;> walk_at "b")
  | ((with_reducible apply Nb.rngE (by assumption) (by assumption)) <;> walk_at "b")
  | with_reducible exact Nb.self _)
local macro_rules | `(tactic| walk_at "z") => `(tactic| first | decide | assumption | omega | exact fmod_nn (by omega) | exact fmod_lt (by omega))
local macro_rules | `(tactic| walk_at "e") => `(tactic| first
  | ((with_reducible refine is_ev ?_); first
    | ((with_reducible apply mul_st); (· walk_at "b"); (· walk_at "b"); (· rfl))
    | ((with_reducible apply mul_s1); (· walk_at "b"); (· rfl))
    | ((with_reducible apply mul_s2); (· walk_at "b"); (· rfl))
    | ((with_reducible apply div_st); (· walk_at "z"); (· walk_at "b"); (· rfl))
    | ((with_reducible apply mod_st); (· walk_at "z"))
    | with_reducible apply tup_pt
    | with_reducible apply tup_ln
    | ((with_reducible apply tup_st); (· rfl))
    | ((with_reducible apply lst_st); (· rfl))
    | with_reducible apply eqi_st
    | with_reducible apply nei_st
    | with_reducible apply eqp_st
    | with_reducible apply nep_st
    | with_reducible apply eqp_st'
    | with_reducible apply nep_st'
    | with_reducible apply eqb_st
    | with_reducible apply neb_st
    | with_reducible apply isb_st
    | with_reducible apply eqs_st
    | with_reducible apply nes_st
    | with_reducible refine ix2bi (fun _ _ _ => ?_)
    | ((with_reducible refine ix4i ?_ ?_ (fun _ _ _ => ?_)); (· walk_at "z"); (· walk_at "z"))
    | ((with_reducible refine ix2i ?_ ?_ (fun _ _ _ => ?_)); (· walk_at "z"); (· walk_at "z"))
    | ((with_reducible refine ix3i ?_ ?_ (fun _ _ _ => ?_)); (· walk_at "z"); (· walk_at "z"))
    | refine ⟨_, rfl, ?_⟩)
  | ((with_reducible refine fill_st ?_); refine ⟨_, rfl, ?_⟩; (try dsimp only))
  | ((with_reducible apply and_go rfl); (· (intro _; (repeat walk_at "s"); with_reducible exact ⟨rfl, rfl⟩)))
  | ((with_reducible refine is_chain ?_); (apply chain_go rfl); (· (intro _; (repeat walk_at "s"); exact ⟨rfl, rfl⟩)))
  | ((with_reducible refine draw_step (by assumption) ?_ ?_ (fun _ _ _ _ _ => ?_)); (· walk_at "z"); (· walk_at "z"))
  | ((with_reducible refine CLY.draw_step (by assumption) ?_ ?_ (fun _ _ _ _ _ => ?_)); (· walk_at "z"); (· walk_at "z"))
  | ((with_reducible refine is_evA ?_); refine ⟨_, rfl, ?_⟩)
  | ((with_reducible refine is_evL ?_); refine ⟨_, rfl, ?_⟩)
  | ((with_reducible refine is_evI ?_); refine ⟨_, rfl, ?_⟩)
  | ((with_reducible refine is_evR ?_); refine ⟨_, rfl, ?_⟩))
local macro_rules | `(tactic| walk_at "f") => `(tactic| first
  | with_reducible refine W_mV.mpr ?_
  | with_reducible refine W_mCons.mpr ?_
  | with_reducible refine W_m2.mpr ?_
  | with_reducible refine W_mC.mpr ?_
  | with_reducible refine W_mNil.mpr ?_
  | with_reducible refine W_mN.mpr ?_
  | with_reducible refine W_sSeq.mpr ?_
  | with_reducible refine W_sAsg.mpr ?_
  | with_reducible refine W_m1.mpr ?_
  | with_reducible refine W_mCallP.mpr ?_
  | with_reducible refine W_mCall.mpr ?_
  | with_reducible refine X_evI.mpr ?_
  | with_reducible refine X_evE.mpr ?_
  | with_reducible refine X_evN.mpr ?_
  | with_reducible refine X_if ?_
  | with_reducible refine W_sRet.mpr ?_
  | with_reducible refine W_sK.mpr ?_
  | with_reducible refine X_and ?_
  | with_reducible refine X_or ?_
  | with_reducible refine W_sPar.mpr ?_
  | with_reducible refine W_mSl.mpr ?_
  | with_reducible refine W_mPtN.mpr ?_
  | with_reducible refine W_mPtS.mpr ?_
  | with_reducible refine W_mIt.mpr ?_
  | with_reducible refine W_mItN.mpr ?_
  | with_reducible refine W_mComp.mpr ?_
  | ((with_reducible refine is_comp ?_); first | (apply X_compN; (· walk_at "o")) | ((with_reducible apply X_compY); (· walk_at "o"); (· rfl)))
  | with_reducible refine W_sFor.mpr ?_
  | ((with_reducible refine is_for ?_); refine W_forNil.mpr ?_)
  | with_reducible refine X_chain ?_
  | with_reducible refine W_sExp.mpr ?_
  | with_reducible refine W_mL.mpr ?_
  | with_reducible refine X_mif ?_
  | with_reducible refine W_mIxS.mpr ?_
  | with_reducible refine W_mYes.mpr ?_
  | with_reducible refine W_sPar3.mpr ?_
  | with_reducible refine W_mApp.mpr ?_
  | with_reducible refine W_mBor.mpr ?_
  | with_reducible refine CLX.W_sFz.mpr ?_)
local macro_rules | `(tactic| walk_at "s") => `(tactic| first
  | ((with_reducible refine is_W ?_); walk_at "f")
  | ((with_reducible refine is_ex ?_); first
    | ((with_reducible refine is_evS ?_); refine ⟨_, rfl, ?_⟩)
    | ((with_reducible apply call_st); (· with_reducible assumption))
    | with_reducible refine ⟨_, by with_reducible assumption, ?_⟩
    | walk_at "e")
  | ((with_reducible apply X_nx); (· walk_at "o"))
  | with_reducible refine Kq_ret.mpr ?_
  | with_reducible refine Kq_brk.mpr ?_
  | with_reducible refine Kq_cnt.mpr ?_
  | ((with_reducible apply X_fnx); (· walk_at "o"))
  | ((with_reducible apply X_fcnt); (· walk_at "o"))
  | with_reducible refine X_fbrk ?_
  | with_reducible refine X_fret ?_
  | ((with_reducible refine is_ltA ?_); refine ⟨?_, ?_⟩; (· first | decide | omega | (simp; omega) | (simp; done)))
  | with_reducible refine parW_mk.mpr ?_
  | with_reducible refine par3W_mk.mpr ?_)
local macro_rules | `(tactic| walk_at "r") => `(tactic| repeat walk_at "s")
local macro_rules | `(tactic| walk_at "u") => `(tactic| first | ((apply X_forC); (· walk_at "o"); (· rfl)) | ((apply X_compY); (· walk_at "o"); (· rfl)) | ((apply X_compC); (· walk_at "o"); (· rfl)))
local macro_rules | `(tactic| walk_at "g") => `(tactic| repeat first | walk_at "s" | (with_reducible refine go_ifF (rfl : _ = false) ?_) | (with_reducible refine go_ifT (rfl : _ = true) ?_) | (refine go_ifF (rfl : _ = false) ?_) | (refine go_ifT (rfl : _ = true) ?_) | walk_at "u")
theorem told_ok {g x y u v i j : Int} {d : D} {b n : Nat} (g0 : 0 < g) (hg : g.natAbs ≤ 1000) (hx : x.natAbs ≤ 10000000) (hy : y.natAbs ≤ 10000000) (hu : u.natAbs ≤ 10000000) (hv : v.natAbs ≤ 10000000) (hi : i.natAbs ≤ 10000000) (hj : j.natAbs ≤ 10000000) (h : D.gd b n d = true) (hb : b ≤ 400) (hn : n ≤ 60) (hw : d.wtE ≤ 100000) :
    F__law_told [.int g, ln x y u v, pt i j, d] = .ok (.bl true) := by
  have E1 := CLX.holds_eq (d := d) g0 hg hx hy hu hv hi hj (gd_nn h) (gd_nnL h)
  have E2 := CLX.paper_eq (d := d) g0 hg hx hy hu hv hi hj (gd_nn h) (gd_nnL h)
  have E3 := repr_gd h hb hn hw
  refine runP_of ?_
  unfold B__law_told
  rw [holds_is, paper_is]
  walk_at "r"
  simp
theorem le4 {x : Int} (h : x.natAbs ≤ 1000004) : x.natAbs ≤ 10000000 := Nat.le_trans h (by decide)
theorem le0 {x : Int} (h : x.natAbs ≤ 1000000) : x.natAbs ≤ 10000000 := Nat.le_trans h (by decide)
/-- a paper's form -/
def Pap (d : D) : Prop := ∃ l, d = .tup l ∧ D.gd 300 1 d = true ∧ d.wtE ≤ 2100 ∧ l.length ≤ 10
theorem gdi {b n : Nat} {i : Int} (h : i.natAbs < 2 ^ b) : D.gd b n (.int i) = true := by simp only [D.gd, decide_eq_true_eq]; exact h
theorem gds {n : Nat} {s : String} (h : D.gd 0 0 (.str s) = true) : D.gd 300 n (.str s) = true := gd_mono (by omega) _ (by omega) h
theorem pap3 {k m : Int} (h1 : k.natAbs < 2 ^ 300) (h2 : m.natAbs < 2 ^ 300) : Pap (.tup [.str "meets", .int k, .int m]) := by
  have hs : D.gd 0 0 (.str (("meets" : String) : Str)) = true := by decide +kernel
  refine ⟨_, rfl, ?_, ?_, by simp⟩
  · simp only [D.gd]
    refine gdL_iff.mpr ?_
    simp only [List.forall_mem_cons]
    exact ⟨gds hs, gdi h1, gdi h2, by simp⟩
  · have := str_wt hs
    simp only [D.wtE, D.wtEL] at *
    omega
theorem pap4 {k m r : Int} (h1 : k.natAbs < 2 ^ 300) (h2 : m.natAbs < 2 ^ 300) (h3 : r.natAbs < 2 ^ 300) : Pap (.tup [.str "misses", .int k, .int m, .int r]) := by
  have hs : D.gd 0 0 (.str (("misses" : String) : Str)) = true := by decide +kernel
  refine ⟨_, rfl, ?_, ?_, by simp⟩
  · simp only [D.gd]
    refine gdL_iff.mpr ?_
    simp only [List.forall_mem_cons]
    exact ⟨gds hs, gdi h1, gdi h2, gdi h3, by simp⟩
  · have := str_wt hs
    simp only [D.wtE, D.wtEL] at *
    omega
theorem told_of {g x y u v i j : Int} (g0 : 0 < g) (hg : g.natAbs ≤ 1000) (hx : x.natAbs ≤ 10000000) (hy : y.natAbs ≤ 10000000) (hu : u.natAbs ≤ 10000000) (hv : v.natAbs ≤ 10000000) (hi : i.natAbs ≤ 10000000) (hj : j.natAbs ≤ 10000000) (n : ¬ (x = u ∧ y = v)) : ∃ d, CLX.F_meets_paper [.int g, ln x y u v, pt i j] = .ok d ∧ Pap d := by
  obtain ⟨d, e, h⟩ := CLX.told_eq g0 hg hx hy hu hv hi hj n
  refine ⟨d, e, ?_⟩
  rcases h with ⟨_, k, m, rfl, _, h1, h2⟩ | ⟨_, p, q, r, rfl, _, h1, h2, h3⟩
  · exact pap3 h1 h2
  · exact pap4 h1 h2 h3
/-- the odd things -/
theorem odd_ok {p : D} {l : List D} (e : p = .tup l) (h : D.gd 300 1 p = true) (hw : p.wtE ≤ 2100) : ∀ z ∈ ([.non, .int 0, .bl true, .str "meets", .tup [], .lst [], .dct [] [], .tup [.str "meets"], .tup [.str "misses", .int 0, .int 0, .int 0], .tup [.str "meets", .int 0, .int 0]] ++ [.tup [.str "meets", .int 1, .int 0], .lst l, .tup [p], .tup (l ++ [.int 0]), p] : List D), D.gd 300 60 z = true ∧ z.wtE ≤ 100000 := by
  have h0 : ∀ z ∈ ([.non, .int 0, .bl true, .str "meets", .tup [], .lst [], .dct [] [], .tup [.str "meets"], .tup [.str "misses", .int 0, .int 0, .int 0], .tup [.str "meets", .int 0, .int 0]] : List D), D.gd 300 60 z = true ∧ z.wtE ≤ 100000 := by decide +kernel
  have h9 : D.gd 300 60 (.tup [.str "meets", .int 1, .int 0]) = true ∧ (D.tup [.str "meets", .int 1, .int 0]).wtE ≤ 100000 := by decide +kernel
  subst e
  have hl : ∀ z ∈ l, D.gd 300 0 z = true := by simp only [D.gd] at h; exact gdL_iff.mp h
  have hw' : D.wtEL l ≤ 2100 := by simp only [D.wtE] at hw; omega
  intro z hz
  rcases List.mem_append.mp hz with hz | hz
  · exact h0 z hz
  · simp only [List.mem_cons, List.not_mem_nil, or_false] at hz
    rcases hz with rfl | rfl | rfl | rfl | rfl
    · exact h9
    · exact ⟨gd_mono (Nat.le_refl _) _ (by decide : 1 ≤ 60) (by simp only [D.gd]; exact gdL_iff.mpr hl), by simp only [D.wtE]; omega⟩
    · exact ⟨gd_mono (Nat.le_refl _) _ (by decide : 2 ≤ 60) (by simp only [D.gd]; exact gdL_iff.mpr (by simpa [D.gd] using h)), by simp only [D.wtE, D.wtEL] at *; omega⟩
    · refine ⟨gd_mono (Nat.le_refl _) _ (by decide : 1 ≤ 60) ?_, ?_⟩
      · simp only [D.gd]
        refine gdL_iff.mpr fun z hz => ?_
        rcases List.mem_append.mp hz with hz | hz
        · exact hl z hz
        · rw [List.mem_singleton.mp hz]; exact gdi (by decide)
      · simp only [D.wtE, wtEL_app, D.wtEL]; omega
    · exact ⟨gd_mono (Nat.le_refl _) _ (by decide : 1 ≤ 60) h, by omega⟩
theorem ix2P {x y : D} {b : Bool} {P R : D → Prop} (hx : R x) (hy : R y) (k : ∀ p, R p → P p) : ∃ d, bIx (.lst [x, y]) (.int (if b = true then 1 else 0)) = some d ∧ P d := ix2b (fun _ => k _ hy) fun _ => k _ hx
def S1 (ρ : Sl) : Prop := ∃ o0 dk o2 o3 o4 o5 o6 o7 o8 o9 o10 o11 o12 o13 o14 o15 o16, ρ = [o0, some dk, o2, o3, o4, o5, o6, o7, o8, o9, o10, o11, o12, o13, o14, o15, o16] ∧ Deck dk
def S2 (L : List D) (g : Int) (l : D) (a b r : Int) (ρ : Sl) : Prop := ∃ o0 dk o2 o8 o9 o10 o11 o12 o13 o14 o15 o16, ρ = [o0, some dk, o2, some (.lst L), some (.int g), some l, some (pt a b), some (.int r), o8, o9, o10, o11, o12, o13, o14, o15, o16] ∧ Deck dk
def S3 (L : List D) (g : Int) (l : D) (a b r : Int) (dk c p : D) (ρ : Sl) : Prop := ∃ o0 o2 o8 o11 o12 o13 o14 o15 o16, ρ = [o0, some dk, o2, some (.lst L), some (.int g), some l, some (pt a b), some (.int r), o8, some c, some p, o11, o12, o13, o14, o15, o16]
set_option maxHeartbeats 0 in
theorem law_true : ∀ ns : List Int, ns.length ≤ 63 → (∀ z ∈ ns, Builtin.Int.intBits z ≤ 1048576) → F_law [.scr ns] = .ok (.bl true) := by
  intro ns hl _
  obtain ⟨dk, h1, h2⟩ := deck_ok hl
  refine runP_of ?_
  unfold B_law
  rw [grain_is, some_is, near_is, told_is, bent_is, spoils_is, draw_is]
  walk_at "r"
  refine ⟨_, h1, ?_⟩
  walk_at "r"
  refine W_forInv S1 (fun p hp ρ hρ => ?_) ⟨_, _, _, _, _, _, _, _, _, _, _, _, _, _, _, _, _, rfl, h2⟩ fun ρ' h' => ?_
  · obtain ⟨o0, dk, o2, o3, o4, o5, o6, o7, o8, o9, o10, o11, o12, o13, o14, o15, o16, rfl, hd⟩ := hρ
    refine ⟨_, rfl, ?_⟩
    walk_at "r"
    refine spoils_step (n := 16) hd (by decide) fun L dk0 hL _ hd0 => ?_
    walk_at "r"
    refine grain_step hd0 fun g dk1 g0 g1 hd1 => ?_
    have hg : g.natAbs ≤ 1000 := by omega
    walk_at "r"
    refine CLX.some_step hd1 g0 g1 fun l dk2 hl hd2 => ?_
    obtain ⟨x, y, u, v, rfl, hx, hy, hu, hv, n⟩ := hl
    walk_at "r"
    refine W_forInv (S2 L g (ln x y u v) (y - v) (u - x) (2 * (y - v) * x + 2 * (u - x) * y)) (fun q hq ρ hρ => ?_) ⟨_, _, _, _, _, _, _, _, _, _, _, _, rfl, hd2⟩ fun ρ' h' => ?_
    · obtain ⟨o0, dk, o2, o8, o9, o10, o11, o12, o13, o14, o15, o16, rfl, hd⟩ := hρ
      obtain ⟨k, rfl⟩ : ∃ k : Int, q = .int k := by
        simp only [rangeL, List.mem_map] at hq
        obtain ⟨i, _, rfl⟩ := hq
        exact ⟨_, rfl⟩
      refine ⟨_, rfl, ?_⟩
      walk_at "r"
      refine CLX.near_step hd g0 g1 hx hy hu hv fun i j dk1 hi hj hd1 => ?_
      obtain ⟨d, e, hP⟩ := told_of g0 hg (le4 hx) (le4 hy) (le4 hu) (le4 hv) (le0 hi) (le0 hj) n
      walk_at "r"
      have hpp : ∀ p, Pap p → F__law_told [.int g, ln x y u v, pt i j, p] = .ok (.bl true) := fun p ⟨_, _, h1, h2, _⟩ => told_ok g0 hg (le4 hx) (le4 hy) (le4 hu) (le4 hv) (le0 hi) (le0 hj) h1 (by decide) (by decide) (by omega)
      rename_i dkz _ _ hdz
      have hP2 : Pap (.tup [.str "misses", .int (y - v), .int (u - x), .int (2 * (y - v) * x + 2 * (u - x) * y)]) := by
        have b1 : Nb 25 (y - v) := Nat.lt_of_le_of_lt (show (y - v).natAbs ≤ 2000008 by omega) (by decide)
        have b2 : Nb 25 (u - x) := Nat.lt_of_le_of_lt (show (u - x).natAbs ≤ 2000008 by omega) (by decide)
        have b3 : Nb 25 x := Nat.lt_of_le_of_lt hx (by decide)
        have b4 : Nb 25 y := Nat.lt_of_le_of_lt hy (by decide)
        have b5 : Nb 300 (2 * (y - v) * x + 2 * (u - x) * y) := ((((Nb.lit (n := 2)).mul b1).mul b3).add (((Nb.lit (n := 2)).mul b2).mul b4)).mono (by decide)
        exact pap4 (b1.mono (by decide)) (b2.mono (by decide)) b5
      refine ix2P hP hP2 fun p hp => ?_
      obtain ⟨pl, rfl, hp1, hp2, hp3⟩ := id hp
      have Ep := hpp _ hp
      walk_at "r"
      refine go_ifF rfl ?_
      walk_at "r"
      refine W_forInv (S3 L g (ln x y u v) (y - v) (u - x) (2 * (y - v) * x + 2 * (u - x) * y) dkz (pt i j) (.tup pl)) (fun q hq ρ hρ => ?_) ⟨_, _, _, _, _, _, _, _, _, rfl⟩ fun ρ' h' => ?_
      · obtain ⟨o0, o2, o8, o11, o12, o13, o14, o15, o16, rfl⟩ := hρ
        obtain ⟨a, b, c, e, rfl⟩ := hL q (List.mem_of_mem_drop (List.mem_of_mem_take hq))
        refine ⟨_, rfl, ?_⟩
        obtain ⟨d1, E1, g1', w1⟩ := bent_ok (way := a) (place := b) (what := c) hp1 (by decide) (by decide) (by decide) hp2 (by decide)
        obtain ⟨d2, E2, g2', w2⟩ := bent_ok (way := c.fmod 8) (place := c.fdiv 8) (what := b) g1' (by decide) (by decide) (by decide) w1 (by decide)
        have E3 := told_ok g0 hg (le4 hx) (le4 hy) (le4 hu) (le4 hv) (le0 hi) (le0 hj) g1' (by decide) (by decide) (by omega)
        have E4 := told_ok g0 hg (le4 hx) (le4 hy) (le4 hu) (le4 hv) (le0 hi) (le0 hj) g2' (by decide) (by decide) (by omega)
        walk_at "r"
        refine go_if (fun _ => ?_) fun _ => ?_
        · walk_at "r"
          refine go_ifF rfl ?_
          walk_at "r"
          exact ⟨.inl rfl, _, _, _, _, _, _, _, _, _, rfl⟩
        · walk_at "r"
          refine go_ifF rfl ?_
          walk_at "r"
          exact ⟨.inl rfl, _, _, _, _, _, _, _, _, _, rfl⟩
      · obtain ⟨o0, o2, o8, o11, o12, o13, o14, o15, o16, rfl⟩ := h'
        walk_at "r"
        refine ⟨.tup (pl ++ [.int 0]), by simp only [bAdd]; rw [if_pos (by simp; omega)], ?_⟩
        walk_at "r"
        refine W_forInv (S3 L g (ln x y u v) (y - v) (u - x) (2 * (y - v) * x + 2 * (u - x) * y) dkz (pt i j) (.tup pl)) (fun q hq ρ hρ => ?_) ⟨_, _, _, _, _, _, _, _, _, rfl⟩ fun ρ' h' => ?_
        · obtain ⟨o0, o2, o8, o11, o12, o13, o14, o15, o16, rfl⟩ := hρ
          obtain ⟨q1, q2⟩ := odd_ok rfl hp1 hp2 q hq
          have E4 := told_ok g0 hg (le4 hx) (le4 hy) (le4 hu) (le4 hv) (le0 hi) (le0 hj) q1 (by decide) (by decide) q2
          refine ⟨_, rfl, ?_⟩
          walk_at "r"
          refine go_ifF rfl ?_
          walk_at "r"
          exact ⟨.inl rfl, _, _, _, _, _, _, _, _, _, rfl⟩
        · obtain ⟨o0, o2, o8, o11, o12, o13, o14, o15, o16, rfl⟩ := h'
          exact ⟨.inl rfl, _, _, _, _, _, _, _, _, _, _, _, _, rfl, hdz⟩
    · obtain ⟨o0, dk, o2, o8, o9, o10, o11, o12, o13, o14, o15, o16, rfl, hd⟩ := h'
      exact ⟨.inl rfl, _, _, _, _, _, _, _, _, _, _, _, _, _, _, _, _, _, rfl, hd⟩
  · walk_at "r"
    rfl
end LW

open PySem PySem.W PyProof.Rows
set_option maxHeartbeats 0 in
theorem PySem.Challenge.cw_cornerlines_k19_papers_of_cells_spoilt_holds : PySem.Challenge.rw_cornerlines_k19_papers_of_cells_spoilt.Holds := by
  w_on; o_law; k_head; (case hw => w_witness2)
  k_fill
  refine CL.walk_cl (l := PySem.Challenge.rw_cornerlines_k19_papers_of_cells_spoilt) (n := 63) (k := 15) (x := "_law_script") (G := LW.F_law) rfl (by decide) rfl ⟨rfl, by decide, by decide⟩ (fun w h Y => PySem.W.kIn_of Y) ?F LW.law_true
  case F =>
    intro w mg fa h KX G hmg
    refine' LW.all_mk KX G hmg ?aC_Bound ?pg_Bound ?hd_Bound ?po_Bound ?sa_Bound ?mk_Bound ?kc_Bound ?n_Bound_n ?n_Bound_d ?n_Bound_is_out ?aI_Bound ?iI_Bound ?lI_Bound ?cI_Bound ?kI_Bound ?a0 ?l0 ?c0 ?k0 ?a1 ?l1 ?c1 ?k1 ?a2 ?l2 ?c2 ?k2 ?a3 ?l3 ?c3 ?k3 ?a4 ?l4 ?c4 ?k4 ?a5 ?i5 ?l5 ?c5 ?k5 ?a6 ?i6 ?l6 ?c6 ?k6 ?a7 ?l7 ?c7 ?k7 ?a8 ?l8 ?c8 ?k8 ?a9 ?l9 ?c9 ?k9 ?a10 ?l10 ?c10 ?k10 ?a11 ?l11 ?c11 ?k11 ?a12 ?l12 ?c12 ?k12 ?a13 ?l13 ?c13 ?k13 ?a14 ?l14 ?c14 ?k14 ?a15 ?l15 ?c15 ?k15 ?a16 ?l16 ?c16 ?k16 ?a17 ?l17 ?c17 ?k17 ?a18 ?l18 ?c18 ?k18 ?a19 ?l19 ?c19 ?k19 ?a20 ?l20 ?c20 ?k20 ?a21 ?l21 ?c21 ?k21 ?a22 ?l22 ?c22 ?k22 ?a23 ?l23 ?c23 ?k23 ?a24 ?l24 ?c24 ?k24 ?a25 ?l25 ?c25 ?k25 ?a26 ?l26 ?c26 ?k26 ?a27 ?l27 ?c27 ?k27 ?a28 ?l28 ?c28 ?k28 ?a29 ?l29 ?c29 ?k29 ?a30 ?l30 ?c30 ?k30 ?a31 ?l31 ?c31 ?k31 ?a32 ?l32 ?c32 ?k32 ?a33 ?l33 ?c33 ?k33 ?a34 ?l34 ?c34 ?k34 ?a35 ?l35 ?c35 ?k35 ?a36 ?l36 ?c36 ?k36 ?a37 ?l37 ?c37 ?k37 ?z_abs ?z_all ?z_bool ?z_int ?z_isinstance ?z_len ?z_list ?z_max ?z_min ?z_range ?z_repr ?z_str ?z_sum ?z_tuple ?z_zip
    (case aC_Bound => k_is); (case pg_Bound => k_is); (case hd_Bound => k_is); (case po_Bound => k_is); (case sa_Bound => k_is); (case mk_Bound => k_is); (case kc_Bound => k_is); (case n_Bound_n => k_is); (case n_Bound_d => k_is); (case n_Bound_is_out => k_is); (case aI_Bound => k_is); (case iI_Bound => k_is); (case lI_Bound => k_is); (case cI_Bound => k_is); (case kI_Bound => k_is); (case a0 => k_is); (case l0 => k_is); (case c0 => k_is); (case k0 => k_is); (case a1 => k_is); (case l1 => k_is); (case c1 => k_is); (case k1 => k_is); (case a2 => k_is); (case l2 => k_is); (case c2 => k_is); (case k2 => k_is); (case a3 => k_is); (case l3 => k_is); (case c3 => k_is); (case k3 => k_is); (case a4 => k_is); (case l4 => k_is); (case c4 => k_is); (case k4 => k_is); (case a5 => k_is); (case i5 => k_is); (case l5 => k_is); (case c5 => k_is); (case k5 => k_is); (case a6 => k_is); (case i6 => k_is); (case l6 => k_is); (case c6 => k_is); (case k6 => k_is); (case a7 => k_is); (case l7 => k_is); (case c7 => k_is); (case k7 => k_is); (case a8 => k_is); (case l8 => k_is); (case c8 => k_is); (case k8 => k_is); (case a9 => k_is); (case l9 => k_is); (case c9 => k_is); (case k9 => k_is); (case a10 => k_is); (case l10 => k_is); (case c10 => k_is); (case k10 => k_is); (case a11 => k_is); (case l11 => k_is); (case c11 => k_is); (case k11 => k_is); (case a12 => k_is); (case l12 => k_is); (case c12 => k_is); (case k12 => k_is); (case a13 => k_is); (case l13 => k_is); (case c13 => k_is); (case k13 => k_is); (case a14 => k_is); (case l14 => k_is); (case c14 => k_is); (case k14 => k_is); (case a15 => k_is); (case l15 => k_is); (case c15 => k_is); (case k15 => k_is); (case a16 => k_is); (case l16 => k_is); (case c16 => k_is); (case k16 => k_is); (case a17 => k_is); (case l17 => k_is); (case c17 => k_is); (case k17 => k_is); (case a18 => k_is); (case l18 => k_is); (case c18 => k_is); (case k18 => k_is); (case a19 => k_is); (case l19 => k_is); (case c19 => k_is); (case k19 => k_is); (case a20 => k_is); (case l20 => k_is); (case c20 => k_is); (case k20 => k_is); (case a21 => k_is); (case l21 => k_is); (case c21 => k_is); (case k21 => k_is); (case a22 => k_is); (case l22 => k_is); (case c22 => k_is); (case k22 => k_is); (case a23 => k_is); (case l23 => k_is); (case c23 => k_is); (case k23 => k_is); (case a24 => k_is); (case l24 => k_is); (case c24 => k_is); (case k24 => k_is); (case a25 => k_is); (case l25 => k_is); (case c25 => k_is); (case k25 => k_is); (case a26 => k_is); (case l26 => k_is); (case c26 => k_is); (case k26 => k_is); (case a27 => k_is); (case l27 => k_is); (case c27 => k_is); (case k27 => k_is); (case a28 => k_is); (case l28 => k_is); (case c28 => k_is); (case k28 => k_is); (case a29 => k_is); (case l29 => k_is); (case c29 => k_is); (case k29 => k_is); (case a30 => k_is); (case l30 => k_is); (case c30 => k_is); (case k30 => k_is); (case a31 => k_is); (case l31 => k_is); (case c31 => k_is); (case k31 => k_is); (case a32 => k_is); (case l32 => k_is); (case c32 => k_is); (case k32 => k_is); (case a33 => k_is); (case l33 => k_is); (case c33 => k_is); (case k33 => k_is); (case a34 => k_is); (case l34 => k_is); (case c34 => k_is); (case k34 => k_is); (case a35 => k_is); (case l35 => k_is); (case c35 => k_is); (case k35 => k_is); (case a36 => k_is); (case l36 => k_is); (case c36 => k_is); (case k36 => k_is); (case a37 => k_is); (case l37 => k_is); (case c37 => k_is); (case k37 => k_is); (case z_abs => k_is); (case z_all => k_is); (case z_bool => k_is); (case z_int => k_is); (case z_isinstance => k_is); (case z_len => k_is); (case z_list => k_is); (case z_max => k_is); (case z_min => k_is); (case z_range => k_is); (case z_repr => k_is); (case z_str => k_is); (case z_sum => k_is); (case z_tuple => k_is); (case z_zip => k_is)

